import PyProof.Rows.All
import Wide.All
import OpenK.AllK
import Wide.FinOn
import HandS.ForMost
import HandS.Exc
import HandS.TryOnly
import HandS.ExcOwn
import HandS.WordsExc
import HandS.Wide
import HandS.WideMore
import HandS.Flow
import HandS.SortInts
import HandS.TupAny
import HandS.Style
import HandS.Deep
import HandS.Comp
import HandS.Iter
import HandS.Walk
import HandS.Ends
import HandS.Set
import HandS.Strs
import HandS.SetFor
import HandS.SortOrd
import HandS.IsInst
import KE.GoesEnum
import KE.GoesMore
import PySem.Challenge.RW_rootsooth_k04_matrices_and_their_words
set_option Elab.async false
set_option linter.all false
set_option maxRecDepth 100000
set_option maxHeartbeats 4000000
namespace M
open PySem PySem.Spec PyProof.Rows L2

abbrev D := PyData
abbrev Ev := List (Option D)
abbrev Wd := List D
structure Ex where
  name : Str
  fld : Option Int := none
inductive Res (α : Type) where
  | bad
  | exc (e : Ex) (w : Wd)
  | ok (a : α) (w : Wd)
def Res.bind {α β : Type} : Res α → (α → Wd → Res β) → Res β
  | .bad, _ => .bad
  | .exc e w, _ => .exc e w
  | .ok a w, k => k a w
def ofO {α : Type} : Option α → Wd → Res α
  | some a, w => .ok a w
  | none, _ => .bad
@[simp] theorem bind_bad {α β : Type} (k : α → Wd → Res β) : (Res.bad : Res α).bind k = .bad := rfl
@[simp] theorem bind_exc {α β : Type} (e : Ex) (w : Wd) (k : α → Wd → Res β) : (Res.exc e w : Res α).bind k = .exc e w := rfl
@[simp] theorem bind_ok {α β : Type} (a : α) (w : Wd) (k : α → Wd → Res β) : (Res.ok a w : Res α).bind k = k a w := rfl
@[simp] theorem ofO_some {α : Type} (a : α) (w : Wd) : ofO (some a) w = .ok a w := rfl
@[simp] theorem ofO_none {α : Type} (w : Wd) : (ofO none w : Res α) = .bad := rfl
abbrev MM (α : Type) := Wd → Res α

/-! what a value is -/
mutual
inductive Rp (K : PySem.W.Frag) (H : Hp) : V → D → Prop
  | non : Rp K H .non .none
  | bl (b : Bool) : Rp K H (.bl b) (.bool b)
  | int (i : Int) : Rp K H (.int i) (.int i)
  | str (x : Str) : Rp K H (.str x) (.str x)
  | lst {a : Addr} {xs : List V} {ds : List D} : H a = some (.lst xs) → RpL K H xs ds → Rp K H (.ref a) (.list ds)
  | tup {a : Addr} {xs : List V} {ds : List D} : SqT K H a xs → RpL K H xs ds → Rp K H (.ref a) (.tuple ds)
inductive RpL (K : PySem.W.Frag) (H : Hp) : List V → List D → Prop
  | nil : RpL K H [] []
  | cons {v : V} {vs : List V} {d : D} {ds : List D} : Rp K H v d → RpL K H vs ds → RpL K H (v :: vs) (d :: ds)
end
theorem sameT {K : PySem.W.Frag} {H H' : Hp} {a : Addr} {xs : List V} (e : Same H H') (h : SqT K H a xs) : SqT K H' a xs := by
  rcases h with (h | ⟨o, h⟩) | h
  · exact .inl (.inl (e _ _ h))
  · exact .inl (.inr ⟨o, e _ _ h⟩)
  · exact .inr h
section
variable {K : PySem.W.Frag} {H H' : Hp}
mutual
theorem Rp.mono (s : Same H H') : ∀ (d : D) (v : V), Rp K H v d → Rp K H' v d
  | .none, _, h => by cases h; exact .non
  | .bool b, _, h => by cases h; exact .bl b
  | .int i, _, h => by cases h; exact .int i
  | .str x, _, h => by cases h; exact .str x
  | .list ds, _, h => by
    cases h with
    | lst h1 h2 => exact .lst (s _ _ h1) (RpL.mono s ds _ h2)
  | .tuple ds, _, h => by
    cases h with
    | tup h1 h2 => exact .tup (sameT s h1) (RpL.mono s ds _ h2)
  | .dict _, _, h => by cases h
theorem RpL.mono (s : Same H H') : ∀ (ds : List D) (vs : List V), RpL K H vs ds → RpL K H' vs ds
  | [], _, h => by cases h; exact .nil
  | d :: ds, _, h => by
    cases h with
    | cons h1 h2 => exact .cons (Rp.mono s d _ h1) (RpL.mono s ds _ h2)
end
mutual
theorem Rp.dp : ∀ (d : D) (v : V), Rp K H v d → Dp K H v d
  | .none, _, h => by cases h; exact .non
  | .bool b, _, h => by cases h; exact .bl b
  | .int i, _, h => by cases h; exact .int i
  | .str x, _, h => by cases h; exact .str x
  | .list ds, _, h => by
    cases h with
    | lst h1 h2 => exact .lst (SqL.of h1) (RpL.dp ds _ h2)
  | .tuple ds, _, h => by
    cases h with
    | tup h1 h2 => exact .tup h1 (RpL.dp ds _ h2)
  | .dict _, _, h => by cases h
theorem RpL.dp : ∀ (ds : List D) (vs : List V), RpL K H vs ds → DpAll K H vs ds
  | [], _, h => by cases h; exact .nil
  | d :: ds, _, h => by
    cases h with
    | cons h1 h2 => exact .cons (Rp.dp d _ h1) (RpL.dp ds _ h2)
end
theorem RpL.length : ∀ {ds : List D} {vs : List V}, RpL K H vs ds → vs.length = ds.length
  | [], _, h => by cases h; rfl
  | d :: ds, _, h => by
    cases h with
    | cons h1 h2 => simp [RpL.length h2]
theorem RpL.get : ∀ {ds : List D} {vs : List V} {i : Nat} {d : D}, RpL K H vs ds → ds[i]? = some d → ∃ v, vs[i]? = some v ∧ Rp K H v d
  | [], _, _, _, _, e => by simp at e
  | d :: ds, _, 0, _, h, e => by
    cases h with
    | cons h1 h2 => simp at e; subst e; exact ⟨_, rfl, h1⟩
  | d :: ds, _, i + 1, _, h, e => by
    cases h with
    | cons h1 h2 =>
      obtain ⟨v, h3, h4⟩ := RpL.get h2 (by simpa using e)
      exact ⟨v, by simpa using h3, h4⟩
theorem RpL.get' : ∀ {ds : List D} {vs : List V} {i : Nat} {v : V}, RpL K H vs ds → vs[i]? = some v → ∃ d, ds[i]? = some d ∧ Rp K H v d
  | [], _, _, _, h, e => by cases h; simp at e
  | d :: ds, _, 0, _, h, e => by
    cases h with
    | cons h1 h2 => simp at e; subst e; exact ⟨_, rfl, h1⟩
  | d :: ds, _, i + 1, _, h, e => by
    cases h with
    | cons h1 h2 =>
      obtain ⟨v, h3, h4⟩ := RpL.get' h2 (by simpa using e)
      exact ⟨v, by simpa using h3, h4⟩
theorem RpL.append : ∀ {ds es : List D} {vs us : List V}, RpL K H vs ds → RpL K H us es → RpL K H (vs ++ us) (ds ++ es)
  | [], _, _, _, h, g => by cases h; exact g
  | d :: ds, _, _, _, h, g => by
    cases h with
    | cons h1 h2 => exact .cons h1 (h2.append g)
theorem RpL.set {d : D} {v : V} (r : Rp K H v d) : ∀ {ds : List D} {vs : List V} (i : Nat), RpL K H vs ds → RpL K H (vs.set i v) (ds.set i d)
  | [], _, _, h => by cases h; exact .nil
  | _ :: _, _, 0, h => by
    cases h with
    | cons h1 h2 => exact .cons r h2
  | _ :: _, _, i + 1, h => by
    cases h with
    | cons h1 h2 => exact .cons h1 (h2.set r i)
theorem RpL.take : ∀ {ds : List D} {vs : List V} (n : Nat), RpL K H vs ds → RpL K H (vs.take n) (ds.take n)
  | _, _, 0, _ => by simp; exact .nil
  | [], _, _ + 1, h => by cases h; exact .nil
  | _ :: _, _, n + 1, h => by
    cases h with
    | cons h1 h2 => exact .cons h1 (h2.take n)
theorem RpL.drop : ∀ {ds : List D} {vs : List V} (n : Nat), RpL K H vs ds → RpL K H (vs.drop n) (ds.drop n)
  | _, _, 0, h => by simpa using h
  | [], _, _ + 1, h => by cases h; exact .nil
  | _ :: _, _, n + 1, h => by
    cases h with
    | cons h1 h2 => exact h2.drop n
theorem RpL.reverse : ∀ {ds : List D} {vs : List V}, RpL K H vs ds → RpL K H vs.reverse ds.reverse
  | [], _, h => by cases h; exact .nil
  | _ :: _, _, h => by
    cases h with
    | cons h1 h2 => simp only [List.reverse_cons]; exact h2.reverse.append (.cons h1 .nil)
theorem RpL.dropLast {ds : List D} {vs : List V} (h : RpL K H vs ds) : RpL K H vs.dropLast ds.dropLast := by
  rw [List.dropLast_eq_take, List.dropLast_eq_take, h.length]; exact h.take _
/-- lists of ints -/
theorem RpL.ints : ∀ {ns : List Int} {vs : List V}, RpL K H vs (ns.map PyData.int) → vs = ns.map V.int
  | [], _, h => by cases h; rfl
  | n :: ns, _, h => by
    cases h with
    | cons h1 h2 => cases h1; simp [RpL.ints h2]
theorem RpL.of_ints : ∀ (ns : List Int), RpL K H (ns.map V.int) (ns.map PyData.int)
  | [] => .nil
  | n :: ns => .cons (.int n) (RpL.of_ints ns)
theorem RpL.bools : ∀ {ns : List Bool} {vs : List V}, RpL K H vs (ns.map PyData.bool) → vs = ns.map V.bl
  | [], _, h => by cases h; rfl
  | n :: ns, _, h => by
    cases h with
    | cons h1 h2 => cases h1; simp [RpL.bools h2]
end
def intsOf : List D → Option (List Int)
  | [] => some []
  | .int i :: r => (intsOf r).map (i :: ·)
  | _ :: _ => none
def boolsOf : List D → Option (List Bool)
  | [] => some []
  | .bool i :: r => (boolsOf r).map (i :: ·)
  | _ :: _ => none
theorem intsOf_eq : ∀ {ds : List D} {ns : List Int}, intsOf ds = some ns → ds = ns.map PyData.int
  | [], _, h => by simp [intsOf] at h; subst h; rfl
  | .int i :: r, ns, h => by
    simp only [intsOf, Option.map_eq_some_iff] at h
    obtain ⟨a, h1, rfl⟩ := h
    simp [intsOf_eq h1]
  | .none :: _, _, h => by simp [intsOf] at h
  | .bool _ :: _, _, h => by simp [intsOf] at h
  | .str _ :: _, _, h => by simp [intsOf] at h
  | .list _ :: _, _, h => by simp [intsOf] at h
  | .tuple _ :: _, _, h => by simp [intsOf] at h
  | .dict _ :: _, _, h => by simp [intsOf] at h
theorem boolsOf_eq : ∀ {ds : List D} {ns : List Bool}, boolsOf ds = some ns → ds = ns.map PyData.bool
  | [], _, h => by simp [boolsOf] at h; subst h; rfl
  | .bool i :: r, ns, h => by
    simp only [boolsOf, Option.map_eq_some_iff] at h
    obtain ⟨a, h1, rfl⟩ := h
    simp [boolsOf_eq h1]
  | .none :: _, _, h => by simp [boolsOf] at h
  | .int _ :: _, _, h => by simp [boolsOf] at h
  | .str _ :: _, _, h => by simp [boolsOf] at h
  | .list _ :: _, _, h => by simp [boolsOf] at h
  | .tuple _ :: _, _, h => by simp [boolsOf] at h
  | .dict _ :: _, _, h => by simp [boolsOf] at h
@[simp] theorem intsOf_map : ∀ (ns : List Int), intsOf (ns.map PyData.int) = some ns
  | [] => rfl
  | n :: ns => by simp [intsOf, intsOf_map ns]
@[simp] theorem boolsOf_map : ∀ (ns : List Bool), boolsOf (ns.map PyData.bool) = some ns
  | [] => rfl
  | n :: ns => by simp [boolsOf, boolsOf_map ns]

/-! heaps: the frozen part F under H -/
structure Xt (b : Option Addr) (F H F' H' : Hp) : Prop where
  ff : Same F F'
  fh : Same F' H'
  keep : ∀ a o, H a = some o → b ≠ some a → H' a = some o
  dom : ∀ a, H a ≠ none → H' a ≠ none
  new : ∀ a, H a ≠ none → F' a = F a
theorem Xt.refl {b : Option Addr} {F H : Hp} (h : Same F H) : Xt b F H F H := ⟨Same.refl _, h, fun _ _ h _ => h, fun _ h => h, fun _ _ => rfl⟩
theorem Xt.trans {b : Option Addr} {F H F1 H1 F2 H2 : Hp} (x : Xt b F H F1 H1) (y : Xt b F1 H1 F2 H2) : Xt b F H F2 H2 :=
  ⟨x.ff.trans y.ff, y.fh, fun a o h n => y.keep a o (x.keep a o h n) n, fun a h => y.dom a (x.dom a h), fun a h => (y.new a (x.dom a h)).trans (x.new a h)⟩
theorem Xt.any {b : Option Addr} {F H F' H' : Hp} (x : Xt none F H F' H') : Xt b F H F' H' := ⟨x.ff, x.fh, fun a o h _ => x.keep a o h (by simp), x.dom, x.new⟩
theorem Same.none {F H : Hp} (h : Same F H) {p : Addr} (e : H p = none) : F p = none := Same.free h e
theorem same_upd {H : Hp} {p : Addr} {o : HO} (h : H p = none) : Same H (upd H p o) := fun b x e => by
  rw [upd_ne (ne_of_none e h)]; exact e
/-- a new object, frozen -/
theorem Xt.alloc {b : Option Addr} {F H : Hp} {p : Addr} {o : HO} (h : Same F H) (e : H p = none) : Xt b F H (upd F p o) (upd H p o) := by
  refine ⟨same_upd (Same.none h e), fun a u q => ?_, fun a u q _ => ?_, fun a q => ?_, fun a q => ?_⟩
  · by_cases ha : a = p
    · subst ha; rw [upd_same] at q ⊢; exact q
    · rw [upd_ne ha] at q ⊢; exact h _ _ q
  · rw [upd_ne (ne_of_none q e)]; exact q
  · have ha : a ≠ p := fun z => q (z ▸ e)
    rw [upd_ne ha]; exact q
  · have ha : a ≠ p := fun z => q (z ▸ e)
    rw [upd_ne ha]
/-- a new object, not frozen -/
theorem Xt.alloc0 {b : Option Addr} {F H : Hp} {p : Addr} {o : HO} (h : Same F H) (e : H p = none) : Xt b F H F (upd H p o) := by
  refine ⟨Same.refl _, h.trans (same_upd e), fun a u q _ => ?_, fun a q => ?_, fun a q => rfl⟩
  · rw [upd_ne (ne_of_none q e)]; exact q
  · have ha : a ≠ p := fun z => q (z ▸ e)
    rw [upd_ne ha]; exact q

structure CM where
  K : PySem.W.Frag
  mg : Str → Option Value
  H0 : Hp
  F0 : Hp
  b : Option Addr
def BorOk (c : CM) (F : Hp) (ω : Wd) (H : Hp) : Prop := ∀ b, c.b = some b → c.H0 b ≠ none ∧ F b = none ∧ ∃ us, H b = some (.lst us) ∧ RpL c.K F us ω
theorem BorOk.ext {c : CM} {F H F' H' : Hp} {ω : Wd} (h : BorOk c F ω H) (x : Xt none F H F' H') : BorOk c F' ω H' := fun b e => by
  obtain ⟨h0, h1, us, h2, h3⟩ := h b e
  exact ⟨h0, by rw [x.new b (by rw [h2]; simp)]; exact h1, us, x.keep b _ h2 (by simp), h3.mono x.ff⟩
structure Frm (c : CM) (F : Hp) (ω : Wd) (H : Hp) : Prop where
  xt : Xt c.b c.F0 c.H0 F H
  bo : BorOk c F ω H
structure Md where
  O : List Nat := []
  B : Option Nat := none
structure SR (c : CM) (m : Md) (F : Hp) (ρ : Ev) (ω : Wd) (σ : L2.St) (H : Hp) : Prop where
  fr : Frm c F ω H
  len : ρ.length = σ.length
  dat : ∀ i d, ρ[i]? = some (some d) → i ∉ m.O → ∃ v, σ[i]? = some (some v) ∧ Rp c.K F v d
  own : ∀ i d, ρ[i]? = some (some d) → i ∈ m.O → ∃ l us ds, σ[i]? = some (some (.ref l)) ∧ d = .list ds ∧ c.H0 l = none ∧ F l = none ∧ H l = some (.lst us) ∧ RpL c.K F us ds
  sep : ∀ i j l di dj, i ∈ m.O → j ∈ m.O → ρ[i]? = some (some di) → ρ[j]? = some (some dj) → σ[i]? = some (some (.ref l)) → σ[j]? = some (some (.ref l)) → i = j
  bsl : ∀ i, m.B = some i → ρ[i]? = some none ∧ ∃ b, c.b = some b ∧ σ[i]? = some (some (.ref b))
theorem SR.fh {c : CM} {m : Md} {F : Hp} {ρ : Ev} {ω : Wd} {σ : L2.St} {H : Hp} (S : SR c m F ρ ω σ H) : Same F H := S.fr.xt.fh
theorem SR.bo {c : CM} {m : Md} {F : Hp} {ρ : Ev} {ω : Wd} {σ : L2.St} {H : Hp} (S : SR c m F ρ ω σ H) : BorOk c F ω H := S.fr.bo
theorem SR.step {c : CM} {m : Md} {F F' : Hp} {ρ : Ev} {ω ω' : Wd} {σ : L2.St} {H H' : Hp} (S : SR c m F ρ ω σ H) (x : Xt c.b F H F' H') (bo : BorOk c F' ω' H') : SR c m F' ρ ω' σ H' where
  fr := ⟨S.fr.xt.trans x, bo⟩
  len := S.len
  dat := fun i d e n => by
    obtain ⟨v, h1, h2⟩ := S.dat i d e n
    exact ⟨v, h1, h2.mono x.ff⟩
  own := fun i d e n => by
    obtain ⟨l, us, ds, h1, h2, h3, h4, h5, h6⟩ := S.own i d e n
    refine ⟨l, us, ds, h1, h2, h3, by rw [x.new l (by rw [h5]; simp)]; exact h4, x.keep l _ h5 (fun z => ?_), h6.mono x.ff⟩
    exact (S.bo l z).1 h3
  sep := S.sep
  bsl := S.bsl

def RepX (c : CM) (e : Ex) (cls : Value) (dd : Option Addr) (H : Hp) : Prop :=
  ∃ C, c.mg e.name = some (.ref C) ∧ cls = .ref C ∧ match e.fld with
    | none => dd = none
    | some n => ∃ a, dd = some a ∧ H a = some (.xd [("place", .int n)])

def Post {α : Type} (c : CM) (W : WX) (F H : Hp) (σ : L2.St) (R : α → Hp → Hp → Wd → Prop) : Res α → Prop
  | .bad => False
  | .ok a ω => ∀ F' H', Xt c.b F H F' H' → BorOk c F' ω H' → R a F' H' ω
  | .exc e ω => ∀ F' H' cls dd, Xt c.b F H F' H' → BorOk c F' ω H' → RepX c e cls dd H' → W cls dd σ H'
structure PGd {β : Type} (c : CM) (W : WX) (σ : L2.St) (G : Hp → Hp → Res β → Prop) : Prop where
  bad : ∀ F H, ¬ G F H .bad
  exc : ∀ F H e ω, G F H (.exc e ω) → ∀ F' H' cls dd, Xt c.b F H F' H' → BorOk c F' ω H' → RepX c e cls dd H' → W cls dd σ H'
  mono : ∀ F H F1 H1 r, Xt c.b F H F1 H1 → G F H r → G F1 H1 r
theorem Post.pg {α : Type} {c : CM} {W : WX} {σ : L2.St} {R : α → Hp → Hp → Wd → Prop} : PGd c W σ (fun F H r => Post c W F H σ R r) where
  bad := fun _ _ h => h
  exc := fun _ _ _ _ h => h
  mono := fun F H F1 H1 r x h => by
    cases r with
    | bad => exact h
    | ok a ω => exact fun F' H' y bo => h F' H' (x.trans y) bo
    | exc e ω => exact fun F' H' cls dd y bo r => h F' H' cls dd (x.trans y) bo r
theorem bindT {α β : Type} {c : CM} {W : WX} {m : Md} {F H : Hp} {ρ : Ev} {ω : Wd} {σ : L2.St} {G : Hp → Hp → Res β → Prop} (S : SR c m F ρ ω σ H) (pg : PGd c W σ G) {r1 : Res α} {k : α → Wd → Res β} (h : G F H (r1.bind k))
    {R : α → Hp → Hp → Wd → Prop} (cont : ∀ a F1 H1 ω1, Xt c.b F H F1 H1 → SR c m F1 ρ ω1 σ H1 → G F1 H1 (k a ω1) → R a F1 H1 ω1) : Post c W F H σ R r1 := by
  cases r1 with
  | bad => exact pg.bad _ _ h
  | exc e w => exact pg.exc _ _ _ _ h
  | ok a w => exact fun F' H' x bo => cont a F' H' w x (S.step x bo) (pg.mono _ _ _ _ _ x h)

def TD (c : CM) (W : WX) (m : Md) (d : Ev → MM D) : TE := fun σ H Q => ∃ F ρ ω, SR c m F ρ ω σ H ∧ Post c W F H σ (fun v F' H' _ => ∀ x, Rp c.K F' x v → Q x H') (d ρ ω)
def TDb (c : CM) (W : WX) (m : Md) (d : Ev → MM Bool) : TT := fun σ H Q => ∃ F ρ ω, SR c m F ρ ω σ H ∧ Post c W F H σ (fun b _ H' _ => Q b H') (d ρ ω)
def TDa (c : CM) (W : WX) (m : Md) (d : Ev → MM (List D)) : TA := fun σ H Q => ∃ F ρ ω, SR c m F ρ ω σ H ∧ Post c W F H σ (fun vs F' H' _ => ∀ xs, RpL c.K F' xs vs → Q xs H') (d ρ ω)
section
variable {X : Cx} {e : Expr} {es : List Expr} {st : Stmt} {sts : List Stmt}
theorem PEimp {t t' : TE} (h : PE X e t) (i : ∀ σ H Q, t' σ H Q → t σ H Q) : PE X e t' := ⟨fun p s σ H Q I q => h.run p s σ H Q I (i _ _ _ q)⟩
theorem PTimp {t t' : TT} (h : PT X e t) (i : ∀ σ H Q, t' σ H Q → t σ H Q) : PT X e t' := ⟨fun p s σ H Q I q => h.run p s σ H Q I (i _ _ _ q)⟩
theorem PWimp {t t' : TT} (h : PW X e t) (i : ∀ σ H Q, t' σ H Q → t σ H Q) : PW X e t' := ⟨fun w p s σ H Q I q => h.run w p s σ H Q I (i _ _ _ q)⟩
theorem PAimp {t t' : TA} (h : PA X es t) (i : ∀ σ H Q, t' σ H Q → t σ H Q) : PA X es t' := ⟨fun p pp s σ H Q I q => h.run p pp s σ H Q I (i _ _ _ q)⟩
theorem PSimp {t t' : TS} (h : PS X st t) (i : ∀ D σ H, t' D σ H → t D σ H) : PS X st t' := ⟨fun p s σ H D I q => h.run p s σ H D I (i _ _ _ q)⟩
theorem PSsimp {t t' : TS} (h : PSs X sts t) (i : ∀ D σ H, t' D σ H → t D σ H) : PSs X sts t' := ⟨fun p s σ H D I q => h.run p s σ H D I (i _ _ _ q)⟩
end
end M

set_option Elab.async false
set_option linter.all false
set_option maxRecDepth 100000
set_option maxHeartbeats 4000000
namespace M
open PySem PySem.Spec PyProof.Rows L2

/-! ### denotations of expressions -/
def look : Ev → Nat → Option D
  | [], _ => none
  | o :: _, 0 => o
  | _ :: r, n + 1 => look r n
theorem look_iff : ∀ {ρ : Ev} {i : Nat} {d : D}, look ρ i = some d → ρ[i]? = some (some d)
  | [], _, _, h => by simp [look] at h
  | o :: _, 0, _, h => by simp [look] at h; simp [h]
  | _ :: r, n + 1, _, h => by simp [look] at h; simpa using look_iff h
def eVar (i : Nat) : Ev → MM D := fun ρ ω => ofO (look ρ i) ω
def eC (d : D) : Ev → MM D := fun _ ω => .ok d ω
def eUn (f : D → Option D) (d1 : Ev → MM D) : Ev → MM D := fun ρ ω => (d1 ρ ω).bind fun a w => ofO (f a) w
def eBin (f : D → D → Option D) (d1 d2 : Ev → MM D) : Ev → MM D := fun ρ ω => (d1 ρ ω).bind fun a w => (d2 ρ w).bind fun b w => ofO (f a b) w
def bBin (f : D → D → Option Bool) (d1 d2 : Ev → MM D) : Ev → MM Bool := fun ρ ω => (d1 ρ ω).bind fun a w => (d2 ρ w).bind fun b w => ofO (f a b) w
def bChain (f g : D → D → Option Bool) (d1 d2 d3 : Ev → MM D) : Ev → MM Bool := fun ρ ω => (d1 ρ ω).bind fun a w => (d2 ρ w).bind fun b w => (ofO (f a b) w).bind fun t w => match t with
  | true => (d3 ρ w).bind fun c w => ofO (g b c) w
  | false => .ok false w
def eOfB (d : Ev → MM Bool) : Ev → MM D := fun ρ ω => (d ρ ω).bind fun b w => .ok (.bool b) w
def asB : D → Option Bool
  | .bool b => some b
  | _ => none
def bOfE (d : Ev → MM D) : Ev → MM Bool := fun ρ ω => (d ρ ω).bind fun a w => ofO (asB a) w
def truth : D → Option Bool
  | .none => some false
  | .bool b => some b
  | .int i => some (i != 0)
  | .list xs => some (!xs.isEmpty)
  | .tuple xs => some (!xs.isEmpty)
  | _ => none
def bTru (d : Ev → MM D) : Ev → MM Bool := fun ρ ω => (d ρ ω).bind fun a w => ofO (truth a) w
def bNot (d : Ev → MM Bool) : Ev → MM Bool := fun ρ ω => (d ρ ω).bind fun b w => .ok (!b) w
def bAnd (d1 d2 : Ev → MM Bool) : Ev → MM Bool := fun ρ ω => (d1 ρ ω).bind fun b w => match b with
  | true => d2 ρ w
  | false => .ok false w
def bOr (d1 d2 : Ev → MM Bool) : Ev → MM Bool := fun ρ ω => (d1 ρ ω).bind fun b w => match b with
  | true => .ok true w
  | false => d2 ρ w
def eIf (t : Ev → MM Bool) (d1 d2 : Ev → MM D) : Ev → MM D := fun ρ ω => (t ρ ω).bind fun b w => match b with
  | true => d1 ρ w
  | false => d2 ρ w
def aNil : Ev → MM (List D) := fun _ ω => .ok [] ω
def aCons (d : Ev → MM D) (ds : Ev → MM (List D)) : Ev → MM (List D) := fun ρ ω => (d ρ ω).bind fun a w => (ds ρ w).bind fun r w => .ok (a :: r) w
def eTup (ds : Ev → MM (List D)) : Ev → MM D := fun ρ ω => (ds ρ ω).bind fun r w => .ok (.tuple r) w
def eLst (ds : Ev → MM (List D)) : Ev → MM D := fun ρ ω => (ds ρ ω).bind fun r w => .ok (.list r) w
def eArgs (f : List D → Option D) (ds : Ev → MM (List D)) : Ev → MM D := fun ρ ω => (ds ρ ω).bind fun r w => ofO (f r) w
def Res.at {α : Type} : Res α → Wd → Res α
  | .bad, _ => .bad
  | .exc e _, w => .exc e w
  | .ok a _, w => .ok a w
@[simp] theorem at_ok {α : Type} (a : α) (w v : Wd) : (Res.ok a w).at v = .ok a v := rfl
@[simp] theorem at_exc {α : Type} (e : Ex) (w v : Wd) : (Res.exc e w : Res α).at v = .exc e v := rfl
@[simp] theorem at_bad {α : Type} (v : Wd) : (Res.bad : Res α).at v = .bad := rfl
def eCall (f : List D → Res D) (ds : Ev → MM (List D)) : Ev → MM D := fun ρ ω => (ds ρ ω).bind fun r w => (f r).at w
/-- a call whose first argument is the borrowed list -/
def eCallS (f : List D → MM D) (ds : Ev → MM (List D)) : Ev → MM D := fun ρ ω => (ds ρ ω).bind fun r w => f r w

def AL (n : Nat) (ds : Ev → MM (List D)) : Prop := ∀ ρ ω r w, ds ρ ω = .ok r w → r.length = n
theorem AL.nil : AL 0 aNil := fun ρ ω r w h => by simp [aNil] at h; simp [← h.1]
theorem AL.cons {n : Nat} {d : Ev → MM D} {ds : Ev → MM (List D)} (h : AL n ds) : AL (n + 1) (aCons d ds) := fun ρ ω r w e => by
  unfold aCons at e
  cases e1 : d ρ ω with
  | bad => rw [e1] at e; cases e
  | exc x y => rw [e1] at e; cases e
  | ok a w1 =>
    rw [e1, bind_ok] at e
    cases e2 : ds ρ w1 with
    | bad => rw [e2] at e; cases e
    | exc x y => rw [e2] at e; cases e
    | ok b w2 =>
      rw [e2, bind_ok] at e
      cases e
      simp [h _ _ _ _ e2]

/-! ### the judgements -/
abbrev E (c : CM) (W : WX) (m : Md) (X : Cx) (e : Expr) (d : Ev → MM D) : Prop := PE X e (TD c W m d)
abbrev B (c : CM) (W : WX) (m : Md) (X : Cx) (e : Expr) (d : Ev → MM Bool) : Prop := PT X e (TDb c W m d)
abbrev BW (c : CM) (W : WX) (m : Md) (X : Cx) (e : Expr) (d : Ev → MM Bool) : Prop := PW X e (TDb c W m d)
structure A (c : CM) (W : WX) (m : Md) (X : Cx) (es : List Expr) (d : Ev → MM (List D)) : Prop where
  pa : PA X es (TDa c W m d)
  len : AL es.length d
/-- values out of values; what is new is frozen -/
def VOp (K : PySem.W.Frag) (r : R2) (f : D → D → Option D) : Prop := ∀ F H x y a b v Q, Same F H → Rp K F x a → Rp K F y b → f a b = some v → (∀ F' H' z, Xt none F H F' H' → Rp K F' z v → Q z H') → r x y H Q
def VOpB (K : PySem.W.Frag) (r : R2) (f : D → D → Option Bool) : Prop := ∀ F H x y a b v Q, Same F H → Rp K F x a → Rp K F y b → f a b = some v → Q (.bl v) H → r x y H Q
def VUn (K : PySem.W.Frag) (r : V → Hp → VK → Prop) (f : D → Option D) : Prop := ∀ F H x a v Q, Same F H → Rp K F x a → f a = some v → (∀ F' H' z, Xt none F H F' H' → Rp K F' z v → Q z H') → r x H Q
def VAr (K : PySem.W.Frag) (r : List V → Hp → VK → Prop) (f : List D → Option D) : Prop := ∀ F H xs as v Q, Same F H → RpL K F xs as → f as = some v → (∀ F' H' z, Xt none F H F' H' → Rp K F' z v → Q z H') → r xs H Q

section
variable {c : CM} {W : WX} {m : Md} {X : Cx} {e a b : Expr} {es : List Expr} {pos : Pos}
/-- the end of a pure step -/
theorem post_ofO {α : Type} {F H : Hp} {σ : L2.St} {ω : Wd} {R : α → Hp → Hp → Wd → Prop} {o : Option α} (S : Same F H) (bo : BorOk c F ω H) (h : Post c W F H σ R (ofO o ω)) : ∃ v, o = some v ∧ ∀ F' H', Xt none F H F' H' → R v F' H' ω := by
  cases o with
  | none => exact h.elim
  | some v => exact ⟨v, rfl, fun F' H' x => h F' H' x.any (bo.ext x)⟩
theorem e_var {i : Nat} {x : Str} (hi : i ∉ m.O) (h : PE X (.Name x pos) (tVar i)) : E c W m X (.Name x pos) (eVar i) := PEimp h fun σ H Q ⟨F, ρ, ω, S, q⟩ => by
  obtain ⟨d, e1, q⟩ := post_ofO S.fh S.bo q
  obtain ⟨v, h1, h2⟩ := S.dat i d (look_iff e1) hi
  exact ⟨v, h1, q F H (Xt.refl S.fh) v h2⟩
theorem e_c {v : V} {d : D} (h : PE X e (tC v)) (r : ∀ F, Rp c.K F v d) : E c W m X e (eC d) := PEimp h fun σ H Q ⟨F, ρ, ω, S, q⟩ => q F H (Xt.refl S.fh) S.bo v (r F)
theorem e_int {i j} : E c W m X (.Constant (.int i) j pos) (eC (.int i)) := e_c pe_int fun _ => .int i
theorem e_bl {i j} : E c W m X (.Constant (.bool i) j pos) (eC (.bool i)) := e_c pe_bl fun _ => .bl i
theorem e_str {i j} : E c W m X (.Constant (.str i) j pos) (eC (.str i)) := e_c pe_str fun _ => .str i
theorem e_non {j} : E c W m X (.Constant .none j pos) (eC .none) := e_c pe_non fun _ => .non

theorem bin_step {F H : Hp} {ρ : Ev} {ω : Wd} {σ : L2.St} {β : Type} {G : Hp → Hp → Res β → Prop} {d1 d2 : Ev → MM D} {k : D → D → Wd → Res β} {R : V → V → Hp → Prop} (S : SR c m F ρ ω σ H) (pg : PGd c W σ G)
    (q : G F H ((d1 ρ ω).bind fun a w => (d2 ρ w).bind fun b w => k a b w))
    (cont : ∀ F2 H2 x y a b w, Xt c.b F H F2 H2 → SR c m F2 ρ w σ H2 → Rp c.K F2 x a → Rp c.K F2 y b → G F2 H2 (k a b w) → R x y H2) :
    TD c W m d1 σ H fun x H1 => TD c W m d2 σ H1 fun y H2 => R x y H2 := by
  refine ⟨F, ρ, ω, S, bindT S pg q fun a F1 H1 w1 x1 S1 q1 x r1 => ?_⟩
  refine ⟨F1, ρ, w1, S1, bindT S1 pg q1 fun b F2 H2 w2 x2 S2 q2 y r2 => ?_⟩
  exact cont F2 H2 x y a b w2 (x1.trans x2) S2 (r1.mono x2.ff) r2 q2
theorem e_bin {op : Operator} {r : R2} {f : D → D → Option D} {d1 d2 : Ev → MM D} (ho : OpR X (binaryOp op) r) (v : VOp c.K r f) (h1 : E c W m X a d1) (h2 : E c W m X b d2) : E c W m X (.BinOp a op b pos) (eBin f d1 d2) :=
  PEimp (pe_op ho h1 h2) fun σ H Q ⟨F, ρ, ω, S, q⟩ => bin_step S Post.pg q fun F2 H2 x y a b w _ S2 r1 r2 q2 => by
    obtain ⟨z, e1, q3⟩ := post_ofO S2.fh S2.bo q2
    exact v F2 H2 x y a b z Q S2.fh r1 r2 e1 fun F' H' z' xt rz => q3 F' H' xt z' rz
theorem e_un {op : UnaryOp} {r : V → Hp → VK → Prop} {f : D → Option D} {d1 : Ev → MM D} (ho : UnR X (unaryOp op) r) (v : VUn c.K r f) (h1 : E c W m X a d1) : E c W m X (.UnaryOp op a pos) (eUn f d1) :=
  PEimp (pe_un ho h1) fun σ H Q ⟨F, ρ, ω, S, q⟩ => ⟨F, ρ, ω, S, bindT S Post.pg q fun a F1 H1 w1 x1 S1 q1 x r1 => by
    obtain ⟨z, e1, q3⟩ := post_ofO S1.fh S1.bo q1
    exact v F1 H1 x a z Q S1.fh r1 e1 fun F' H' z' xt rz => q3 F' H' xt z' rz⟩
theorem e_ix {r : R2} {f : D → D → Option D} {d1 d2 : Ev → MM D} (ho : IxR X r) (v : VOp c.K r f) (h1 : E c W m X a d1) (h2 : E c W m X b d2) (hs : PlainIx b) : E c W m X (.Subscript a b pos) (eBin f d1 d2) :=
  PEimp (pe_ix ho h1 h2 hs) fun σ H Q ⟨F, ρ, ω, S, q⟩ => bin_step S Post.pg q fun F2 H2 x y a b w _ S2 r1 r2 q2 => by
    obtain ⟨z, e1, q3⟩ := post_ofO S2.fh S2.bo q2
    exact v F2 H2 x y a b z Q S2.fh r1 r2 e1 fun F' H' z' xt rz => q3 F' H' xt z' rz
theorem e_cmp {op : CmpOp} {r : R2} {f : D → D → Option Bool} {d1 d2 : Ev → MM D} (ho : OpR X (compareOp op) r) (v : VOpB c.K r f) (h1 : E c W m X a d1) (h2 : E c W m X b d2) (hm : behindInMarks op b = false) : E c W m X (.Compare a [op] [b] pos) (eOfB (bBin f d1 d2)) :=
  PEimp (pe_cmpR ho h1 h2 hm) fun σ H Q ⟨F, ρ, ω, S, q⟩ => by
    have q' : Post c W F H σ (fun v F' H' _ => ∀ x, Rp c.K F' x v → Q x H') ((d1 ρ ω).bind fun a w => (d2 ρ w).bind fun b w => (ofO (f a b) w).bind fun t w => .ok (.bool t) w) := by
      unfold eOfB bBin at q
      cases h : d1 ρ ω with
      | ok a w =>
        rw [h] at q
        cases h' : d2 ρ w with
        | ok b w' => simpa [h'] using q
        | _ => simpa [h'] using q
      | _ => rw [h] at q; exact q
    exact bin_step S Post.pg q' fun F2 H2 x y a b w _ S2 r1 r2 q2 => by
      cases e1 : f a b with
      | none => rw [e1] at q2; exact q2.elim
      | some t =>
        rw [e1] at q2
        exact v F2 H2 x y a b t Q S2.fh r1 r2 e1 (q2 F2 H2 (Xt.refl S2.fh) S2.bo _ (.bl t))
theorem b_cmp {op : CmpOp} {r : R2} {f : D → D → Option Bool} {d1 d2 : Ev → MM D} (ho : OpR X (compareOp op) r) (v : VOpB c.K r f) (h1 : E c W m X a d1) (h2 : E c W m X b d2) (hm : behindInMarks op b = false) : B c W m X (.Compare a [op] [b] pos) (bBin f d1 d2) :=
  PTimp (pt_cmpR ho h1 h2 hm) fun σ H Q ⟨F, ρ, ω, S, q⟩ => bin_step S Post.pg q fun F2 H2 x y a b w _ S2 r1 r2 q2 => by
    obtain ⟨z, e1, q3⟩ := post_ofO S2.fh S2.bo q2
    exact v F2 H2 x y a b z _ S2.fh r1 r2 e1 ⟨z, rfl, q3 F2 H2 (Xt.refl S2.fh)⟩
theorem b_chain {op op' : CmpOp} {r r' : R2} {f g : D → D → Option Bool} {d1 d2 d3 : Ev → MM D} {cc : Expr} (ho : OpR X (compareOp op) r) (ho' : OpR X (compareOp op') r') (v : VOpB c.K r f) (v' : VOpB c.K r' g) (h1 : E c W m X a d1) (h2 : E c W m X b d2) (h3 : E c W m X cc d3)
    (hm : lastMarks [op, op'] [b, cc] = false := by with_unfolding_all rfl) : B c W m X (.Compare a [op, op'] [b, cc] pos) (bChain f g d1 d2 d3) :=
  PTimp (pt_chain ho ho' h1 h2 h3 hm) fun σ H Q ⟨F, ρ, ω, S, q⟩ => bin_step S Post.pg q fun F2 H2 x y a b w _ S2 r1 r2 q2 => by
    cases e1 : f a b with
    | none => rw [e1] at q2; exact q2.elim
    | some t =>
      rw [e1, ofO_some, bind_ok] at q2
      refine v F2 H2 x y a b t _ S2.fh r1 r2 e1 ⟨t, rfl, ?_⟩
      cases t with
      | false => exact ⟨false, rfl, q2 F2 H2 (Xt.refl S2.fh) S2.bo⟩
      | true =>
        refine iteT ⟨F2, ρ, w, S2, bindT S2 Post.pg q2 fun z F3 H3 w3 x3 S3 q3 zv r3 => ?_⟩
        obtain ⟨t', e2, q4⟩ := post_ofO S3.fh S3.bo q3
        exact v' F3 H3 y zv b z t' _ S3.fh (r2.mono x3.ff) r3 e2 ⟨t', rfl, q4 F3 H3 (Xt.refl S3.fh)⟩
theorem e_chain {op op' : CmpOp} {r r' : R2} {f g : D → D → Option Bool} {d1 d2 d3 : Ev → MM D} {cc : Expr} (ho : OpR X (compareOp op) r) (ho' : OpR X (compareOp op') r') (v : VOpB c.K r f) (v' : VOpB c.K r' g) (h1 : E c W m X a d1) (h2 : E c W m X b d2) (h3 : E c W m X cc d3)
    (hm : lastMarks [op, op'] [b, cc] = false := by with_unfolding_all rfl) : E c W m X (.Compare a [op, op'] [b, cc] pos) (eOfB (bChain f g d1 d2 d3)) :=
  PEimp (pe_chain ho ho' h1 h2 h3 hm) fun σ H Q ⟨F, ρ, ω, S, q⟩ => by
    have q' : Post c W F H σ (fun v F' H' _ => ∀ x, Rp c.K F' x v → Q x H') ((d1 ρ ω).bind fun a w => (d2 ρ w).bind fun b w => ((ofO (f a b) w).bind fun t w => match t with
        | true => (d3 ρ w).bind fun c w => ofO (g b c) w
        | false => .ok false w).bind fun t w => .ok (.bool t) w) := by
      unfold eOfB bChain at q
      cases h : d1 ρ ω with
      | ok a w =>
        rw [h] at q
        cases h' : d2 ρ w with
        | ok b w' => simpa [h'] using q
        | _ => simpa [h'] using q
      | _ => rw [h] at q; exact q
    exact bin_step S Post.pg q' fun F2 H2 x y a b w _ S2 r1 r2 q2 => by
      cases e1 : f a b with
      | none => rw [e1] at q2; exact q2.elim
      | some t =>
        rw [e1, ofO_some, bind_ok] at q2
        refine v F2 H2 x y a b t _ S2.fh r1 r2 e1 ⟨t, rfl, ?_⟩
        cases t with
        | false => exact iteF (q2 F2 H2 (Xt.refl S2.fh) S2.bo _ (.bl false))
        | true =>
          have q3 : Post c W F2 H2 σ (fun v F' H' _ => ∀ x, Rp c.K F' x v → Q x H') ((d3 ρ w).bind fun z w => (ofO (g b z) w).bind fun t w => .ok (.bool t) w) := by
            cases h : d3 ρ w with
            | _ => simpa [h] using q2
          refine iteT ⟨F2, ρ, w, S2, bindT S2 Post.pg q3 fun z F3 H3 w3 x3 S3 q3 zv r3 => ?_⟩
          cases e2 : g b z with
          | none => rw [e2] at q3; exact q3.elim
          | some t' =>
            rw [e2] at q3
            exact v' F3 H3 y zv b z t' _ S3.fh (r2.mono x3.ff) r3 e2 (q3 F3 H3 (Xt.refl S3.fh) S3.bo _ (.bl t'))
theorem b_val {d : Ev → MM D} (h : E c W m X e d) (he : ∀ whole, isTrue e X.env whole = (do let v ← whole; standAt e.pos; holding [v] (truthy v)) := by intro _; rfl) : B c W m X e (bOfE d) :=
  PTimp (pt_val h he) fun σ H Q ⟨F, ρ, ω, S, q⟩ => ⟨F, ρ, ω, S, bindT S Post.pg q fun a F1 H1 w1 x1 S1 q1 x r1 => by
    obtain ⟨z, e1, q3⟩ := post_ofO S1.fh S1.bo q1
    cases r1 <;> simp [asB] at e1
    subst e1
    exact ⟨_, rfl, q3 F1 H1 (Xt.refl S1.fh)⟩⟩
theorem b_tru {d : Ev → MM D} (h : E c W m X e d) (hk : X.K = c.K) (he : ∀ whole, isTrue e X.env whole = (do let v ← whole; standAt e.pos; holding [v] (truthy v)) := by intro _; rfl) : B c W m X e (bTru d) :=
  PTimp (pt_truth h he) fun σ H Q ⟨F, ρ, ω, S, q⟩ => ⟨F, ρ, ω, S, bindT S Post.pg q fun a F1 H1 w1 x1 S1 q1 x r1 => by
    obtain ⟨z, e1, q3⟩ := post_ofO S1.fh S1.bo q1
    refine ⟨z, ?_, q3 F1 H1 (Xt.refl S1.fh)⟩
    cases r1 with
    | non => simp [truth] at e1; exact e1
    | bl _ => simp [truth] at e1; exact e1.symm
    | int _ => simp [truth] at e1; exact e1.symm
    | str _ => simp [truth] at e1
    | lst h1 h2 =>
      simp [truth] at e1
      refine .inl ⟨_, SqL.of (S1.fh _ _ h1), ?_⟩
      cases h2 <;> simp_all
    | tup h1 h2 =>
      simp [truth] at e1
      refine .inr (.inl ⟨_, by rw [hk]; exact sameT S1.fh h1, ?_⟩)
      cases h2 <;> simp_all⟩
theorem b_not {d : Ev → MM Bool} (h : B c W m X a d) : B c W m X (.UnaryOp .Not a pos) (bNot d) :=
  PTimp (pt_not h) fun σ H Q ⟨F, ρ, ω, S, q⟩ => ⟨F, ρ, ω, S, bindT S Post.pg q fun a F1 H1 w1 x1 S1 q1 => q1 F1 H1 (Xt.refl S1.fh) S1.bo⟩
theorem e_not {d : Ev → MM D} (h : E c W m X a d) : E c W m X (.UnaryOp .Not a pos) (eOfB (bNot (bOfE d))) :=
  PEimp (pe_not h) fun σ H Q ⟨F, ρ, ω, S, q⟩ => by
    have q' : Post c W F H σ (fun v F' H' _ => ∀ x, Rp c.K F' x v → Q x H') ((d ρ ω).bind fun a w => (ofO (asB a) w).bind fun t w => .ok (.bool (!t)) w) := by
      unfold eOfB bNot bOfE at q
      cases h : d ρ ω with
      | ok a w => cases h' : asB a <;> simpa [h, h'] using q
      | _ => rw [h] at q; exact q
    refine ⟨F, ρ, ω, S, bindT S Post.pg q' fun a F1 H1 w1 x1 S1 q1 x r1 => ?_⟩
    cases r1 <;> first
      | exact q1.elim
      | exact ⟨_, rfl, q1 F1 H1 (Xt.refl S1.fh) S1.bo _ (.bl _)⟩
theorem bw_and1 {d : Ev → MM Bool} (h : B c W m X a d) : BW c W m X (.BoolOp .And [a] pos) d := pw_and1 h
theorem bw_or1 {d : Ev → MM Bool} (h : B c W m X a d) : BW c W m X (.BoolOp .Or [a] pos) d := pw_or1 h
theorem bw_and {rest : List Expr} {d1 d2 : Ev → MM Bool} (h : B c W m X a d1) (h2 : BW c W m X (.BoolOp .And (b :: rest) pos) d2) : BW c W m X (.BoolOp .And (a :: b :: rest) pos) (bAnd d1 d2) :=
  PWimp (pw_and h h2) fun σ H Q ⟨F, ρ, ω, S, q⟩ => ⟨F, ρ, ω, S, bindT S Post.pg q fun t F1 H1 w1 x1 S1 q1 => by
    cases t with
    | true => exact iteT ⟨F1, ρ, w1, S1, q1⟩
    | false => exact iteF (q1 F1 H1 (Xt.refl S1.fh) S1.bo)⟩
theorem bw_or {rest : List Expr} {d1 d2 : Ev → MM Bool} (h : B c W m X a d1) (h2 : BW c W m X (.BoolOp .Or (b :: rest) pos) d2) : BW c W m X (.BoolOp .Or (a :: b :: rest) pos) (bOr d1 d2) :=
  PWimp (pw_or h h2) fun σ H Q ⟨F, ρ, ω, S, q⟩ => ⟨F, ρ, ω, S, bindT S Post.pg q fun t F1 H1 w1 x1 S1 q1 => by
    cases t with
    | true => exact iteT (q1 F1 H1 (Xt.refl S1.fh) S1.bo)
    | false => exact iteF ⟨F1, ρ, w1, S1, q1⟩⟩
theorem b_w {d : Ev → MM Bool} (h : BW c W m X e d) : B c W m X e d := h.pt
def eAnd (d1 d2 : Ev → MM D) : Ev → MM D := fun ρ ω => (d1 ρ ω).bind fun a w => (ofO (asB a) w).bind fun t w => match t with
  | true => d2 ρ w
  | false => .ok (.bool false) w
def eOr (d1 d2 : Ev → MM D) : Ev → MM D := fun ρ ω => (d1 ρ ω).bind fun a w => (ofO (asB a) w).bind fun t w => match t with
  | true => .ok (.bool true) w
  | false => d2 ρ w
theorem e_one {op} {d : Ev → MM D} (h : E c W m X a d) : E c W m X (.BoolOp op [a] pos) d := pe_one h
theorem e_and {rest : List Expr} {d1 d2 : Ev → MM D} (h : E c W m X a d1) (h2 : E c W m X (.BoolOp .And (b :: rest) pos) d2) : E c W m X (.BoolOp .And (a :: b :: rest) pos) (eAnd d1 d2) :=
  PEimp (pe_and h h2) fun σ H Q ⟨F, ρ, ω, S, q⟩ => ⟨F, ρ, ω, S, bindT S Post.pg q fun t F1 H1 w1 x1 S1 q1 x r1 => by
    cases r1 with
    | bl t => cases t with
      | true => exact ⟨true, rfl, iteT ⟨F1, ρ, w1, S1, q1⟩⟩
      | false => exact ⟨false, rfl, iteF (q1 F1 H1 (Xt.refl S1.fh) S1.bo _ (.bl _))⟩
    | _ => exact q1.elim⟩
theorem e_or {rest : List Expr} {d1 d2 : Ev → MM D} (h : E c W m X a d1) (h2 : E c W m X (.BoolOp .Or (b :: rest) pos) d2) : E c W m X (.BoolOp .Or (a :: b :: rest) pos) (eOr d1 d2) :=
  PEimp (pe_or h h2) fun σ H Q ⟨F, ρ, ω, S, q⟩ => ⟨F, ρ, ω, S, bindT S Post.pg q fun t F1 H1 w1 x1 S1 q1 x r1 => by
    cases r1 with
    | bl t => cases t with
      | true => exact ⟨true, rfl, iteT (q1 F1 H1 (Xt.refl S1.fh) S1.bo _ (.bl _))⟩
      | false => exact ⟨false, rfl, iteF ⟨F1, ρ, w1, S1, q1⟩⟩
    | _ => exact q1.elim⟩
theorem e_if {t : Expr} {dt : Ev → MM Bool} {d1 d2 : Ev → MM D} (ht : B c W m X t dt) (h1 : E c W m X a d1) (h2 : E c W m X b d2) : E c W m X (.IfExp t a b pos) (eIf dt d1 d2) :=
  PEimp (pe_ifExp ht h1 h2) fun σ H Q ⟨F, ρ, ω, S, q⟩ => ⟨F, ρ, ω, S, bindT S Post.pg q fun t F1 H1 w1 x1 S1 q1 => by
    cases t with
    | true => exact iteT ⟨F1, ρ, w1, S1, q1⟩
    | false => exact iteF ⟨F1, ρ, w1, S1, q1⟩⟩
theorem a_nil : A c W m X [] aNil := ⟨PAimp pa_nil fun σ H Q ⟨F, ρ, ω, S, q⟩ => q F H (Xt.refl S.fh) S.bo _ .nil, AL.nil⟩
theorem a_cons {d : Ev → MM D} {ds : Ev → MM (List D)} (h : E c W m X e d) (hr : A c W m X es ds) (hs : starEach (e :: es) X.env = (false, eval e X.env) :: starEach es X.env := by rfl) : A c W m X (e :: es) (aCons d ds) :=
  ⟨PAimp (pa_cons h hr.pa hs) fun σ H Q ⟨F, ρ, ω, S, q⟩ => ⟨F, ρ, ω, S, bindT S Post.pg q fun a F1 H1 w1 x1 S1 q1 x r1 =>
    ⟨F1, ρ, w1, S1, bindT S1 Post.pg q1 fun r F2 H2 w2 x2 S2 q2 xs r2 => q2 F2 H2 (Xt.refl S2.fh) S2.bo _ (.cons (r1.mono x2.ff) r2)⟩⟩, AL.cons hr.len⟩
theorem e_tup {k} {ds : Ev → MM (List D)} (h : A c W m X es ds) (hl : es.length ≤ 1000 := by decide) : E c W m X (.Tuple es k pos) (eTup ds) :=
  PEimp (pe_tup h.pa) fun σ H Q ⟨F, ρ, ω, S, q⟩ => by
    refine ⟨F, ρ, ω, S, ?_⟩
    have al := h.len ρ ω
    unfold eTup at q
    cases e : ds ρ ω with
    | bad => rw [e] at q; exact q.elim
    | exc x y => rw [e] at q; exact q
    | ok r w =>
      rw [e] at q
      intro F' H' xt bo xs rp
      have hz : xs.length ≤ sizeLine := by rw [rp.length, al r w e]; exact Nat.le_of_lt (small1000 hl)
      refine ⟨hz, fun p np => ?_⟩
      have x2 : Xt none F' H' (upd F' p (.tup xs)) (upd H' p (.tup xs)) := Xt.alloc xt.fh np
      exact q _ _ (xt.trans x2.any) (bo.ext x2) _ (.tup (SqT.of upd_same) (rp.mono x2.ff))
theorem e_lst {ds : Ev → MM (List D)} (h : A c W m X es ds) (hl : es.length ≤ 1000 := by decide) : E c W m X (.List es pos) (eLst ds) :=
  PEimp (pe_lst h.pa) fun σ H Q ⟨F, ρ, ω, S, q⟩ => by
    refine ⟨F, ρ, ω, S, ?_⟩
    have al := h.len ρ ω
    unfold eLst at q
    cases e : ds ρ ω with
    | bad => rw [e] at q; exact q.elim
    | exc x y => rw [e] at q; exact q
    | ok r w =>
      rw [e] at q
      intro F' H' xt bo xs rp
      have hz : xs.length ≤ sizeLine := by rw [rp.length, al r w e]; exact Nat.le_of_lt (small1000 hl)
      refine ⟨hz, fun p np => ?_⟩
      have x2 : Xt none F' H' (upd F' p (.lst xs)) (upd H' p (.lst xs)) := Xt.alloc xt.fh np
      exact q _ _ (xt.trans x2.any) (bo.ext x2) _ (.lst upd_same (rp.mono x2.ff))
theorem args_step {F H : Hp} {ρ : Ev} {ω : Wd} {σ : L2.St} {ds : Ev → MM (List D)} {f : List D → Option D} {r : List V → Hp → VK → Prop} {Q : VK} (v : VAr c.K r f) (S : SR c m F ρ ω σ H) (q : Post c W F H σ (fun v F' H' _ => ∀ x, Rp c.K F' x v → Q x H') (eArgs f ds ρ ω)) :
    TDa c W m ds σ H fun xs H1 => r xs H1 Q := ⟨F, ρ, ω, S, bindT S Post.pg q fun as F1 H1 w1 x1 S1 q1 xs r1 => by
    obtain ⟨z, e1, q3⟩ := post_ofO S1.fh S1.bo q1
    exact v F1 H1 xs as z Q S1.fh r1 e1 fun F' H' z' xt rz => q3 F' H' xt z' rz⟩
theorem e_callB {x : Str} {p : Pos} {id : String} {r : List V → Hp → VK → Prop} {f : List D → Option D} {ds : Ev → MM (List D)} (hc : CallR X (.builtin id) r) (v : VAr c.K r f) (hg : Gl X x) (hm : X.mg x = none) (hv : bootBuiltins x = some (.builtin id)) (ha : A c W m X (e :: es) ds)
    (hn : x ≠ "__name__" := by decide) (hdb : (x == ("__debug__" : Str)) = false := by decide)
    (he : starEach (e :: es) X.env = (false, eval e X.env) :: starEach es X.env := by rfl) (hpl : (backTo pos (starEach es X.env)).any (·.1) = false := by rfl) : E c W m X (.Call (.Name x p) (e :: es) [] pos) (eArgs f ds) :=
  PEimp (pe_callB hc hg hm hv ha.pa hn hdb he hpl) fun σ H Q ⟨F, ρ, ω, S, q⟩ => args_step v S q
theorem e_callTy {x : Str} {p : Pos} {id : String} {r : List V → Hp → VK → Prop} {f : List D → Option D} {ds : Ev → MM (List D)} (hc : CallR X (.type id) r) (v : VAr c.K r f) (hg : Gl X x) (hm : X.mg x = none) (hv : bootBuiltins x = some (.type id)) (ha : A c W m X (e :: es) ds)
    (hn : x ≠ "__name__" := by decide) (hdb : (x == ("__debug__" : Str)) = false := by decide)
    (he : starEach (e :: es) X.env = (false, eval e X.env) :: starEach es X.env := by rfl) (hpl : (backTo pos (starEach es X.env)).any (·.1) = false := by rfl) : E c W m X (.Call (.Name x p) (e :: es) [] pos) (eArgs f ds) :=
  PEimp (pe_callTy hc hg hm hv ha.pa hn hdb he hpl) fun σ H Q ⟨F, ρ, ω, S, q⟩ => args_step v S q
end

/-! ### own defs -/
def PostF (K : PySem.W.Frag) (mg : Str → Option Value) (F H : Hp) (Q : VK) (E : XK) : Res D → Prop
  | .bad => False
  | .ok d _ => ∀ F' H' x, Xt none F H F' H' → Rp K F' x d → Q x H'
  | .exc e _ => ∀ F' H' cls dd, Xt none F H F' H' → RepX ⟨K, mg, fun _ => none, fun _ => none, none⟩ e cls dd H' → E cls dd H'
/-- a def that changes nothing that it is handed -/
def spP (K : PySem.W.Frag) (mg : Str → Option Value) (n : Nat) (fd : List D → Res D) : Sp := fun vs H Q E => ∃ F ds, vs.length = n ∧ Same F H ∧ RpL K F vs ds ∧ PostF K mg F H Q E (fd ds)
/-- a def whose first argument is a list that it may change -/
def spS (K : PySem.W.Frag) (mg : Str → Option Value) (n : Nat) (fd : List D → MM D) : Sp := fun vs H Q E => ∃ F b us ω vs' ds, vs = .ref b :: vs' ∧ vs.length = n ∧ Same F H ∧ F b = none ∧ H b = some (.lst us) ∧ RpL K F us ω ∧ RpL K F vs' ds ∧ match fd ds ω with
  | .bad => False
  | .ok d ω' => ∀ F' H' x us', Xt (some b) F H F' H' → H' b = some (.lst us') → RpL K F' us' ω' → Rp K F' x d → Q x H'
  | .exc e ω' => ∀ F' H' cls dd us', Xt (some b) F H F' H' → H' b = some (.lst us') → RpL K F' us' ω' → RepX ⟨K, mg, fun _ => none, fun _ => none, none⟩ e cls dd H' → E cls dd H'
structure Own (P : Program) (w : World) (K : PySem.W.Frag) (mg : Str → Option Value) (base : Heap) (x : Str) (k : Nat) (sp : Sp) : Prop where
  ex : ∃ f fdat ps, mg x = some (.ref f) ∧ PySem.W.keepIn K (.ref f) = true ∧ Binds K fdat ps [] ∧ FnOk P w K mg base (L2.CX P w) k f fdat ps sp
abbrev FnD (P : Program) (w : World) (K : PySem.W.Frag) (mg : Str → Option Value) (base : Heap) (x : Str) (k n : Nat) (fd : List D → Res D) : Prop := Own P w K mg base x k (spP K mg n fd)
abbrev FnS (P : Program) (w : World) (K : PySem.W.Frag) (mg : Str → Option Value) (base : Heap) (x : Str) (k n : Nat) (fd : List D → MM D) : Prop := Own P w K mg base x k (spS K mg n fd)
section
variable {c : CM} {W : WX} {m : Md} {X : Cx} {e : Expr} {es : List Expr} {pos p p1 : Pos}
theorem e_call {x : Str} {j k n : Nat} {fd : List D → Res D} {ds : Ev → MM (List D)} (G : FnD X.prog X.w X.K X.mg X.base x j n fd) (hr : Room k X.A) (hk : X.K = c.K) (hmg : X.mg = c.mg) (tk : Takes X W) (ha : A c W m X (e :: es) ds) (hg : Gl X x) (hjk : j ≤ k := by decide) (hn : (e :: es).length = n := by rfl)
    (hdb : (x == ("__debug__" : Str)) = false := by decide) (he : starEach (e :: es) X.env = (false, eval e X.env) :: starEach es X.env := by rfl) (hpl : (backTo pos (starEach es X.env)).any (·.1) = false := by rfl) :
    E c W m X (.Call (.Name x p) (e :: es) [] pos) (eCall fd ds) := by
  obtain ⟨f, fdat, ps, gm, kp, bd, ok⟩ := G.ex
  refine PEimp (pe_callS (ok.mono hjk) hr hg gm kp bd (fun σ => passAt tk σ) ha.pa hdb he hpl) fun σ H Q ⟨F, ρ, ω, S, q⟩ => ?_
  refine ⟨F, ρ, ω, S, ?_⟩
  have al := ha.len ρ ω
  unfold eCall at q
  cases ed : ds ρ ω with
  | bad => rw [ed] at q; exact q.elim
  | exc x y => rw [ed] at q; exact q
  | ok r w =>
    rw [ed] at q
    intro F1 H1 xt bo xs rp
    refine ⟨F1, r, by rw [rp.length, al r w ed]; exact hn, xt.fh, by rw [hk]; exact rp, ?_⟩
    show PostF X.K X.mg F1 H1 Q (WE W σ) (fd r)
    have q2 : Post c W F H σ (fun v F' H' _ => ∀ x, Rp c.K F' x v → Q x H') ((fd r).at w) := q
    cases ef : fd r with
    | bad => rw [ef] at q2; exact q2.elim
    | ok d w' =>
      rw [ef] at q2
      exact fun F' H' z x2 rz => q2 F' H' (xt.trans x2.any) (bo.ext x2) z (by rw [← hk]; exact rz)
    | exc ex w' =>
      rw [ef] at q2
      refine fun F' H' cls dd x2 rx => q2 F' H' cls dd (xt.trans x2.any) (bo.ext x2) ?_
      rw [hmg] at rx
      exact rx
theorem e_callS {x xs : Str} {j k n i : Nat} {fd : List D → MM D} {ds : Ev → MM (List D)} (G : FnS X.prog X.w X.K X.mg X.base x j n fd) (hr : Room k X.A) (hk : X.K = c.K) (hmg : X.mg = c.mg) (tk : Takes X W) (hi : m.B = some i) (hv : PE X (.Name xs p1) (tVar i)) (ha : A c W m X es ds) (hg : Gl X x)
    (hjk : j ≤ k := by decide) (hn : es.length + 1 = n := by rfl)
    (hdb : (x == ("__debug__" : Str)) = false := by decide) (he : starEach (.Name xs p1 :: es) X.env = (false, eval (.Name xs p1) X.env) :: starEach es X.env := by rfl) (hpl : (backTo pos (starEach es X.env)).any (·.1) = false := by rfl) :
    E c W m X (.Call (.Name x p) (.Name xs p1 :: es) [] pos) (eCallS fd ds) := by
  obtain ⟨f, fdat, ps, gm, kp, bd, ok⟩ := G.ex
  refine PEimp (pe_callS (ok.mono hjk) hr hg gm kp bd (fun σ => passAt tk σ) (pa_cons hv ha.pa he) hdb he hpl) fun σ H Q ⟨F, ρ, ω, S, q⟩ => ?_
  obtain ⟨_, b, hb, hσ⟩ := S.bsl i hi
  refine ⟨_, hσ, F, ρ, ω, S, ?_⟩
  have al := ha.len ρ ω
  unfold eCallS at q
  cases ed : ds ρ ω with
  | bad => rw [ed] at q; exact q.elim
  | exc x y => rw [ed] at q; exact q
  | ok r w =>
    rw [ed] at q
    intro F1 H1 xt bo xs rp
    obtain ⟨h0, h1, us, h2, h3⟩ := bo b hb
    refine ⟨F1, b, us, w, xs, r, rfl, by rw [List.length_cons, rp.length, al r w ed]; exact hn, xt.fh, h1, h2, by rw [hk]; exact h3, by rw [hk]; exact rp, ?_⟩
    have q2 : Post c W F H σ (fun v F' H' _ => ∀ x, Rp c.K F' x v → Q x H') (fd r w) := q
    have hnew : ∀ {F' H' : Hp} {us' : List V} {w' : Wd}, Xt (some b) F1 H1 F' H' → H' b = some (.lst us') → RpL X.K F' us' w' → BorOk c F' w' H' := fun {F' H' us' w'} x2 e1 e2 b' hb' => by
      rw [hb] at hb'
      cases hb'
      exact ⟨h0, by rw [x2.new b (by rw [h2]; simp)]; exact h1, us', e1, by rw [← hk]; exact e2⟩
    cases ef : fd r w with
    | bad => rw [ef] at q2; exact q2.elim
    | ok d w' =>
      rw [ef] at q2
      exact fun F' H' z us' x2 e1 e2 rz => q2 F' H' (xt.trans (by rw [hb]; exact x2)) (hnew x2 e1 e2) z (by rw [← hk]; exact rz)
    | exc ex w' =>
      rw [ef] at q2
      refine fun F' H' cls dd us' x2 e1 e2 rx => q2 F' H' cls dd (xt.trans (by rw [hb]; exact x2)) (hnew x2 e1 e2) ?_
      rw [hmg] at rx
      exact rx
end
end M

set_option Elab.async false
set_option linter.all false
set_option maxRecDepth 100000
set_option maxHeartbeats 4000000
namespace M
open PySem PySem.Spec PyProof.Rows L2

theorem OpR.or {X : Cx} {f : Value → Value → Sem Value} {r r' : R2} (h : OpR X f r) (h' : OpR X f r') : OpR X f (fun x y H Q => r x y H Q ∨ r' x y H Q) := by
  intro pins s σ H x y v u Q I rx ry h0
  rcases h0 with q | q
  · exact h pins s σ H x y v u Q I rx ry q
  · exact h' pins s σ H x y v u Q I rx ry q
section
variable {K : PySem.W.Frag} {H : Hp}
theorem Rp.vint {v : V} {i : Int} (h : Rp K H v (.int i)) : v = .int i := by cases h; rfl
theorem Rp.vbl {v : V} {i : Bool} (h : Rp K H v (.bool i)) : v = .bl i := by cases h; rfl
theorem Rp.vstr {v : V} {i : Str} (h : Rp K H v (.str i)) : v = .str i := by cases h; rfl
theorem Rp.vnon {v : V} (h : Rp K H v .none) : v = .non := by cases h; rfl
theorem Rp.vlst {v : V} {ds : List D} (h : Rp K H v (.list ds)) : ∃ a xs, v = .ref a ∧ H a = some (.lst xs) ∧ RpL K H xs ds := by cases h with | lst h1 h2 => exact ⟨_, _, rfl, h1, h2⟩
theorem Rp.vtup {v : V} {ds : List D} (h : Rp K H v (.tuple ds)) : ∃ a xs, v = .ref a ∧ SqT K H a xs ∧ RpL K H xs ds := by cases h with | tup h1 h2 => exact ⟨_, _, rfl, h1, h2⟩
theorem RpL.one {vs : List V} {d : D} (h : RpL K H vs [d]) : ∃ v, vs = [v] ∧ Rp K H v d := by
  cases h with | cons h1 h2 => cases h2; exact ⟨_, rfl, h1⟩
theorem RpL.two {vs : List V} {d e : D} (h : RpL K H vs [d, e]) : ∃ v u, vs = [v, u] ∧ Rp K H v d ∧ Rp K H u e := by
  cases h with | cons h1 h2 => obtain ⟨u, rfl, h3⟩ := h2.one; exact ⟨_, _, rfl, h1, h3⟩
theorem RpL.three {vs : List V} {d e f : D} (h : RpL K H vs [d, e, f]) : ∃ v u w, vs = [v, u, w] ∧ Rp K H v d ∧ Rp K H u e ∧ Rp K H w f := by
  cases h with | cons h1 h2 => obtain ⟨u, w, rfl, h3, h4⟩ := h2.two; exact ⟨_, _, _, rfl, h1, h3, h4⟩
end

/-! ### arithmetic -/
def vSub : D → D → Option D
  | .int i, .int j => some (.int (i - j))
  | _, _ => none
def mulOk (i j : Int) : Prop := i.natAbs.log2 + j.natAbs.log2 < 1000000
instance (i j : Int) : Decidable (mulOk i j) := by unfold mulOk; infer_instance
def divOk (j : Int) : Prop := j ≠ 0 ∧ j.natAbs.log2 < 9000
instance (j : Int) : Decidable (divOk j) := by unfold divOk; infer_instance
def powOk (i j : Int) : Prop := 0 ≤ j ∧ j ≤ 1000000 ∧ i.natAbs < 2 ^ 64
instance (i j : Int) : Decidable (powOk i j) := by unfold powOk; infer_instance
def vFdiv : D → D → Option D
  | .int i, .int j => if divOk j then some (.int (i.fdiv j)) else none
  | _, _ => none
def vMod : D → D → Option D
  | .int i, .int j => if j = 0 then none else some (.int (i.fmod j))
  | _, _ => none
def vPow : D → D → Option D
  | .int i, .int j => if powOk i j then some (.int (i ^ j.toNat)) else none
  | _, _ => none
def vNeg : D → Option D
  | .int i => some (.int (-i))
  | _ => none
/-- +: ints, lists, tuples -/
def vAdd : D → D → Option D
  | .int i, .int j => some (.int (i + j))
  | .list xs, .list ys => if xs.length + ys.length ≤ sizeLine then some (.list (xs ++ ys)) else none
  | .tuple xs, .tuple ys => if xs.length + ys.length ≤ sizeLine then some (.tuple (xs ++ ys)) else none
  | _, _ => none
/-- *: ints, a list times an int -/
def vMul : D → D → Option D
  | .int i, .int j => if mulOk i j then some (.int (i * j)) else none
  | .list xs, .int k => if -(2 ^ 63) ≤ k ∧ k < 2 ^ 63 ∧ xs.length * k.toNat ≤ sizeLine then some (.list (List.replicate k.toNat xs).flatten) else none
  | _, _ => none
section
variable {X : Cx}
theorem op_fdivG : OpR X (binaryOp .FloorDiv) (rI (fun _ j => divOk j) fun i j => .int (i.fdiv j)) := opI fun _ _ _ _ _ _ _ hc q => floordiv_int hc.1 q (.inl (PyProof.noPylong_of_log2 hc.2))
theorem iop_fdivG : OpR X (inplaceOp .FloorDiv) (rI (fun _ j => divOk j) fun i j => .int (i.fdiv j)) := opI fun _ _ _ _ _ _ _ hc q => ifloordiv_int hc.1 q (.inl (PyProof.noPylong_of_log2 hc.2))
theorem iop_modG : OpR X (inplaceOp .Mod) (rI (fun _ j => j ≠ 0) fun i j => .int (i.fmod j)) := opI fun _ _ _ _ _ _ _ hc q => imod_int hc q
theorem mulOk_ok {i j : Int} (h : mulOk i j) : IntMulOk i j := CMulW.ok h
theorem iop_mulW : OpR X (inplaceOp .Mult) (rI mulOk fun i j => .int (i * j)) := opI fun _ _ _ _ _ _ _ hc q => imul_int q (mulOk_ok hc)
theorem op_addX : OpR X (binaryOp .Add) (fun x y H Q => rI0 (fun i j => .int (i + j)) x y H Q ∨ (rCat x y H Q ∨ rCatA X.K x y H Q)) := op_add.or (op_cat.or op_catA)
theorem op_mulX : OpR X (binaryOp .Mult) (fun x y H Q => rI mulOk (fun i j => .int (i * j)) x y H Q ∨ rRep x y H Q) := OpR.or (opI fun _ _ _ _ _ _ _ hc q => mul_int q (mulOk_ok hc)) op_rep
end
section
variable {K : PySem.W.Frag}
theorem vop_sub {r : R2} (h : ∀ i j H Q, Q (.int (i - j)) H → r (.int i) (.int j) H Q) : VOp K r vSub := by
  intro F H x y a b v Q S r1 r2 e q
  cases r1 <;> cases r2 <;> simp [vSub] at e
  subst e
  exact h _ _ _ _ (q F H _ (Xt.refl S) (.int _))
theorem v_sub : VOp K (rI0 fun i j => .int (i - j)) vSub := vop_sub fun i j H Q q => ⟨i, j, rfl, rfl, q⟩
theorem v_fdiv : VOp K (rI (fun _ j => divOk j) fun i j => .int (i.fdiv j)) vFdiv := by
  intro F H x y a b v Q S r1 r2 e q
  cases r1 <;> cases r2 <;> simp [vFdiv] at e
  obtain ⟨e1, e⟩ := e
  subst e
  exact ⟨_, _, rfl, rfl, e1, q F H _ (Xt.refl S) (.int _)⟩
theorem v_mod : VOp K (rI (fun _ j => j ≠ 0) fun i j => .int (i.fmod j)) vMod := by
  intro F H x y a b v Q S r1 r2 e q
  cases r1 <;> cases r2 <;> simp [vMod] at e
  obtain ⟨e1, e⟩ := e
  subst e
  exact ⟨_, _, rfl, rfl, e1, q F H _ (Xt.refl S) (.int _)⟩
theorem v_pow : VOp K (rI CPow fun i j => .int (i ^ j.toNat)) vPow := by
  intro F H x y a b v Q S r1 r2 e q
  cases r1 <;> cases r2 <;> simp [vPow] at e
  obtain ⟨e1, e⟩ := e
  subst e
  exact ⟨_, _, rfl, rfl, e1, q F H _ (Xt.refl S) (.int _)⟩
theorem v_neg : VUn K (rU fun i => .int (-i)) vNeg := by
  intro F H x a v Q S r1 e q
  cases r1 <;> simp [vNeg] at e
  subst e
  exact ⟨_, rfl, q F H _ (Xt.refl S) (.int _)⟩
theorem rp_new_lst {F H : Hp} {p : Addr} {xs : List V} {ds : List D} {Q : VK} (S : Same F H) (np : H p = none) (r : RpL K F xs ds) (q : ∀ F' H' z, Xt none F H F' H' → Rp K F' z (.list ds) → Q z H') : Q (.ref p) (upd H p (.lst xs)) := by
  have x : Xt none F H (upd F p (.lst xs)) (upd H p (.lst xs)) := Xt.alloc S np
  exact q _ _ _ x (.lst upd_same (r.mono x.ff))
theorem rp_new_tup {F H : Hp} {p : Addr} {xs : List V} {ds : List D} {Q : VK} (S : Same F H) (np : H p = none) (r : RpL K F xs ds) (q : ∀ F' H' z, Xt none F H F' H' → Rp K F' z (.tuple ds) → Q z H') : Q (.ref p) (upd H p (.tup xs)) := by
  have x : Xt none F H (upd F p (.tup xs)) (upd H p (.tup xs)) := Xt.alloc S np
  exact q _ _ _ x (.tup (SqT.of upd_same) (r.mono x.ff))
theorem v_add {K' : PySem.W.Frag} (hk : K' = K) : VOp K (fun x y H Q => rI0 (fun i j => .int (i + j)) x y H Q ∨ (rCat x y H Q ∨ rCatA K' x y H Q)) vAdd := by
  subst hk
  intro F H x y a b v Q S r1 r2 e q
  cases r1 with
  | int i => cases r2 <;> simp [vAdd] at e; subst e; exact .inl ⟨_, _, rfl, rfl, q F H _ (Xt.refl S) (.int _)⟩
  | lst h1 h2 =>
    cases r2 with
    | lst h3 h4 =>
      simp [vAdd] at e
      obtain ⟨e1, e⟩ := e
      subst e
      refine .inr (.inl ⟨_, _, _, _, rfl, rfl, S _ _ h1, S _ _ h3, by rw [h2.length, h4.length]; exact e1, fun p np => ?_⟩)
      exact rp_new_lst S np (h2.append h4) q
    | _ => simp [vAdd] at e
  | tup h1 h2 =>
    cases r2 with
    | tup h3 h4 =>
      simp [vAdd] at e
      obtain ⟨e1, e⟩ := e
      subst e
      refine .inr (.inr ⟨_, _, _, _, rfl, rfl, sameT S h1, sameT S h3, by rw [h2.length, h4.length]; exact e1, fun z => ?_, fun z z' => ?_, fun _ _ p np => ?_⟩)
      · subst z
        cases h2
        exact q F H _ (Xt.refl S) (.tup h3 h4)
      · subst z'
        cases h4
        rw [List.append_nil] at q
        exact q F H _ (Xt.refl S) (.tup h1 h2)
      · exact rp_new_tup S np (h2.append h4) q
    | _ => simp [vAdd] at e
  | _ => simp [vAdd] at e
theorem RpL.rep {F : Hp} {xs : List V} {ds : List D} (h : RpL K F xs ds) : ∀ k, RpL K F (List.replicate k xs).flatten (List.replicate k ds).flatten
  | 0 => .nil
  | k + 1 => by simp only [List.replicate_succ, List.flatten_cons]; exact h.append (h.rep k)
theorem v_mul : VOp K (fun x y H Q => rI mulOk (fun i j => .int (i * j)) x y H Q ∨ rRep x y H Q) vMul := by
  intro F H x y a b v Q S r1 r2 e q
  cases r1 with
  | int i => cases r2 <;> simp [vMul] at e; obtain ⟨e1, e⟩ := e; subst e; exact .inl ⟨_, _, rfl, rfl, e1, q F H _ (Xt.refl S) (.int _)⟩
  | lst h1 h2 =>
    cases r2 with
    | int k =>
      simp [vMul] at e
      obtain ⟨⟨e1, e2, e3⟩, e⟩ := e
      subst e
      refine .inr ⟨_, _, _, rfl, rfl, S _ _ h1, e1, e2, by rw [h2.length]; exact e3, fun p np => ?_⟩
      exact rp_new_lst S np (h2.rep _) q
    | _ => simp [vMul] at e
  | _ => simp [vMul] at e
/-! in place, ints alone -/
def vAddI : D → D → Option D
  | .int i, .int j => some (.int (i + j))
  | _, _ => none
def vMulI : D → D → Option D
  | .int i, .int j => if mulOk i j then some (.int (i * j)) else none
  | _, _ => none
theorem v_addI : VOp K (rI0 fun i j => .int (i + j)) vAddI := by
  intro F H x y a b v Q S r1 r2 e q
  cases r1 <;> cases r2 <;> simp [vAddI] at e
  subst e
  exact ⟨_, _, rfl, rfl, q F H _ (Xt.refl S) (.int _)⟩
theorem v_mulI : VOp K (rI mulOk fun i j => .int (i * j)) vMulI := by
  intro F H x y a b v Q S r1 r2 e q
  cases r1 <;> cases r2 <;> simp [vMulI] at e
  obtain ⟨e1, e⟩ := e
  subst e
  exact ⟨_, _, rfl, rfl, e1, q F H _ (Xt.refl S) (.int _)⟩
end

/-! ### comparisons -/
def cI (p : Int → Int → Bool) : D → D → Option Bool
  | .int i, .int j => some (p i j)
  | _, _ => none
def vEq (a b : D) : Option Bool := if SeqAt.shaped a = true ∧ SeqAt.shaped b = true then some (PyData.eqv a b) else none
def vNe (a b : D) : Option Bool := if SeqAt.shaped a = true ∧ SeqAt.shaped b = true then some (!PyData.eqv a b) else none
def vIsN : D → D → Option Bool
  | a, .none => some (match a with | .none => true | _ => false)
  | _, _ => none
def vNotN : D → D → Option Bool
  | a, .none => some (match a with | .none => false | _ => true)
  | _, _ => none
def vIsB : D → D → Option Bool
  | .bool a, .bool b => some (a == b)
  | _, _ => none
def vNotB : D → D → Option Bool
  | .bool a, .bool b => some (!(a == b))
  | _, _ => none
def vIn : D → D → Option Bool
  | d, .list ds => if SeqAt.shaped d = true ∧ SeqAt.shaped (.list ds) = true then some (ds.any fun z => PyData.eqv z d) else none
  | d, .tuple ds => if SeqAt.shaped d = true ∧ SeqAt.shaped (.tuple ds) = true then some (ds.any fun z => PyData.eqv z d) else none
  | _, _ => none
def vNotIn : D → D → Option Bool
  | d, .list ds => if SeqAt.shaped d = true ∧ SeqAt.shaped (.list ds) = true then some (!ds.any fun z => PyData.eqv z d) else none
  | d, .tuple ds => if SeqAt.shaped d = true ∧ SeqAt.shaped (.tuple ds) = true then some (!ds.any fun z => PyData.eqv z d) else none
  | _, _ => none
def rInT (K : PySem.W.Frag) : R2 := fun x y H Q => ∃ d ds, Dp K H x d ∧ Dp K H y (.tuple ds) ∧ SeqAt.shaped d = true ∧ SeqAt.shaped (.tuple ds) = true ∧ Q (.bl (ds.any fun z => PyData.eqv z d)) H
def rNotInT (K : PySem.W.Frag) : R2 := fun x y H Q => ∃ d ds, Dp K H x d ∧ Dp K H y (.tuple ds) ∧ SeqAt.shaped d = true ∧ SeqAt.shaped (.tuple ds) = true ∧ Q (.bl (!ds.any fun z => PyData.eqv z d)) H
section
variable {X : Cx}
theorem op_inTD (hu : X.A.units + 65 < cLine) : OpR X (compareOp .In) (rInT X.K) := by
  intro pins s σ H x y v u Q I rx ry h
  obtain ⟨d, ds, hd, he, sd, se, q⟩ := h
  obtain ⟨as, r1⟩ := Dp.reads I d x v hd rx
  obtain ⟨bs, r2⟩ := Dp.reads I (.tuple ds) y u he ry
  exact SeqAt.in_tuple_reads r2 r1 (SeqAt.canLay_of_shaped se) (SeqAt.canLay_of_shaped sd) (room_in_shaped sd hu) ⟨.bl _, H, I, rfl, q⟩
theorem op_notInTD (hu : X.A.units + 65 < cLine) : OpR X (compareOp .NotIn) (rNotInT X.K) := by
  intro pins s σ H x y v u Q I rx ry h
  obtain ⟨d, ds, hd, he, sd, se, q⟩ := h
  obtain ⟨as, r1⟩ := Dp.reads I d x v hd rx
  obtain ⟨bs, r2⟩ := Dp.reads I (.tuple ds) y u he ry
  exact SeqAt.notIn_tuple_reads r2 r1 (SeqAt.canLay_of_shaped se) (SeqAt.canLay_of_shaped sd) (room_in_shaped sd hu) ⟨.bl _, H, I, rfl, q⟩
theorem units65 {k : Nat} {A : Around} (r : Room k A) : A.units + 65 < cLine := by have := r.un; omega
theorem op_in (hu : X.A.units + 65 < cLine) : OpR X (compareOp .In) (fun x y H Q => rInD X.K x y H Q ∨ rInT X.K x y H Q) := (op_inD hu).or (op_inTD hu)
theorem op_notIn (hu : X.A.units + 65 < cLine) : OpR X (compareOp .NotIn) (fun x y H Q => rNotInD X.K x y H Q ∨ rNotInT X.K x y H Q) := (op_notInD hu).or (op_notInTD hu)
end
def cLt : D → D → Option Bool := cI fun i j => decide (i < j)
def cLe : D → D → Option Bool := cI fun i j => decide (i ≤ j)
def cGt : D → D → Option Bool := cI fun i j => decide (j < i)
def cGe : D → D → Option Bool := cI fun i j => decide (j ≤ i)
section
variable {K : PySem.W.Frag}
theorem v_cI (p : Int → Int → Bool) : VOpB K (rI0 fun i j => .bl (p i j)) (cI p) := by
  intro F H x y a b v Q S r1 r2 e q
  cases r1 <;> cases r2 <;> simp [cI] at e
  subst e
  exact ⟨_, _, rfl, rfl, q⟩
theorem v_eq {K' : PySem.W.Frag} (hk : K' = K) : VOpB K (rEqD K') vEq := by
  subst hk
  intro F H x y a b v Q S r1 r2 e q
  simp only [vEq, Option.ite_none_right_eq_some, Option.some.injEq] at e
  obtain ⟨⟨e1, e2⟩, e⟩ := e
  subst e
  exact ⟨a, b, (r1.mono S).dp, (r2.mono S).dp, e1, e2, q⟩
theorem v_ne {K' : PySem.W.Frag} (hk : K' = K) : VOpB K (rNeD K') vNe := by
  subst hk
  intro F H x y a b v Q S r1 r2 e q
  simp only [vNe, Option.ite_none_right_eq_some, Option.some.injEq] at e
  obtain ⟨⟨e1, e2⟩, e⟩ := e
  subst e
  exact ⟨a, b, (r1.mono S).dp, (r2.mono S).dp, e1, e2, q⟩
theorem v_isN : VOpB K (fun x y H Q => y = .non ∧ Q (.bl (decide (x = .non))) H) vIsN := by
  intro F H x y a b v Q S r1 r2 e q
  cases r2 <;> simp [vIsN] at e
  subst e
  refine ⟨rfl, ?_⟩
  cases r1 <;> exact q
theorem v_notN : VOpB K (fun x y H Q => y = .non ∧ Q (.bl (!decide (x = .non))) H) vNotN := by
  intro F H x y a b v Q S r1 r2 e q
  cases r2 <;> simp [vNotN] at e
  subst e
  refine ⟨rfl, ?_⟩
  cases r1 <;> exact q
theorem v_isB : VOpB K rIsB vIsB := by
  intro F H x y a b v Q S r1 r2 e q
  cases r1 <;> cases r2 <;> simp [vIsB] at e
  subst e
  refine ⟨_, _, rfl, rfl, ?_⟩
  rw [← Bool.beq_eq_decide_eq]
  exact q
theorem v_notB : VOpB K rNotB vNotB := by
  intro F H x y a b v Q S r1 r2 e q
  cases r1 with
  | bl a => cases r2 with
    | bl b =>
      have e : some (!(a == b)) = some v := e
      cases e
      refine ⟨_, _, rfl, rfl, ?_⟩
      rw [← Bool.beq_eq_decide_eq]
      exact q
    | _ => simp [vNotB] at e
  | _ => simp [vNotB] at e
theorem v_in {K' : PySem.W.Frag} (hk : K' = K) : VOpB K (fun x y H Q => rInD K' x y H Q ∨ rInT K' x y H Q) vIn := by
  subst hk
  intro F H x y a b v Q S r1 r2 e q
  cases r2 with
  | lst h1 h2 =>
    simp only [vIn, Option.ite_none_right_eq_some, Option.some.injEq] at e
    obtain ⟨⟨e1, e2⟩, e⟩ := e
    subst e
    exact .inl ⟨a, _, (r1.mono S).dp, (Rp.mono S _ _ (.lst h1 h2)).dp, e1, e2, q⟩
  | tup h1 h2 =>
    simp only [vIn, Option.ite_none_right_eq_some, Option.some.injEq] at e
    obtain ⟨⟨e1, e2⟩, e⟩ := e
    subst e
    exact .inr ⟨a, _, (r1.mono S).dp, (Rp.mono S _ _ (.tup h1 h2)).dp, e1, e2, q⟩
  | _ => simp [vIn] at e
theorem v_notIn {K' : PySem.W.Frag} (hk : K' = K) : VOpB K (fun x y H Q => rNotInD K' x y H Q ∨ rNotInT K' x y H Q) vNotIn := by
  subst hk
  intro F H x y a b v Q S r1 r2 e q
  cases r2 with
  | lst h1 h2 =>
    simp only [vNotIn, Option.ite_none_right_eq_some, Option.some.injEq] at e
    obtain ⟨⟨e1, e2⟩, e⟩ := e
    subst e
    exact .inl ⟨a, _, (r1.mono S).dp, (Rp.mono S _ _ (.lst h1 h2)).dp, e1, e2, q⟩
  | tup h1 h2 =>
    simp only [vNotIn, Option.ite_none_right_eq_some, Option.some.injEq] at e
    obtain ⟨⟨e1, e2⟩, e⟩ := e
    subst e
    exact .inr ⟨a, _, (r1.mono S).dp, (Rp.mono S _ _ (.tup h1 h2)).dp, e1, e2, q⟩
  | _ => simp [vNotIn] at e
theorem v_lt : VOpB K (rI0 fun i j => .bl (decide (i < j))) cLt := v_cI _
theorem v_le : VOpB K (rI0 fun i j => .bl (decide (i ≤ j))) cLe := v_cI _
theorem v_gt : VOpB K (rI0 fun i j => .bl (decide (j < i))) cGt := v_cI _
theorem v_ge : VOpB K (rI0 fun i j => .bl (decide (j ≤ i))) cGe := v_cI _
end

/-! ### subscripts -/
def vIx : D → D → Option D
  | .list xs, .int i => atI xs i
  | .tuple xs, .int i => atI xs i
  | .str z, .int i => if z.length ≤ sizeLine then (atI z.cps.toList i).map fun c => .str ⟨#[c]⟩ else none
  | _, _ => none
theorem v_ix {K K' : PySem.W.Frag} (hk : K' = K) : VOp K (rIx K') vIx := by
  subst hk
  intro F H x y a b v Q S r1 r2 e q
  cases r1 with
  | lst h1 h2 =>
    cases r2 with
    | int i =>
      have e : atI _ i = some v := e
      obtain ⟨j, e1, e2⟩ := Option.bind_eq_some_iff.mp e
      obtain ⟨u, e3, e4⟩ := h2.get e2
      refine .inl ⟨_, _, i, u, rfl, rfl, SqL.of (S _ _ h1), ?_, q F H u (Xt.refl S) e4⟩
      show (ixN _ i).bind _ = _
      rw [h2.length, e1]
      exact e3
    | _ => simp [vIx] at e
  | tup h1 h2 =>
    cases r2 with
    | int i =>
      have e : atI _ i = some v := e
      obtain ⟨j, e1, e2⟩ := Option.bind_eq_some_iff.mp e
      obtain ⟨u, e3, e4⟩ := h2.get e2
      refine .inr (.inl ⟨_, _, i, u, rfl, rfl, sameT S h1, ?_, q F H u (Xt.refl S) e4⟩)
      show (ixN _ i).bind _ = _
      rw [h2.length, e1]
      exact e3
    | _ => simp [vIx] at e
  | str z =>
    cases r2 with
    | int i =>
      simp only [vIx, Option.ite_none_right_eq_some, Option.map_eq_some_iff] at e
      obtain ⟨e1, cc, e2, e3⟩ := e
      subst e3
      exact .inr (.inr ⟨z, i, cc, rfl, rfl, e1, e2, q F H _ (Xt.refl S) (.str _)⟩)
    | _ => simp [vIx] at e
  | _ => simp [vIx] at e

/-! ### slices -/
def oPart (d : Ev → MM D) : Ev → MM (Option Int) := fun ρ ω => (d ρ ω).bind fun a w => match a with
  | .int i => .ok (some i) w
  | _ => .bad
def oNone : Ev → MM (Option Int) := fun _ ω => .ok none ω
def TDo (c : CM) (W : WX) (m : Md) (d : Ev → MM (Option Int)) : TO := fun σ H Q => ∃ F ρ ω, SR c m F ρ ω σ H ∧ Post c W F H σ (fun b _ H' _ => Q b H') (d ρ ω)
def cutD (xs : List D) (lo hi : Option Int) : List D := (xs.drop (HT.sIx xs.length 0 lo)).take (HT.sIx xs.length xs.length hi - HT.sIx xs.length 0 lo)
def vSl : D → Option Int → Option Int → Option D
  | .list xs, lo, hi => some (.list (cutD xs lo hi))
  | .tuple xs, lo, hi => some (.tuple (cutD xs lo hi))
  | _, _, _ => none
def eSl (d : Ev → MM D) (dl dh : Ev → MM (Option Int)) : Ev → MM D := fun ρ ω => (d ρ ω).bind fun a w => (dl ρ w).bind fun l w => (dh ρ w).bind fun h w => ofO (vSl a l h) w
section
variable {c : CM} {W : WX} {m : Md} {X : Cx} {e : Expr} {lo hi : Option Expr} {pos p2 : Pos}
theorem o_none : PO X none (TDo c W m oNone) := ⟨fun pins s σ H Q I ⟨F, ρ, ω, S, q⟩ => po_none.run pins s σ H Q I (q F H (Xt.refl S.fh) S.bo)⟩
theorem o_some {d : Ev → MM D} (h : E c W m X e d) : PO X (some e) (TDo c W m (oPart d)) := ⟨fun pins s σ H Q I ⟨F, ρ, ω, S, q⟩ => (po_some h).run pins s σ H Q I ⟨F, ρ, ω, S, bindT S Post.pg q fun a F1 H1 w1 x1 S1 q1 x r1 => by
  cases r1 with
  | int i => exact ⟨i, rfl, q1 F1 H1 (Xt.refl S1.fh) S1.bo⟩
  | _ => exact q1.elim⟩⟩
theorem RpL.cut {K : PySem.W.Frag} {F : Hp} {xs : List V} {ds : List D} (h : RpL K F xs ds) (lo hi : Option Int) : RpL K F (cutV xs lo hi) (cutD ds lo hi) := by
  unfold cutV cutD
  rw [h.length]
  exact (h.drop _).take _
theorem e_sl {d : Ev → MM D} {dl dh : Ev → MM (Option Int)} (hk : X.K = c.K) (h : E c W m X e d) (hl : PO X lo (TDo c W m dl)) (hh : PO X hi (TDo c W m dh)) : E c W m X (.Subscript e (.Slice lo hi none p2) pos) (eSl d dl dh) :=
  PEimp (pe_slice (SlR.or sl_list sl_tupA) h hl hh) fun σ H Q ⟨F, ρ, ω, S, q⟩ => ⟨F, ρ, ω, S, bindT S Post.pg q fun a F1 H1 w1 x1 S1 q1 x r1 =>
    ⟨F1, ρ, w1, S1, bindT S1 Post.pg q1 fun l F2 H2 w2 x2 S2 q2 => ⟨F2, ρ, w2, S2, bindT S2 Post.pg q2 fun u F3 H3 w3 x3 S3 q3 => by
      obtain ⟨z, e1, q4⟩ := post_ofO S3.fh S3.bo q3
      have r3 := (r1.mono x2.ff).mono x3.ff
      cases r3 with
      | lst h1 h2 =>
        simp only [vSl, Option.some.injEq] at e1
        subst e1
        refine .inl ⟨_, _, rfl, SqL.of (S3.fh _ _ h1), fun p np => ?_⟩
        exact rp_new_lst S3.fh np (h2.cut l u) fun F' H' z' xt rz => q4 F' H' xt z' rz
      | tup h1 h2 =>
        simp only [vSl, Option.some.injEq] at e1
        subst e1
        refine .inr ⟨_, _, rfl, by rw [hk]; exact sameT S3.fh h1, fun hw => ?_, fun hw p np => ?_⟩
        · refine q4 F3 H3 (Xt.refl S3.fh) _ (.tup h1 ?_)
          have r4 := h2.cut l u
          unfold cutV at r4
          rw [hw.1, hw.2] at r4
          simpa using r4
        · exact rp_new_tup S3.fh np (h2.cut l u) fun F' H' z' xt rz => q4 F' H' xt z' rz
      | _ => simp [vSl] at e1⟩⟩⟩
end

/-! ### calls of built-ins by values -/
def fLen : List D → Option D
  | [.list xs] => some (.int xs.length)
  | [.tuple xs] => some (.int xs.length)
  | [.str z] => if z.length ≤ sizeLine then some (.int z.length) else none
  | _ => none
def fAbs : List D → Option D
  | [.int i] => some (.int (if i < 0 then -i else i))
  | _ => none
def fInt : List D → Option D
  | [.int i] => some (.int i)
  | [.bool b] => some (.int (if b then 1 else 0))
  | _ => none
def fMax2 : List D → Option D
  | [.int i, .int j] => some (.int (if j > i then j else i))
  | _ => none
def fMin2 : List D → Option D
  | [.int i, .int j] => some (.int (if j < i then j else i))
  | _ => none
def fList : List D → Option D
  | [.list xs] => some (.list xs)
  | [.tuple xs] => some (.list xs)
  | _ => none
def fTuple : List D → Option D
  | [.list xs] => some (.tuple xs)
  | [.tuple xs] => some (.tuple xs)
  | _ => none
def fSum : List D → Option D
  | [.list xs] => (intsOf xs).map fun ns => .int ns.sum
  | _ => none
def fAll : List D → Option D
  | [.list xs] => (boolsOf xs).map fun ns => .bool (ns.all id)
  | _ => none
def fAny : List D → Option D
  | [.list xs] => (boolsOf xs).map fun ns => .bool (ns.any id)
  | _ => none
def maxI : List Int → Option Int
  | [] => none
  | x :: r => some (r.foldl max x)
def minI : List Int → Option Int
  | [] => none
  | x :: r => some (r.foldl min x)
def fMax : List D → Option D
  | [.list xs] => (intsOf xs).bind fun ns => (maxI ns).map .int
  | _ => none
def fMin : List D → Option D
  | [.list xs] => (intsOf xs).bind fun ns => (minI ns).map .int
  | _ => none
def insI (x : Int) : List Int → List Int
  | [] => [x]
  | y :: r => if x ≤ y then x :: y :: r else y :: insI x r
def sortI : List Int → List Int
  | [] => []
  | x :: r => insI x (sortI r)
def fSorted : List D → Option D
  | [.list xs] => (intsOf xs).map fun ns => .list ((sortI ns).map .int)
  | _ => none
theorem insI_perm (x : Int) : ∀ l, (insI x l).Perm (x :: l)
  | [] => .refl _
  | y :: r => by
    unfold insI
    split
    · exact .refl _
    · exact ((insI_perm x r).cons y).trans (.swap _ _ _)
theorem sortI_perm : ∀ l, (sortI l).Perm l
  | [] => .refl _
  | x :: r => (insI_perm x _).trans ((sortI_perm r).cons x)
theorem insI_sorted (x : Int) : ∀ {l : List Int}, l.Pairwise (· ≤ ·) → (insI x l).Pairwise (· ≤ ·)
  | [], _ => by simp [insI]
  | y :: r, h => by
    unfold insI
    rw [List.pairwise_cons] at h
    split
    · rename_i hxy
      refine List.pairwise_cons.mpr ⟨fun z hz => ?_, List.pairwise_cons.mpr h⟩
      rcases List.mem_cons.mp hz with rfl | hz
      · exact hxy
      · exact Int.le_trans hxy (h.1 z hz)
    · rename_i hxy
      refine List.pairwise_cons.mpr ⟨fun z hz => ?_, insI_sorted x h.2⟩
      rcases List.mem_cons.mp ((insI_perm x r).mem_iff.mp hz) with rfl | hz
      · omega
      · exact h.1 z hz
theorem sortI_sorted : ∀ l : List Int, (sortI l).Pairwise (· ≤ ·)
  | [] => .nil
  | x :: r => insI_sorted x (sortI_sorted r)
theorem sorted_eq {l l' : List Int} (p : l.Perm l') (h : l.Pairwise (· ≤ ·)) (h' : l'.Pairwise (· ≤ ·)) : l = l' := p.eq_of_pairwise (fun _ _ _ _ a b => Int.le_antisymm a b) h h'
theorem foldl_max_mem : ∀ (r : List Int) (x : Int), r.foldl max x ∈ x :: r ∧ ∀ y ∈ x :: r, y ≤ r.foldl max x
  | [], x => by simp
  | z :: r, x => by
    obtain ⟨h1, h2⟩ := foldl_max_mem r (max x z)
    refine ⟨?_, fun y hy => ?_⟩
    · simp only [List.foldl_cons]
      rcases List.mem_cons.mp h1 with h | h
      · rw [h]; simp only [List.mem_cons]; omega
      · simp [h]
    · simp only [List.foldl_cons]
      have h3 := h2 (max x z) (by simp)
      simp only [List.mem_cons] at hy
      rcases hy with rfl | rfl | hy
      · omega
      · omega
      · exact h2 y (by simp [hy])
theorem foldl_min_mem : ∀ (r : List Int) (x : Int), r.foldl min x ∈ x :: r ∧ ∀ y ∈ x :: r, r.foldl min x ≤ y
  | [], x => by simp
  | z :: r, x => by
    obtain ⟨h1, h2⟩ := foldl_min_mem r (min x z)
    refine ⟨?_, fun y hy => ?_⟩
    · simp only [List.foldl_cons]
      rcases List.mem_cons.mp h1 with h | h
      · rw [h]; simp only [List.mem_cons]; omega
      · simp [h]
    · simp only [List.foldl_cons]
      have h3 := h2 (min x z) (by simp)
      simp only [List.mem_cons] at hy
      rcases hy with rfl | rfl | hy
      · omega
      · omega
      · exact h2 y (by simp [hy])
section
variable {K K' : PySem.W.Frag}
theorem v_len (hk : K' = K) : VAr K (fun xs H Q => ∃ x n, xs = [x] ∧ LenV K' x H n ∧ Q (.int n) H) fLen := by
  subst hk
  intro F H xs as v Q S r e q
  match as, e, r with
  | [.list ds], e, r =>
    obtain ⟨u, rfl, r1⟩ := r.one
    obtain ⟨a, ys, rfl, h1, h2⟩ := r1.vlst
    simp only [fLen, Option.some.injEq] at e
    subst e
    exact ⟨_, ds.length, rfl, .inl ⟨ys, SqL.of (S _ _ h1), h2.length.symm⟩, q F H _ (Xt.refl S) (.int _)⟩
  | [.tuple ds], e, r =>
    obtain ⟨u, rfl, r1⟩ := r.one
    obtain ⟨a, ys, rfl, h1, h2⟩ := r1.vtup
    simp only [fLen, Option.some.injEq] at e
    subst e
    exact ⟨_, ds.length, rfl, .inr ⟨ys, sameT S h1, h2.length.symm⟩, q F H _ (Xt.refl S) (.int _)⟩
  | [.str z], e, r =>
    obtain ⟨u, rfl, r1⟩ := r.one
    cases r1
    simp only [fLen, Option.ite_none_right_eq_some, Option.some.injEq] at e
    obtain ⟨e1, e⟩ := e
    subst e
    exact ⟨_, z.length, rfl, ⟨e1, rfl⟩, q F H _ (Xt.refl S) (.int _)⟩
theorem v_abs : VAr K (fun xs H Q => ∃ i, xs = [.int i] ∧ Q (.int (if i < 0 then -i else i)) H) fAbs := by
  intro F H xs as v Q S r e q
  match as, e, r with
  | [.int i], e, r =>
    obtain ⟨u, rfl, r1⟩ := r.one
    cases r1
    simp only [fAbs, Option.some.injEq] at e
    subst e
    exact ⟨i, rfl, q F H _ (Xt.refl S) (.int _)⟩
theorem v_int1 : VAr K (fun xs H Q => (∃ i, xs = [.int i] ∧ Q (.int i) H) ∨ ∃ k : Bool, xs = [.bl k] ∧ Q (.int (if k then 1 else 0)) H) fInt := by
  intro F H xs as v Q S r e q
  match as, e, r with
  | [.int i], e, r =>
    obtain ⟨u, rfl, r1⟩ := r.one
    cases r1
    simp only [fInt, Option.some.injEq] at e
    subst e
    exact .inl ⟨i, rfl, q F H _ (Xt.refl S) (.int _)⟩
  | [.bool i], e, r =>
    obtain ⟨u, rfl, r1⟩ := r.one
    cases r1
    simp only [fInt, Option.some.injEq] at e
    subst e
    exact .inr ⟨i, rfl, q F H _ (Xt.refl S) (.int _)⟩
theorem v_max2 : VAr K (fun xs H Q => ∃ i j, xs = [.int i, .int j] ∧ Q (.int (if j > i then j else i)) H) fMax2 := by
  intro F H xs as v Q S r e q
  match as, e, r with
  | [.int i, .int j], e, r =>
    obtain ⟨u, u', rfl, r1, r2⟩ := r.two
    cases r1
    cases r2
    simp only [fMax2, Option.some.injEq] at e
    subst e
    exact ⟨i, j, rfl, q F H _ (Xt.refl S) (.int _)⟩
theorem v_min2 : VAr K (fun xs H Q => ∃ i j, xs = [.int i, .int j] ∧ Q (.int (if j < i then j else i)) H) fMin2 := by
  intro F H xs as v Q S r e q
  match as, e, r with
  | [.int i, .int j], e, r =>
    obtain ⟨u, u', rfl, r1, r2⟩ := r.two
    cases r1
    cases r2
    simp only [fMin2, Option.some.injEq] at e
    subst e
    exact ⟨i, j, rfl, q F H _ (Xt.refl S) (.int _)⟩
theorem v_list (hk : K' = K) : VAr K (fun xs H Q => ∃ p ys, xs = [.ref p] ∧ (SqL K' H p ys ∨ SqT K' H p ys) ∧ ∀ l, H l = none → Q (.ref l) (upd H l (.lst ys))) fList := by
  subst hk
  intro F H xs as v Q S r e q
  match as, e, r with
  | [.list ds], e, r =>
    obtain ⟨u, rfl, r1⟩ := r.one
    obtain ⟨a, ys, rfl, h1, h2⟩ := r1.vlst
    simp only [fList, Option.some.injEq] at e
    subst e
    exact ⟨_, ys, rfl, .inl (SqL.of (S _ _ h1)), fun p np => rp_new_lst S np h2 q⟩
  | [.tuple ds], e, r =>
    obtain ⟨u, rfl, r1⟩ := r.one
    obtain ⟨a, ys, rfl, h1, h2⟩ := r1.vtup
    simp only [fList, Option.some.injEq] at e
    subst e
    exact ⟨_, ys, rfl, .inr (sameT S h1), fun p np => rp_new_lst S np h2 q⟩
theorem v_tuple (hk : K' = K) : VAr K (fun xs H Q => ∃ p ys, xs = [.ref p] ∧ ((SqL K' H p ys ∧ ∀ l, H l = none → Q (.ref l) (upd H l (.tup ys))) ∨ (SqT K' H p ys ∧ Q (.ref p) H))) fTuple := by
  subst hk
  intro F H xs as v Q S r e q
  match as, e, r with
  | [.list ds], e, r =>
    obtain ⟨u, rfl, r1⟩ := r.one
    obtain ⟨a, ys, rfl, h1, h2⟩ := r1.vlst
    simp only [fTuple, Option.some.injEq] at e
    subst e
    exact ⟨_, ys, rfl, .inl ⟨SqL.of (S _ _ h1), fun p np => rp_new_tup S np h2 q⟩⟩
  | [.tuple ds], e, r =>
    obtain ⟨u, rfl, r1⟩ := r.one
    obtain ⟨a, ys, rfl, h1, h2⟩ := r1.vtup
    simp only [fTuple, Option.some.injEq] at e
    subst e
    exact ⟨_, ys, rfl, .inr ⟨sameT S h1, q F H _ (Xt.refl S) (.tup h1 h2)⟩⟩
theorem ints_arg (hk : K' = K) {F H : Hp} {xs : List V} {ds : List D} {ns : List Int} (S : Same F H) (r : RpL K F xs [.list ds]) (e : intsOf ds = some ns) : ∃ a, xs = [V.ref a] ∧ SqL K' H a (ns.map V.int) := by
  obtain ⟨u, rfl, r1⟩ := r.one
  obtain ⟨a, ys, rfl, h1, h2⟩ := r1.vlst
  rw [intsOf_eq e] at h2
  rw [h2.ints] at h1
  exact ⟨a, rfl, SqL.of (S _ _ h1)⟩
theorem bools_arg (hk : K' = K) {F H : Hp} {xs : List V} {ds : List D} {ns : List Bool} (S : Same F H) (r : RpL K F xs [.list ds]) (e : boolsOf ds = some ns) : ∃ a, xs = [V.ref a] ∧ SqL K' H a (ns.map V.bl) := by
  obtain ⟨u, rfl, r1⟩ := r.one
  obtain ⟨a, ys, rfl, h1, h2⟩ := r1.vlst
  rw [boolsOf_eq e] at h2
  rw [h2.bools] at h1
  exact ⟨a, rfl, SqL.of (S _ _ h1)⟩
theorem v_sum (hk : K' = K) : VAr K (rSum K') fSum := by
  intro F H xs as v Q S r e q
  match as, e, r with
  | [.list ds], e, r =>
    simp only [fSum, Option.map_eq_some_iff] at e
    obtain ⟨ns, e1, e2⟩ := e
    subst e2
    obtain ⟨a, rfl, h⟩ := ints_arg hk S r e1
    exact ⟨a, ns, rfl, h, q F H _ (Xt.refl S) (.int _)⟩
theorem v_max (hk : K' = K) : VAr K (rMax K') fMax := by
  intro F H xs as v Q S r e q
  match as, e, r with
  | [.list ds], e, r =>
    simp only [fMax, Option.bind_eq_some_iff, Option.map_eq_some_iff] at e
    obtain ⟨ns, e1, mm, e2, e3⟩ := e
    subst e3
    obtain ⟨a, rfl, h⟩ := ints_arg hk S r e1
    cases ns with
    | nil => simp [maxI] at e2
    | cons n ns =>
      simp only [maxI, Option.some.injEq] at e2
      obtain ⟨g1, g2⟩ := foldl_max_mem ns n
      rw [e2] at g1 g2
      refine ⟨a, n :: ns, rfl, h, by simp, fun m1 k1 k2 => ?_⟩
      have : m1 = mm := Int.le_antisymm (g2 _ k1) (k2 _ g1)
      subst this
      exact q F H _ (Xt.refl S) (.int _)
theorem v_min (hk : K' = K) : VAr K (rMin K') fMin := by
  intro F H xs as v Q S r e q
  match as, e, r with
  | [.list ds], e, r =>
    simp only [fMin, Option.bind_eq_some_iff, Option.map_eq_some_iff] at e
    obtain ⟨ns, e1, mm, e2, e3⟩ := e
    subst e3
    obtain ⟨a, rfl, h⟩ := ints_arg hk S r e1
    cases ns with
    | nil => simp [minI] at e2
    | cons n ns =>
      simp only [minI, Option.some.injEq] at e2
      obtain ⟨g1, g2⟩ := foldl_min_mem ns n
      rw [e2] at g1 g2
      refine ⟨a, n :: ns, rfl, h, by simp, fun m1 k1 k2 => ?_⟩
      have : m1 = mm := Int.le_antisymm (k2 _ g1) (g2 _ k1)
      subst this
      exact q F H _ (Xt.refl S) (.int _)
theorem v_sorted (hk : K' = K) : VAr K (rSortedI K') fSorted := by
  intro F H xs as v Q S r e q
  match as, e, r with
  | [.list ds], e, r =>
    simp only [fSorted, Option.map_eq_some_iff] at e
    obtain ⟨ns, e1, e2⟩ := e
    subst e2
    obtain ⟨a, rfl, h⟩ := ints_arg hk S r e1
    refine ⟨a, ns, rfl, h, fun ns' p h1 h2 np => ?_⟩
    have : ns' = sortI ns := sorted_eq (h1.trans (sortI_perm ns).symm) h2 (sortI_sorted ns)
    subst this
    exact rp_new_lst S np (RpL.of_ints _) q
theorem v_all (hk : K' = K) : VAr K (fun vs H Q => ∃ (a : Addr) (bs : List Bool), vs = [V.ref a] ∧ SqL K' H a (bs.map V.bl) ∧ Q (.bl (bs.all id)) H) fAll := by
  intro F H xs as v Q S r e q
  match as, e, r with
  | [.list ds], e, r =>
    simp only [fAll, Option.map_eq_some_iff] at e
    obtain ⟨ns, e1, e2⟩ := e
    subst e2
    obtain ⟨a, rfl, h⟩ := bools_arg hk S r e1
    exact ⟨a, ns, rfl, h, q F H _ (Xt.refl S) (.bl _)⟩
theorem v_any (hk : K' = K) : VAr K (fun vs H Q => ∃ (a : Addr) (bs : List Bool), vs = [V.ref a] ∧ SqL K' H a (bs.map V.bl) ∧ Q (.bl (bs.any id)) H) fAny := by
  intro F H xs as v Q S r e q
  match as, e, r with
  | [.list ds], e, r =>
    simp only [fAny, Option.map_eq_some_iff] at e
    obtain ⟨ns, e1, e2⟩ := e
    subst e2
    obtain ⟨a, rfl, h⟩ := bools_arg hk S r e1
    exact ⟨a, ns, rfl, h, q F H _ (Xt.refl S) (.bl _)⟩
end
end M

set_option Elab.async false
set_option linter.all false
set_option maxRecDepth 100000
set_option maxHeartbeats 4000000
namespace M
open PySem PySem.Spec PyProof.Rows L2

inductive Fl where
  | next (ρ : Ev)
  | ret (d : D)
  | brk (ρ : Ev)
  | cont (ρ : Ev)
def put (ρ : Ev) (i : Nat) (d : D) : Ev := ρ.set i (some d)
def Md.del (m : Md) (i : Nat) : Md := { m with O := m.O.filter (· != i) }
def Md.add (m : Md) (i : Nat) : Md := { m with O := i :: m.O.filter (· != i) }
theorem mem_del {m : Md} {i j : Nat} : j ∈ (m.del i).O ↔ j ∈ m.O ∧ j ≠ i := by simp [Md.del]
theorem mem_add {m : Md} {i j : Nat} : j ∈ (m.add i).O ↔ j = i ∨ (j ∈ m.O ∧ j ≠ i) := by simp [Md.add]
def PostS (c : CM) (W : WX) (mn mb mc : Md) (F : Hp) (D' : Ends) : Res Fl → Prop
  | .bad => False
  | .ok (.next ρ) ω => ∀ F' σ' H', Same F F' → SR c mn F' ρ ω σ' H' → D'.nx σ' H'
  | .ok (.brk ρ) ω => ∀ F' σ' H', Same F F' → SR c mb F' ρ ω σ' H' → D'.bk σ' H'
  | .ok (.cont ρ) ω => ∀ F' σ' H', Same F F' → SR c mc F' ρ ω σ' H' → D'.ct σ' H'
  | .ok (.ret d) ω => ∀ F' H' x, Same F F' → Frm c F' ω H' → Rp c.K F' x d → D'.rt x H'
  | .exc e ω => ∀ F' σ' H' cls dd, Same F F' → Frm c F' ω H' → RepX c e cls dd H' → W cls dd σ' H'
theorem PostS.mono {c : CM} {W : WX} {mn mb mc : Md} {F F1 : Hp} {D' : Ends} (x : Same F F1) : ∀ {r : Res Fl}, PostS c W mn mb mc F D' r → PostS c W mn mb mc F1 D' r
  | .bad, h => h
  | .ok (.next _) _, h => fun F' σ' H' s => h F' σ' H' (x.trans s)
  | .ok (.brk _) _, h => fun F' σ' H' s => h F' σ' H' (x.trans s)
  | .ok (.cont _) _, h => fun F' σ' H' s => h F' σ' H' (x.trans s)
  | .ok (.ret _) _, h => fun F' H' z s => h F' H' z (x.trans s)
  | .exc _ _, h => fun F' σ' H' cls dd s => h F' σ' H' cls dd (x.trans s)
def GS (c : CM) (W : WX) (mn mb mc : Md) (D' : Ends) (F H : Hp) (r : Res Fl) : Prop := Xt c.b c.F0 c.H0 F H ∧ PostS c W mn mb mc F D' r
theorem GS.pg {c : CM} {W : WX} {mn mb mc : Md} {D' : Ends} {σ : L2.St} : PGd c W σ (GS c W mn mb mc D') where
  bad := fun _ _ h => h.2
  exc := fun F H e ω h F' H' cls dd x bo r => h.2 F' σ H' cls dd x.ff ⟨h.1.trans x, bo⟩ r
  mono := fun F H F1 H1 r x h => ⟨h.1.trans x, h.2.mono x.ff⟩
def TSD (c : CM) (W : WX) (m mn mb mc : Md) (d : Ev → MM Fl) : TS := fun D' σ H => ∃ F ρ ω, SR c m F ρ ω σ H ∧ PostS c W mn mb mc F D' (d ρ ω)

/-! ### storing into slots -/
section
variable {c : CM} {m : Md} {F : Hp} {ρ : Ev} {ω : Wd} {σ : L2.St} {H : Hp}
theorem set_some {α : Type} {l : List (Option α)} {i j : Nat} {v w : α} (h : (l.set i (some v))[j]? = some (some w)) : (j = i ∧ v = w) ∨ (j ≠ i ∧ l[j]? = some (some w)) := by
  by_cases e : i = j
  · subst e
    by_cases hl : i < l.length
    · rw [List.getElem?_set_self hl] at h
      simp at h
      exact .inl ⟨rfl, h⟩
    · rw [List.getElem?_eq_none (by simpa using hl)] at h
      cases h
  · rw [List.getElem?_set_ne e] at h
    exact .inr ⟨fun z => e z.symm, h⟩
theorem lt_of_some {l : List (Option D)} {i : Nat} {x : Option D} (h : l[i]? = some x) : i < l.length := (List.getElem?_eq_some_iff.mp h).1
theorem SR.putD (S : SR c m F ρ ω σ H) {i : Nat} {d : D} {v : V} (r : Rp c.K F v d) (hb : m.B ≠ some i) : SR c (m.del i) F (put ρ i d) ω (σ.set i (some v)) H where
  fr := S.fr
  len := by simp [M.put, S.len]
  dat := fun j d' e n => by
    rcases set_some e with ⟨h1, h2⟩ | ⟨h1, h2⟩
    · subst h1 h2
      have hl : j < σ.length := by
        rw [← S.len]
        have := lt_of_some e
        simpa [M.put] using this
      exact ⟨v, by rw [List.getElem?_set_self hl], r⟩
    · have n' : j ∉ m.O := fun z => n (mem_del.mpr ⟨z, h1⟩)
      obtain ⟨u, h3, h4⟩ := S.dat j d' h2 n'
      exact ⟨u, by rw [List.getElem?_set_ne (Ne.symm h1)]; exact h3, h4⟩
  own := fun j d' e n => by
    obtain ⟨n1, n2⟩ := mem_del.mp n
    rcases set_some e with ⟨h1, h2⟩ | ⟨h1, h2⟩
    · exact absurd h1 n2
    · obtain ⟨l, us, ds, g1, g⟩ := S.own j d' h2 n1
      exact ⟨l, us, ds, by rw [List.getElem?_set_ne (Ne.symm h1)]; exact g1, g⟩
  sep := fun j k l dj dk oj ok ej ek sj sk => by
    obtain ⟨n1, n2⟩ := mem_del.mp oj
    obtain ⟨n3, n4⟩ := mem_del.mp ok
    rw [List.getElem?_set_ne (Ne.symm n2)] at sj
    rw [List.getElem?_set_ne (Ne.symm n4)] at sk
    have ej' : ρ[j]? = some (some dj) := by rw [← ej]; exact (List.getElem?_set_ne (Ne.symm n2)).symm
    have ek' : ρ[k]? = some (some dk) := by rw [← ek]; exact (List.getElem?_set_ne (Ne.symm n4)).symm
    exact S.sep j k l dj dk n1 n3 ej' ek' sj sk
  bsl := fun j e => by
    have hne : i ≠ j := fun z => hb (by rw [z]; exact e)
    obtain ⟨h1, b, h2, h3⟩ := S.bsl j e
    exact ⟨by show (ρ.set i (some d))[j]? = _; rw [List.getElem?_set_ne hne]; exact h1, b, h2, by rw [List.getElem?_set_ne hne]; exact h3⟩
/-- a list of one's own goes into a slot -/
theorem SR.putOwn (S : SR c m F ρ ω σ H) {i : Nat} {ds : List D} {l : Addr} {us : List V} (h0 : c.H0 l = none) (h1 : F l = none) (h2 : H l = some (.lst us)) (h3 : RpL c.K F us ds) (hb : m.B ≠ some i)
    (hs : ∀ j dj, j ≠ i → j ∈ m.O → ρ[j]? = some (some dj) → σ[j]? ≠ some (some (.ref l))) : SR c (m.add i) F (put ρ i (.list ds)) ω (σ.set i (some (.ref l))) H where
  fr := S.fr
  len := by simp [M.put, S.len]
  dat := fun j d' e n => by
    rcases set_some e with ⟨g1, g2⟩ | ⟨g1, g2⟩
    · exact absurd (mem_add.mpr (.inl g1)) n
    · have n' : j ∉ m.O := fun z => n (mem_add.mpr (.inr ⟨z, g1⟩))
      obtain ⟨u, g3, g4⟩ := S.dat j d' g2 n'
      exact ⟨u, by rw [List.getElem?_set_ne (Ne.symm g1)]; exact g3, g4⟩
  own := fun j d' e n => by
    rcases set_some e with ⟨g1, g2⟩ | ⟨g1, g2⟩
    · subst g1 g2
      have hl : j < σ.length := by
        rw [← S.len]
        have := lt_of_some e
        simpa [M.put] using this
      exact ⟨l, us, ds, by rw [List.getElem?_set_self hl], rfl, h0, h1, h2, h3⟩
    · have n' : j ∈ m.O := by
        rcases mem_add.mp n with z | z
        · exact absurd z g1
        · exact z.1
      obtain ⟨l', us', ds', k1, k⟩ := S.own j d' g2 n'
      exact ⟨l', us', ds', by rw [List.getElem?_set_ne (Ne.symm g1)]; exact k1, k⟩
  sep := fun j k a dj dk oj ok ej ek sj sk => by
    by_cases hj : j = i
    · by_cases hk : k = i
      · rw [hj, hk]
      · exfalso
        subst hj
        have hl : j < σ.length := (List.getElem?_eq_some_iff.mp sj).1 |> fun z => by simpa using z
        rw [List.getElem?_set_self hl] at sj
        simp at sj
        subst sj
        rw [List.getElem?_set_ne (Ne.symm hk)] at sk
        have ek' : ρ[k]? = some (some dk) := by rw [← ek]; exact (List.getElem?_set_ne (Ne.symm hk)).symm
        rcases mem_add.mp ok with z | z
        · exact hk z
        · exact hs k dk hk z.1 ek' sk
    · by_cases hk : k = i
      · exfalso
        subst hk
        have hl : k < σ.length := (List.getElem?_eq_some_iff.mp sk).1 |> fun z => by simpa using z
        rw [List.getElem?_set_self hl] at sk
        simp at sk
        subst sk
        rw [List.getElem?_set_ne (Ne.symm hj)] at sj
        have ej' : ρ[j]? = some (some dj) := by rw [← ej]; exact (List.getElem?_set_ne (Ne.symm hj)).symm
        rcases mem_add.mp oj with z | z
        · exact hj z
        · exact hs j dj hj z.1 ej' sj
      · rw [List.getElem?_set_ne (Ne.symm hj)] at sj
        rw [List.getElem?_set_ne (Ne.symm hk)] at sk
        have ej' : ρ[j]? = some (some dj) := by rw [← ej]; exact (List.getElem?_set_ne (Ne.symm hj)).symm
        have ek' : ρ[k]? = some (some dk) := by rw [← ek]; exact (List.getElem?_set_ne (Ne.symm hk)).symm
        have oj' := (mem_add.mp oj).resolve_left hj
        have ok' := (mem_add.mp ok).resolve_left hk
        exact S.sep j k a dj dk oj'.1 ok'.1 ej' ek' sj sk
  bsl := fun j e => by
    have hne : i ≠ j := fun z => hb (by rw [z]; exact e)
    obtain ⟨g1, b, g2, g3⟩ := S.bsl j e
    exact ⟨by show (ρ.set i (some (.list ds)))[j]? = _; rw [List.getElem?_set_ne hne]; exact g1, b, g2, by rw [List.getElem?_set_ne hne]; exact g3⟩
/-- a list of one's own is frozen -/
theorem SR.freeze (S : SR c m F ρ ω σ H) (i : Nat) : ∃ F', Same F F' ∧ SR c (m.del i) F' ρ ω σ H := by
  by_cases hi : i ∈ m.O
  · cases hρ : ρ[i]? with
    | none =>
      refine ⟨F, Same.refl _, S.fr, S.len, fun j d e n => ?_, fun j d e n => S.own j d e (mem_del.mp n).1, fun j k l dj dk oj ok => S.sep j k l dj dk (mem_del.mp oj).1 (mem_del.mp ok).1, S.bsl⟩
      by_cases hj : j = i
      · rw [hj, hρ] at e; cases e
      · exact S.dat j d e fun z => n (mem_del.mpr ⟨z, hj⟩)
    | some o =>
      cases o with
      | none =>
        refine ⟨F, Same.refl _, S.fr, S.len, fun j d e n => ?_, fun j d e n => S.own j d e (mem_del.mp n).1, fun j k l dj dk oj ok => S.sep j k l dj dk (mem_del.mp oj).1 (mem_del.mp ok).1, S.bsl⟩
        by_cases hj : j = i
        · rw [hj, hρ] at e; cases e
        · exact S.dat j d e fun z => n (mem_del.mpr ⟨z, hj⟩)
      | some d0 =>
        obtain ⟨l, us, ds, g1, g2, g3, g4, g5, g6⟩ := S.own i d0 hρ hi
        have sF : Same F (upd F l (.lst us)) := same_upd g4
        have fH : Same (upd F l (.lst us)) H := fun a o e => by
          by_cases ha : a = l
          · subst ha; rw [upd_same] at e; cases e; exact g5
          · rw [upd_ne ha] at e; exact S.fh _ _ e
        refine ⟨upd F l (.lst us), sF, ⟨⟨S.fr.xt.ff.trans sF, fH, S.fr.xt.keep, S.fr.xt.dom, fun a h => ?_⟩, fun b e => ?_⟩, S.len, fun j d e n => ?_, fun j d e n => ?_, fun j k a dj dk oj ok => S.sep j k a dj dk (mem_del.mp oj).1 (mem_del.mp ok).1, S.bsl⟩
        · have ha : a ≠ l := fun z => h (z ▸ g3)
          rw [upd_ne ha]; exact S.fr.xt.new a h
        · obtain ⟨k0, k1, us', k2, k3⟩ := S.bo b e
          have hbl : b ≠ l := fun z => k0 (z ▸ g3)
          exact ⟨k0, by rw [upd_ne hbl]; exact k1, us', k2, k3.mono sF⟩
        · by_cases hj : j = i
          · subst hj
            rw [hρ] at e
            cases e
            exact ⟨_, g1, by rw [g2]; exact .lst upd_same (g6.mono sF)⟩
          · obtain ⟨u, k1, k2⟩ := S.dat j d e fun z => n (mem_del.mpr ⟨z, hj⟩)
            exact ⟨u, k1, k2.mono sF⟩
        · obtain ⟨n1, n2⟩ := mem_del.mp n
          obtain ⟨l', us', ds', k1, k2, k3, k4, k5, k6⟩ := S.own j d e n1
          have hll : l' ≠ l := fun z => n2 (S.sep j i l d d0 n1 hi e hρ (by rw [← z]; exact k1) g1)
          exact ⟨l', us', ds', k1, k2, k3, by rw [upd_ne hll]; exact k4, k5, k6.mono sF⟩
  · refine ⟨F, Same.refl _, S.fr, S.len, fun j d e n => S.dat j d e fun z => n (mem_del.mpr ⟨z, fun w => hi (w ▸ z)⟩), fun j d e n => S.own j d e (mem_del.mp n).1, fun j k l dj dk oj ok => S.sep j k l dj dk (mem_del.mp oj).1 (mem_del.mp ok).1, S.bsl⟩
/-- a list of one's own is changed -/
theorem SR.write (S : SR c m F ρ ω σ H) {i : Nat} {ds ds' : List D} (hi : i ∈ m.O) (hρ : ρ[i]? = some (some (.list ds))) {l : Addr} {us us' : List V} (g1 : σ[i]? = some (some (.ref l))) (h2 : H l = some (.lst us)) (r : RpL c.K F us' ds') :
    SR c m F (put ρ i (.list ds')) ω σ (upd H l (.lst us')) := by
  obtain ⟨l0, us0, ds0, k1, k2, k3, k4, k5, k6⟩ := S.own i _ hρ hi
  rw [g1] at k1
  simp only [Option.some.injEq, V.ref.injEq] at k1
  subst k1
  have fH : Same F (upd H l (.lst us')) := fun a o e => by
    have ha : a ≠ l := fun z => by rw [z, k4] at e; cases e
    rw [upd_ne ha]; exact S.fh _ _ e
  refine ⟨⟨⟨S.fr.xt.ff, fH, fun a o e n => ?_, fun a h => ?_, S.fr.xt.new⟩, fun b e => ?_⟩, by simp [M.put, S.len], fun j d e n => ?_, fun j d e n => ?_, fun j k a dj dk oj ok ej ek sj sk => ?_, fun j e => ?_⟩
  · have ha : a ≠ l := fun z => by rw [z, k3] at e; cases e
    rw [upd_ne ha]; exact S.fr.xt.keep a o e n
  · by_cases ha : a = l
    · rw [ha, upd_same]; simp
    · rw [upd_ne ha]; exact S.fr.xt.dom a h
  · obtain ⟨b0, b1, bu, b2, b3⟩ := S.bo b e
    have hbl : b ≠ l := fun z => b0 (z ▸ k3)
    exact ⟨b0, b1, bu, by rw [upd_ne hbl]; exact b2, b3⟩
  · rcases set_some e with ⟨z1, z2⟩ | ⟨z1, z2⟩
    · exact absurd (z1 ▸ hi) n
    · exact S.dat j d z2 n
  · rcases set_some e with ⟨z1, z2⟩ | ⟨z1, z2⟩
    · subst z1 z2
      exact ⟨l, us', ds', g1, rfl, k3, k4, upd_same, r⟩
    · obtain ⟨l', us1, ds1, q1, q2, q3, q4, q5, q6⟩ := S.own j d z2 n
      have hll : l' ≠ l := fun z => z1 (S.sep j i l d _ n hi z2 hρ (by rw [← z]; exact q1) g1)
      exact ⟨l', us1, ds1, q1, q2, q3, q4, by rw [upd_ne hll]; exact q5, q6⟩
  · have nn : ∀ {t : Nat} {dt : D}, (put ρ i (.list ds'))[t]? = some (some dt) → ∃ d0, ρ[t]? = some (some d0) := fun {t dt} et => by
      rcases set_some et with ⟨z1, z2⟩ | ⟨z1, z2⟩
      · exact ⟨_, z1 ▸ hρ⟩
      · exact ⟨_, z2⟩
    obtain ⟨d1, e1⟩ := nn ej
    obtain ⟨d2, e2⟩ := nn ek
    exact S.sep j k a d1 d2 oj ok e1 e2 sj sk
  · obtain ⟨q1, b, q2, q3⟩ := S.bsl j e
    have hne : i ≠ j := fun z => by rw [← z, hρ] at q1; cases q1
    exact ⟨by show (ρ.set i _)[j]? = _; rw [List.getElem?_set_ne hne]; exact q1, b, q2, q3⟩
/-- the borrowed list is changed -/
theorem SR.writeB (S : SR c m F ρ ω σ H) {b : Addr} (hb : c.b = some b) {us' : List V} {ω' : Wd} (r : RpL c.K F us' ω') : SR c m F ρ ω' σ (upd H b (.lst us')) := by
  obtain ⟨b0, b1, bu, b2, b3⟩ := S.bo b hb
  refine ⟨⟨⟨S.fr.xt.ff, fun a o e => ?_, fun a o e n => ?_, fun a h => ?_, S.fr.xt.new⟩, fun b' e => ?_⟩, S.len, S.dat, fun j d e n => ?_, S.sep, S.bsl⟩
  · have ha : a ≠ b := fun z => by rw [z, b1] at e; cases e
    rw [upd_ne ha]; exact S.fh _ _ e
  · have ha : a ≠ b := fun z => n (by rw [z]; exact hb)
    rw [upd_ne ha]; exact S.fr.xt.keep a o e n
  · by_cases ha : a = b
    · rw [ha, upd_same]; simp
    · rw [upd_ne ha]; exact S.fr.xt.dom a h
  · rw [hb] at e
    cases e
    exact ⟨b0, b1, us', upd_same, r⟩
  · obtain ⟨l', us1, ds1, q1, q2, q3, q4, q5, q6⟩ := S.own j d e n
    have hll : l' ≠ b := fun z => b0 (z ▸ q3)
    exact ⟨l', us1, ds1, q1, q2, q3, q4, by rw [upd_ne hll]; exact q5, q6⟩
end

/-! ### targets -/
def gN (i : Nat) : D → Ev → Option Ev := fun d ρ => some (put ρ i d)
def gsNil : List D → Ev → Option Ev
  | [], ρ => some ρ
  | _, _ => none
def gsCons (g : D → Ev → Option Ev) (gs : List D → Ev → Option Ev) : List D → Ev → Option Ev
  | d :: ds, ρ => (g d ρ).bind (gs ds)
  | [], _ => none
def gT (gs : List D → Ev → Option Ev) : D → Ev → Option Ev
  | .tuple ds, ρ => gs ds ρ
  | _, _ => none
def Off (is : List Nat) (σ σ' : L2.St) : Prop := σ'.length = σ.length ∧ ∀ j : Nat, j ∉ is → σ'[j]? = σ[j]?
def TGD (c : CM) (m mn : Md) (is : List Nat) (g : D → Ev → Option Ev) : TG := fun v σ H Q => ∃ F ρ ω d ρ', SR c m F ρ ω σ H ∧ Rp c.K F v d ∧ g d ρ = some ρ' ∧ ∀ σ', SR c mn F ρ' ω σ' H → Off is σ σ' → Q σ' H
def TGDs (c : CM) (m mn : Md) (is : List Nat) (g : List D → Ev → Option Ev) : TGs := fun vs σ H Q => ∃ F ρ ω ds ρ', SR c m F ρ ω σ H ∧ RpL c.K F vs ds ∧ g ds ρ = some ρ' ∧ ∀ σ', SR c mn F ρ' ω σ' H → Off is σ σ' → Q σ' H
theorem PGimp {X : Cx} {e : Expr} {t t' : TG} (h : PG X e t) (i : ∀ v σ H Q, t' v σ H Q → t v σ H Q) : PG X e t' := ⟨fun p s σ H v u Q I r q => h.run p s σ H v u Q I r (i _ _ _ _ q)⟩
theorem PGsimp {X : Cx} {e : List Expr} {t t' : TGs} (h : PGs X e t) (i : ∀ v σ H Q, t' v σ H Q → t v σ H Q) : PGs X e t' := ⟨fun p s σ H v u Q I r q => h.run p s σ H v u Q I r (i _ _ _ _ q)⟩
section
variable {c : CM} {W : WX} {m m1 mn mb mc : Md} {X : Cx} {e tg : Expr} {es : List Expr} {pos : Pos}
theorem gN_imp {i : Nat} (hb : m.B ≠ some i) : ∀ v σ H Q, TGD c m (m.del i) [i] (gN i) v σ H Q → gName i v σ H Q := fun v σ H Q ⟨F, ρ, ω, d, ρ', S, r, e, q⟩ => by
  simp only [gN, Option.some.injEq] at e
  subst e
  exact q _ (S.putD r hb) ⟨by simp, fun j hj => List.getElem?_set_ne fun z => hj (by simp [z])⟩
theorem g_name {i : Nat} {x : Str} (h : PG X (.Name x pos) (gName i)) (hb : m.B ≠ some i := by decide) : PG X (.Name x pos) (TGD c m (m.del i) [i] (gN i)) := PGimp h (gN_imp hb)
theorem gs_nil : PGs X [] (TGDs c m m [] gsNil) := PGsimp pgs_nil fun vs σ H Q ⟨F, ρ, ω, ds, ρ', S, r, e, q⟩ => by
  cases ds with
  | nil =>
    simp only [gsNil, Option.some.injEq] at e
    subst e
    cases r
    exact ⟨rfl, q _ S ⟨rfl, fun _ _ => rfl⟩⟩
  | cons d ds => simp [gsNil] at e
theorem gs_cons {is js : List Nat} {g : D → Ev → Option Ev} {gs : List D → Ev → Option Ev} (h : PG X e (TGD c m m1 is g)) (h2 : PGs X es (TGDs c m1 mn js gs))
    (hs : (assignEach (e :: es) X.env).map (·.2) = assign e X.env :: (assignEach es X.env).map (·.2) := by rfl) : PGs X (e :: es) (TGDs c m mn (is ++ js) (gsCons g gs)) := PGsimp (pgs_cons h h2 hs) fun vs σ H Q ⟨F, ρ, ω, ds, ρ', S, r, e, q⟩ => by
  cases ds with
  | nil => simp [gsCons] at e
  | cons d ds =>
    simp only [gsCons, Option.bind_eq_some_iff] at e
    obtain ⟨ρ1, e1, e2⟩ := e
    cases r with
    | cons r1 r2 => exact ⟨_, _, rfl, F, ρ, ω, d, ρ1, S, r1, e1, fun σ' S' o => ⟨F, ρ1, ω, ds, ρ', S', r2, e2, fun σ'' S'' o' => q σ'' S'' ⟨o'.1.trans o.1, fun j hj => (o'.2 j fun z => hj (by simp [z])).trans (o.2 j fun z => hj (by simp [z]))⟩⟩⟩
theorem len_gs {gs : List D → Ev → Option Ev} : ∀ {n : Nat} {ds : List D} {ρ ρ' : Ev}, (∀ ds ρ ρ', gs ds ρ = some ρ' → ds.length = n) → gT gs (.tuple ds) ρ = some ρ' → ds.length = n := fun h e => h _ _ _ e
theorem g_tup {is : List Nat} {k : Nat} {gs : List D → Ev → Option Ev} {n : Nat} (hk : X.K = c.K) (hc : X.calm = true) (h : PGs X es (TGDs c m mn is gs)) (hl : ∀ ds ρ ρ', gs ds ρ = some ρ' → ds.length = n)
    (hn : (assignEach es X.env).length = n := by rfl) (hst : (assignEach es X.env).findIdx? (·.1) = none := by rfl) : PG X (.Tuple es k pos) (TGD c m mn is (gT gs)) := PGimp (pg_tup hc h hn hst) fun v σ H Q ⟨F, ρ, ω, d, ρ', S, r, e, q⟩ => by
  cases r with
  | tup h1 h2 =>
    have e : gs _ ρ = some ρ' := e
    exact ⟨_, _, rfl, by rw [hk]; exact sameT S.fh h1, by rw [h2.length]; exact hl _ _ _ e, F, ρ, ω, _, ρ', S, h2, e, q⟩
  | _ => simp [gT] at e
theorem gl_nil : ∀ ds ρ ρ', gsNil ds ρ = some ρ' → ds.length = 0
  | [], _, _, _ => rfl
  | _ :: _, _, _, h => by simp [gsNil] at h
theorem gl_cons {g : D → Ev → Option Ev} {gs : List D → Ev → Option Ev} {n : Nat} (h : ∀ ds ρ ρ', gs ds ρ = some ρ' → ds.length = n) : ∀ ds ρ ρ', gsCons g gs ds ρ = some ρ' → ds.length = n + 1
  | [], _, _, e => by simp [gsCons] at e
  | d :: ds, ρ, ρ', e => by
    simp only [gsCons, Option.bind_eq_some_iff] at e
    obtain ⟨ρ1, e1, e2⟩ := e
    simp [h _ _ _ e2]
end

/-! ### statements -/
def sAsg (d : Ev → MM D) (g : D → Ev → Option Ev) : Ev → MM Fl := fun ρ ω => (d ρ ω).bind fun v w => (ofO (g v ρ) w).bind fun ρ' w => .ok (.next ρ') w
def sSeq (d1 d2 : Ev → MM Fl) : Ev → MM Fl := fun ρ ω => (d1 ρ ω).bind fun f w => match f with
  | .next ρ' => d2 ρ' w
  | .ret v => .ok (.ret v) w
  | .brk ρ' => .ok (.brk ρ') w
  | .cont ρ' => .ok (.cont ρ') w
def sNext : Ev → MM Fl := fun ρ ω => .ok (.next ρ) ω
def sBrk : Ev → MM Fl := fun ρ ω => .ok (.brk ρ) ω
def sCont : Ev → MM Fl := fun ρ ω => .ok (.cont ρ) ω
def sRet (d : Ev → MM D) : Ev → MM Fl := fun ρ ω => (d ρ ω).bind fun v w => .ok (.ret v) w
def sExpr (d : Ev → MM D) : Ev → MM Fl := fun ρ ω => (d ρ ω).bind fun _ w => .ok (.next ρ) w
def sIf (t : Ev → MM Bool) (d1 d2 : Ev → MM Fl) : Ev → MM Fl := fun ρ ω => (t ρ ω).bind fun b w => match b with
  | true => d1 ρ w
  | false => d2 ρ w
def sPar (i j : Nat) (d1 d2 : Ev → MM D) : Ev → MM Fl := fun ρ ω => (d1 ρ ω).bind fun a w => (d2 ρ w).bind fun b w => .ok (.next (put (put ρ i a) j b)) w
def sPar3 (i j k : Nat) (d1 d2 d3 : Ev → MM D) : Ev → MM Fl := fun ρ ω => (d1 ρ ω).bind fun a w => (d2 ρ w).bind fun b w => (d3 ρ w).bind fun e w => .ok (.next (put (put (put ρ i a) j b) k e)) w
def sAug (i : Nat) (f : D → D → Option D) (d : Ev → MM D) : Ev → MM Fl := fun ρ ω => match look ρ i with
  | none => .bad
  | some a => (d ρ ω).bind fun b w => (ofO (f a b) w).bind fun v w => .ok (.next (put ρ i v)) w
def sRaise (e : Ex) : Ev → MM Fl := fun _ ω => .exc e ω
def sFor (di : Ev → MM (List D)) (g : D → Ev → Option Ev) (db : Ev → MM Fl) : Ev → MM Fl := fun ρ ω => (di ρ ω).bind fun ds w => go ds ρ w
where go : List D → Ev → MM Fl
  | [], ρ, w => .ok (.next ρ) w
  | d :: ds, ρ, w => (ofO (g d ρ) w).bind fun ρ1 w => (db ρ1 w).bind fun f w => match f with
    | .next ρ2 => go ds ρ2 w
    | .cont ρ2 => go ds ρ2 w
    | .brk ρ2 => .ok (.next ρ2) w
    | .ret v => .ok (.ret v) w
def whileN (t : Ev → MM Bool) (db : Ev → MM Fl) : Nat → Ev → MM Fl
  | 0, _, _ => .bad
  | n + 1, ρ, w => (t ρ w).bind fun b w => match b with
    | false => .ok (.next ρ) w
    | true => (db ρ w).bind fun f w => match f with
      | .next ρ2 => whileN t db n ρ2 w
      | .cont ρ2 => whileN t db n ρ2 w
      | .brk ρ2 => .ok (.next ρ2) w
      | .ret v => .ok (.ret v) w
open Classical in
noncomputable def sWhile (t : Ev → MM Bool) (db : Ev → MM Fl) : Ev → MM Fl := fun ρ w =>
  if h : ∃ n, whileN t db n ρ w ≠ .bad then whileN t db h.choose ρ w else .bad
theorem whileN_mono {t : Ev → MM Bool} {db : Ev → MM Fl} : ∀ {n : Nat} {ρ : Ev} {w : Wd}, whileN t db n ρ w ≠ .bad → whileN t db (n + 1) ρ w = whileN t db n ρ w
  | 0, _, _, h => absurd rfl h
  | n + 1, ρ, w, h => by
    rw [whileN] at h ⊢
    conv => rhs; rw [whileN]
    cases e : t ρ w with
    | bad => rw [e] at h; exact absurd rfl h
    | exc x y => rfl
    | ok b w1 =>
      rw [e] at h
      cases b with
      | false => rfl
      | true =>
        simp only [bind_ok] at h ⊢
        cases e2 : db ρ w1 with
        | bad => rw [e2] at h; exact absurd rfl h
        | exc x y => rfl
        | ok f w2 =>
          rw [e2] at h
          simp only [bind_ok] at h ⊢
          cases f with
          | next ρ2 => exact whileN_mono h
          | cont ρ2 => exact whileN_mono h
          | brk ρ2 => rfl
          | ret v => rfl
theorem whileN_le {t : Ev → MM Bool} {db : Ev → MM Fl} {n m : Nat} {ρ : Ev} {w : Wd} (h : whileN t db n ρ w ≠ .bad) (l : n ≤ m) : whileN t db m ρ w = whileN t db n ρ w := by
  induction m with
  | zero => have : n = 0 := by omega
            subst this; rfl
  | succ m ih =>
    by_cases e : n = m + 1
    · rw [e]
    · have i := ih (by omega)
      rw [whileN_mono (by rw [i]; exact h), i]
theorem sWhile_of {t : Ev → MM Bool} {db : Ev → MM Fl} {n : Nat} {ρ : Ev} {w : Wd} (h : whileN t db n ρ w ≠ .bad) : sWhile t db ρ w = whileN t db n ρ w := by
  have hx : ∃ n, whileN t db n ρ w ≠ .bad := ⟨n, h⟩
  unfold sWhile
  rw [dif_pos hx]
  rcases Nat.le_total hx.choose n with l | l
  · exact (whileN_le hx.choose_spec l).symm
  · exact whileN_le h l
theorem sWhile_some {t : Ev → MM Bool} {db : Ev → MM Fl} {ρ : Ev} {w : Wd} (h : sWhile t db ρ w ≠ .bad) : ∃ n, whileN t db n ρ w = sWhile t db ρ w := by
  unfold sWhile at h ⊢
  split at h
  · rename_i hx
    exact ⟨hx.choose, by rw [dif_pos hx]⟩
  · exact absurd rfl h
theorem sWhile_unfold (t : Ev → MM Bool) (db : Ev → MM Fl) (ρ : Ev) (w : Wd) : sWhile t db ρ w = (t ρ w).bind fun b w => match b with
    | false => .ok (.next ρ) w
    | true => (db ρ w).bind fun f w => match f with
      | .next ρ2 => sWhile t db ρ2 w
      | .cont ρ2 => sWhile t db ρ2 w
      | .brk ρ2 => .ok (.next ρ2) w
      | .ret v => .ok (.ret v) w := by
  have fwd : ∀ n, whileN t db n ρ w ≠ .bad → whileN t db n ρ w = (t ρ w).bind fun b w => match b with
    | false => .ok (.next ρ) w
    | true => (db ρ w).bind fun f w => match f with
      | .next ρ2 => sWhile t db ρ2 w
      | .cont ρ2 => sWhile t db ρ2 w
      | .brk ρ2 => .ok (.next ρ2) w
      | .ret v => .ok (.ret v) w := fun n h => by
    cases n with
    | zero => exact absurd rfl h
    | succ n =>
      rw [whileN] at h ⊢
      cases e : t ρ w with
      | bad => rfl
      | exc x y => rfl
      | ok b w1 =>
        rw [e] at h
        cases b with
        | false => rfl
        | true =>
          simp only [bind_ok] at h ⊢
          cases e2 : db ρ w1 with
          | bad => rfl
          | exc x y => rfl
          | ok f w2 =>
            rw [e2] at h
            simp only [bind_ok] at h ⊢
            cases f with
            | next ρ2 => exact (sWhile_of h).symm
            | cont ρ2 => exact (sWhile_of h).symm
            | brk ρ2 => rfl
            | ret v => rfl
  by_cases h : sWhile t db ρ w = .bad
  · rw [h]
    cases e : t ρ w with
    | bad => rfl
    | exc x y =>
      have : whileN t db 1 ρ w ≠ .bad := by rw [whileN, e]; simp
      rw [sWhile_of this] at h
      exact absurd h this
    | ok b w1 =>
      cases b with
      | false =>
        have : whileN t db 1 ρ w ≠ .bad := by rw [whileN, e]; simp
        rw [sWhile_of this] at h
        exact absurd h this
      | true =>
        simp only [bind_ok]
        cases e2 : db ρ w1 with
        | bad => rfl
        | exc x y =>
          have : whileN t db 1 ρ w ≠ .bad := by rw [whileN, e]; simp [e2]
          rw [sWhile_of this] at h
          exact absurd h this
        | ok f w2 =>
          have key : ∀ ρ2, (∀ n, whileN t db (n + 1) ρ w = whileN t db n ρ2 w2) → Res.bad = sWhile t db ρ2 w2 := fun ρ2 hn => by
            cases q : sWhile t db ρ2 w2 with
            | bad => rfl
            | _ =>
              obtain ⟨n, hn2⟩ := sWhile_some (t := t) (db := db) (ρ := ρ2) (w := w2) (by rw [q]; simp)
              have hne : whileN t db (n + 1) ρ w ≠ .bad := by rw [hn n, hn2, q]; simp
              rw [sWhile_of hne] at h
              exact absurd h hne
          cases f with
          | next ρ2 => exact key ρ2 fun n => by rw [whileN, e]; simp [e2]
          | cont ρ2 => exact key ρ2 fun n => by rw [whileN, e]; simp [e2]
          | brk ρ2 =>
            have : whileN t db 1 ρ w ≠ .bad := by rw [whileN, e]; simp [e2]
            rw [sWhile_of this] at h
            exact absurd h this
          | ret v =>
            have : whileN t db 1 ρ w ≠ .bad := by rw [whileN, e]; simp [e2]
            rw [sWhile_of this] at h
            exact absurd h this
  · obtain ⟨n, hn⟩ := sWhile_some h
    rw [← hn]
    exact fwd n (by rw [hn]; exact h)

section
variable {c : CM} {W : WX} {m m1 mn mb mc : Md} {X : Cx} {e tg : Expr} {es : List Expr} {st : Stmt} {sts : List Stmt} {pos : Pos}
theorem asg_imp {is : List Nat} {d : Ev → MM D} {g : D → Ev → Option Ev} : ∀ D' σ H, TSD c W m mn mb mc (sAsg d g) D' σ H → tAsg (TD c W m d) (TGD c m mn is g) D' σ H := fun D' σ H ⟨F, ρ, ω, S, q⟩ =>
  ⟨F, ρ, ω, S, bindT S (GS.pg (D' := D')) (k := fun v w => (ofO (g v ρ) w).bind fun ρ' w => .ok (.next ρ') w) (⟨S.fr.xt, q⟩ : GS c W mn mb mc D' F H _) fun a F1 H1 w1 x1 S1 q1 x r1 => by
    cases eg : g a ρ with
    | none => rw [eg] at q1; exact q1.2.elim
    | some ρ' =>
      rw [eg] at q1
      exact ⟨F1, ρ, w1, a, ρ', S1, r1, eg, fun σ' S' _ => q1.2 F1 σ' H1 (Same.refl _) S'⟩⟩
theorem s_asg {is : List Nat} {d : Ev → MM D} {g : D → Ev → Option Ev} (he : E c W m X e d) (hg : PG X tg (TGD c m mn is g)) (hs : swapsWithSole [tg] e pos.line X.env = pure false := by rfl) (hw : swappedStores [tg] e X.env = pure none := by rfl)
    (h1 : (assignEach [tg] X.env).map (·.2) = [assign tg X.env] := by rfl) : PS X (.Assign [tg] e pos) (TSD c W m mn mb mc (sAsg d g)) := PSimp (ps_asg he hg hs hw h1) asg_imp
theorem s_set {i : Nat} {x : Str} {d : Ev → MM D} {pos' : Pos} (he : E c W m X e d) (h : PE X e (TD c W m d) → PS X (.Assign [.Name x pos'] e pos) (tAsg (TD c W m d) (gName i))) (hb : m.B ≠ some i := by decide) : PS X (.Assign [.Name x pos'] e pos) (TSD c W m (m.del i) mb mc (sAsg d (gN i))) :=
  PSimp (h he) fun D' σ H q => by
    obtain ⟨F, ρ, ω, S, q'⟩ := asg_imp (is := [i]) D' σ H q
    refine ⟨F, ρ, ω, S, ?_⟩
    cases hd : d ρ ω with
    | bad => rw [hd] at q'; exact q'
    | exc x y => rw [hd] at q'; exact q'
    | ok a w =>
      rw [hd] at q'
      exact fun F' H' xt bo x r => gN_imp hb _ _ _ _ (q' F' H' xt bo x r)
theorem s_setLc {d : Ev → MM D} {i : Nat} {te : TE} (h : PS X st (tAsg te (gName i))) (hi : ∀ σ H Q, TD c W m d σ H Q → te σ H Q) (hb : m.B ≠ some i := by decide) : PS X st (TSD c W m (m.del i) mb mc (sAsg d (gN i))) :=
  PSimp h fun D' σ H q => by
    obtain ⟨F, ρ, ω, S, q'⟩ := asg_imp (is := [i]) D' σ H q
    refine hi _ _ _ ⟨F, ρ, ω, S, ?_⟩
    cases hd : d ρ ω with
    | bad => rw [hd] at q'; exact q'
    | exc x y => rw [hd] at q'; exact q'
    | ok a w =>
      rw [hd] at q'
      exact fun F' H' xt bo x r => gN_imp hb _ _ _ _ (q' F' H' xt bo x r)
theorem ss_nil : PSs X [] (TSD c W m m mb mc sNext) := PSsimp pss_nil fun D' σ H ⟨F, ρ, ω, S, q⟩ => q F σ H (Same.refl _) S
theorem seq_imp {d1 d2 : Ev → MM Fl} : ∀ D' σ H, TSD c W m mn mb mc (sSeq d1 d2) D' σ H → tSeq (TSD c W m m1 mb mc d1) (TSD c W m1 mn mb mc d2) D' σ H := fun D' σ H ⟨F, ρ, ω, S, q⟩ => by
  refine ⟨F, ρ, ω, S, ?_⟩
  unfold sSeq at q
  cases e : d1 ρ ω with
  | bad => rw [e] at q; exact q
  | exc x y => rw [e] at q; exact q
  | ok f w =>
    rw [e] at q
    cases f with
    | next ρ' => exact fun F' σ' H' s S' => ⟨F', ρ', w, S', q.mono s⟩
    | ret v => exact q
    | brk ρ' => exact q
    | cont ρ' => exact q
theorem ss_cons {d1 d2 : Ev → MM Fl} (h1 : PS X st (TSD c W m m1 mb mc d1)) (h2 : PSs X sts (TSD c W m1 mn mb mc d2)) : PSs X (st :: sts) (TSD c W m mn mb mc (sSeq d1 d2)) := PSsimp (pss_cons h1 h2) seq_imp
theorem ss_one {d : Ev → MM Fl} (h : PS X st (TSD c W m mn mb mc d)) : PSs X [st] (TSD c W m mn mb mc d) := pss_one h
theorem s_pass : PS X (.Pass pos) (TSD c W m m mb mc sNext) := PSimp ps_pass fun D' σ H ⟨F, ρ, ω, S, q⟩ => q F σ H (Same.refl _) S
theorem s_doc {x j pos'} : PS X (.Expr (.Constant (.str x) j pos) pos') (TSD c W m m mb mc sNext) := PSimp ps_doc fun D' σ H ⟨F, ρ, ω, S, q⟩ => q F σ H (Same.refl _) S
theorem s_brk : PS X (.Break pos) (TSD c W m mn m mc sBrk) := PSimp ps_break fun D' σ H ⟨F, ρ, ω, S, q⟩ => q F σ H (Same.refl _) S
theorem s_cont : PS X (.Continue pos) (TSD c W m mn mb m sCont) := PSimp ps_continue fun D' σ H ⟨F, ρ, ω, S, q⟩ => q F σ H (Same.refl _) S
theorem s_ret {d : Ev → MM D} (h : E c W m X e d) : PS X (.Return (some e) pos) (TSD c W m mn mb mc (sRet d)) := PSimp (ps_ret h) fun D' σ H ⟨F, ρ, ω, S, q⟩ =>
  ⟨F, ρ, ω, S, bindT S (GS.pg (D' := D')) (k := fun v w => .ok (.ret v) w) (⟨S.fr.xt, q⟩ : GS c W mn mb mc D' F H _) fun a F1 H1 w1 x1 S1 q1 x r1 => q1.2 F1 H1 x (Same.refl _) S1.fr r1⟩
theorem s_expr {d : Ev → MM D} (h : E c W m X e d) (hs : swapsWith e none pos.line X.env = pure false := by rfl) : PS X (.Expr e pos) (TSD c W m m mb mc (sExpr d)) := PSimp (ps_expr h hs) fun D' σ H ⟨F, ρ, ω, S, q⟩ =>
  ⟨F, ρ, ω, S, bindT S (GS.pg (D' := D')) (k := fun v w => .ok (.next ρ) w) (⟨S.fr.xt, q⟩ : GS c W m mb mc D' F H _) fun a F1 H1 w1 x1 S1 q1 x r1 => q1.2 F1 σ H1 (Same.refl _) S1⟩
theorem s_if {t : Expr} {a b : List Stmt} {dt : Ev → MM Bool} {d1 d2 : Ev → MM Fl} (ht : B c W m X t dt) (h1 : PSs X a (TSD c W m mn mb mc d1)) (h2 : PSs X b (TSD c W m mn mb mc d2)) : PS X (.If t a b pos) (TSD c W m mn mb mc (sIf dt d1 d2)) := PSimp (ps_if ht h1 h2) fun D' σ H ⟨F, ρ, ω, S, q⟩ => by
  have q' : GS c W mn mb mc D' F H (sIf dt d1 d2 ρ ω) := ⟨S.fr.xt, q⟩
  unfold sIf at q'
  refine ⟨F, ρ, ω, S, bindT S GS.pg q' fun a F1 H1 w1 x1 S1 q1 => ?_⟩
  cases a with
  | true => exact iteT ⟨F1, ρ, w1, S1, q1.2⟩
  | false => exact iteF ⟨F1, ρ, w1, S1, q1.2⟩
theorem par_imp {i j : Nat} {d1 d2 : Ev → MM D} (hi : m.B ≠ some i) (hj : m.B ≠ some j) : ∀ D' σ H, TSD c W m ((m.del i).del j) mb mc (sPar i j d1 d2) D' σ H → tPar i j (TDa c W m (aCons d1 (aCons d2 aNil))) D' σ H := fun D' σ H ⟨F, ρ, ω, S, q⟩ => by
  have q' : GS c W ((m.del i).del j) mb mc D' F H ((aCons d1 (aCons d2 aNil) ρ ω).bind fun r w => match r with
      | [a, b] => .ok (.next (put (put ρ i a) j b)) w
      | _ => .bad) := ⟨S.fr.xt, by
    unfold sPar at q
    unfold aCons aNil
    cases h : d1 ρ ω with
    | ok a w => rw [h] at q; cases h' : d2 ρ w <;> simpa [h'] using q
    | _ => rw [h] at q; exact q⟩
  refine ⟨F, ρ, ω, S, bindT S GS.pg q' fun r F1 H1 w1 x1 S1 q1 xs rx => ?_⟩
  match r, q1, rx with
  | [a, b], q1, rx =>
    obtain ⟨v, u, rfl, r1, r2⟩ := rx.two
    exact ⟨v, u, rfl, q1.2 F1 _ H1 (Same.refl _) ((S1.putD r1 hi).putD r2 hj)⟩
  | [], q1, rx => exact q1.2.elim
  | [_], q1, rx => exact q1.2.elim
  | _ :: _ :: _ :: _, q1, rx => exact q1.2.elim
theorem s_par {i j : Nat} {x y : Str} {a b : Expr} {px py pt : Pos} {kt k2 pt2} {d1 d2 : Ev → MM D} (ha : A c W m X [a, b] (aCons d1 (aCons d2 aNil))) (hc : X.calm = true) (hN : X.N.Nodup) (hi : X.N[i]? = some x) (hj : X.N[j]? = some y) (hij : i ≠ j)
    (hx : X.env.scope.names.lookup x = some .local) (hy : X.env.scope.names.lookup y = some .local)
    (hw : swappedStores [.Tuple [.Name x px, .Name y py] kt pt] (.Tuple [a, b] k2 pt2) X.env = pure (some [x, y]))
    (hs : swapsWithSole [.Tuple [.Name x px, .Name y py] kt pt] (.Tuple [a, b] k2 pt2) pos.line X.env = pure false := by rfl) (bi : m.B ≠ some i := by decide) (bj : m.B ≠ some j := by decide) :
    PS X (.Assign [.Tuple [.Name x px, .Name y py] kt pt] (.Tuple [a, b] k2 pt2) pos) (TSD c W m ((m.del i).del j) mb mc (sPar i j d1 d2)) := PSimp (ps_par hc hN hi hj hij hx hy ha.pa hw hs) (par_imp bi bj)
theorem par3_imp {i j k : Nat} {d1 d2 d3 : Ev → MM D} (hi : m.B ≠ some i) (hj : m.B ≠ some j) (hk : m.B ≠ some k) : ∀ D' σ H, TSD c W m (((m.del i).del j).del k) mb mc (sPar3 i j k d1 d2 d3) D' σ H → tPar3 i j k (TDa c W m (aCons d1 (aCons d2 (aCons d3 aNil)))) D' σ H := fun D' σ H ⟨F, ρ, ω, S, q⟩ => by
  have q' : GS c W (((m.del i).del j).del k) mb mc D' F H ((aCons d1 (aCons d2 (aCons d3 aNil)) ρ ω).bind fun r w => match r with
      | [a, b, e] => .ok (.next (put (put (put ρ i a) j b) k e)) w
      | _ => .bad) := ⟨S.fr.xt, by
    unfold sPar3 at q
    unfold aCons aNil
    cases h : d1 ρ ω with
    | ok a w =>
      rw [h] at q
      cases h' : d2 ρ w with
      | ok b w' =>
        simp only [bind_ok] at q ⊢
        rw [h'] at q ⊢
        simp only [bind_ok] at q ⊢
        cases h'' : d3 ρ w' <;> simpa [h''] using q
      | _ => simpa [h'] using q
    | _ => rw [h] at q; exact q⟩
  refine ⟨F, ρ, ω, S, bindT S GS.pg q' fun r F1 H1 w1 x1 S1 q1 xs rx => ?_⟩
  match r, q1, rx with
  | [a, b, e], q1, rx =>
    obtain ⟨v, u, w, rfl, r1, r2, r3⟩ := rx.three
    exact ⟨v, u, w, rfl, q1.2 F1 _ H1 (Same.refl _) (((S1.putD r1 hi).putD r2 hj).putD r3 hk)⟩
  | [], q1, rx => exact q1.2.elim
  | [_], q1, rx => exact q1.2.elim
  | [_, _], q1, rx => exact q1.2.elim
  | _ :: _ :: _ :: _ :: _, q1, rx => exact q1.2.elim
theorem s_par3 {i j k : Nat} {x y z : Str} {a b e3 : Expr} {px py pz pt : Pos} {kt k2 pt2} {d1 d2 d3 : Ev → MM D} (ha : A c W m X [a, b, e3] (aCons d1 (aCons d2 (aCons d3 aNil)))) (hc : X.calm = true) (hN : X.N.Nodup) (hi : X.N[i]? = some x) (hj : X.N[j]? = some y) (hl : X.N[k]? = some z) (hij : i ≠ j) (hil : i ≠ k) (hjl : j ≠ k)
    (hx : X.env.scope.names.lookup x = some .local) (hy : X.env.scope.names.lookup y = some .local) (hz : X.env.scope.names.lookup z = some .local)
    (hw : swappedStores [.Tuple [.Name x px, .Name y py, .Name z pz] kt pt] (.Tuple [a, b, e3] k2 pt2) X.env = pure (some [x, y, z]))
    (hs : swapsWithSole [.Tuple [.Name x px, .Name y py, .Name z pz] kt pt] (.Tuple [a, b, e3] k2 pt2) pos.line X.env = pure false := by rfl) (bi : m.B ≠ some i := by decide) (bj : m.B ≠ some j := by decide) (bk : m.B ≠ some k := by decide) :
    PS X (.Assign [.Tuple [.Name x px, .Name y py, .Name z pz] kt pt] (.Tuple [a, b, e3] k2 pt2) pos) (TSD c W m (((m.del i).del j).del k) mb mc (sPar3 i j k d1 d2 d3)) := PSimp (ps_par3 hc hN hi hj hl hij hil hjl hx hy hz ha.pa hw hs) (par3_imp bi bj bk)
theorem s_aug {i : Nat} {r : R2} {f : D → D → Option D} {d : Ev → MM D} {x1 v1 : Expr} {op1 : Operator} (v : VOp c.K r f) (hO : i ∉ m.O) (he : E c W m X v1 d) (h : PE X v1 (TD c W m d) → PS X (.AugAssign x1 op1 v1 pos) (tAug i (TD c W m d) r)) (hb : m.B ≠ some i := by decide) : PS X (.AugAssign x1 op1 v1 pos) (TSD c W m (m.del i) mb mc (sAug i f d)) := PSimp (h he) fun D' σ H ⟨F, ρ, ω, S, q⟩ => by
  unfold sAug at q
  cases hl : look ρ i with
  | none => rw [hl] at q; exact q.elim
  | some a =>
    rw [hl] at q
    obtain ⟨x, h1, h2⟩ := S.dat i a (look_iff hl) hO
    refine ⟨x, h1, F, ρ, ω, S, bindT S (GS.pg (D' := D')) (k := fun b w => (ofO (f a b) w).bind fun v w => .ok (.next (put ρ i v)) w) (⟨S.fr.xt, q⟩ : GS c W (m.del i) mb mc D' F H _) fun b F1 H1 w1 x1 S1 q1 y r1 => ?_⟩
    cases ef : f a b with
    | none => rw [ef] at q1; exact q1.2.elim
    | some z =>
      rw [ef] at q1
      refine v F1 H1 x y a b z _ S1.fh (h2.mono x1.ff) r1 ef fun F' H' zv xt rz => ?_
      exact q1.2 F' _ H' xt.ff ((S1.step xt.any (S1.bo.ext xt)).putD rz hb)
theorem s_raise {C : Addr} {x mm : Str} {j : Nat} {p p2 p3 : Pos} {Bs newId initId : String} {bmB : List Value} (hk : X.K = c.K) (hmg : X.mg = c.mg) (hc : X.calm = true) (tk : Takes X W) (Fx : ExcBaseFacts Bs newId initId bmB) (q : PySem.W.excIn X.K C bmB newId = true) (gC : X.mg x = some (.ref C)) (kC : PySem.W.keepIn X.K (.ref C) = true) (r : Raises X (.ref C)) (hg : Gl X x)
    (hdb : (x == ("__debug__" : Str)) = false := by decide) : PS X (.Raise (some (.Call (.Name x p) [.Constant (.str mm) j p2] [] p3)) none pos) (TSD c W m mn mb mc (sRaise ⟨x, none⟩)) :=
  PSimp (ps_raise hc tk (pmk_own Fx q gC kC r hg hdb)) fun D' σ H ⟨F, ρ, ω, S, q⟩ => q F σ H (.ref C) none (Same.refl _) S.fr ⟨C, by rw [← hmg]; exact gC, rfl, rfl⟩
/-- a list of one's own is frozen ahead of the statements -/
theorem ss_frz {d : Ev → MM Fl} (i : Nat) (h : PSs X sts (TSD c W (m.del i) mn mb mc d)) : PSs X sts (TSD c W m mn mb mc d) := PSsimp h fun D' σ H ⟨F, ρ, ω, S, q⟩ => by
  obtain ⟨F', s, S'⟩ := S.freeze i
  exact ⟨F', ρ, ω, S', q.mono s⟩
theorem frz_end {D' : Ends} {F : Hp} {i : Nat} : ∀ {r : Res Fl}, PostS c W (mn.del i) mb mc F D' r → PostS c W mn mb mc F D' r
  | .bad, h => h
  | .ok (.next _) _, h => fun F' σ' H' s S => by
    obtain ⟨F2, s2, S2⟩ := S.freeze i
    exact h F2 σ' H' (s.trans s2) S2
  | .ok (.brk _) _, h => h
  | .ok (.cont _) _, h => h
  | .ok (.ret _) _, h => h
  | .exc _ _, h => h
/-- .. behind them -/
theorem ss_frzE {d : Ev → MM Fl} (i : Nat) (h : PSs X sts (TSD c W m mn mb mc d)) : PSs X sts (TSD c W m (mn.del i) mb mc d) := PSsimp h fun D' σ H ⟨F, ρ, ω, S, q⟩ => ⟨F, ρ, ω, S, frz_end q⟩
theorem s_frzE {d : Ev → MM Fl} (i : Nat) (h : PS X st (TSD c W m mn mb mc d)) : PS X st (TSD c W m (mn.del i) mb mc d) := PSimp h fun D' σ H ⟨F, ρ, ω, S, q⟩ => ⟨F, ρ, ω, S, frz_end q⟩
end
end M

set_option Elab.async false
set_option linter.all false
set_option maxRecDepth 100000
set_option maxHeartbeats 4000000
namespace M
open PySem PySem.Spec PyProof.Rows L2

/-! ### what is walked -/
structure Wk (K : PySem.W.Frag) (F : Hp) (J : It) (ds : List D) : Prop where
  go : ∀ i F1 H1, i < ds.length → Same F F1 → Same F1 H1 → J.go i H1
  stop : ∀ F1 H1, Same F F1 → Same F1 H1 → J.stop ds.length H1
  yld : ∀ i d F1 H1 x H2, ds[i]? = some d → Same F F1 → Same F1 H1 → J.yld i H1 x H2 → ∃ F2, Xt none F1 H1 F2 H2 ∧ Rp K F2 x d
def TID (c : CM) (W : WX) (m : Md) (d : Ev → MM (List D)) : TI := fun σ H R => ∃ F ρ ω, SR c m F ρ ω σ H ∧ Post c W F H σ (fun ds F' H' _ => ∀ J, Wk c.K F' J ds → R J H') (d ρ ω)
theorem PIimp {X : Cx} {tg it : Expr} {t t' : TI} (h : PI X tg it t) (i : ∀ σ H R, t' σ H R → t σ H R) : PI X tg it t' := ⟨fun p s σ H R I q => h.run p s σ H R I (i _ _ _ q)⟩
theorem PIor {X : Cx} {tg it : Expr} {t t' u : TI} (h : PI X tg it t) (h' : PI X tg it t') (i : ∀ σ H R, u σ H R → t σ H R ∨ t' σ H R) : PI X tg it u := ⟨fun p s σ H R I q => by
  rcases i _ _ _ q with q | q
  · exact h.run p s σ H R I q
  · exact h'.run p s σ H R I q⟩
def iSeq (d : Ev → MM D) : Ev → MM (List D) := fun ρ ω => (d ρ ω).bind fun v w => match v with
  | .list ds => .ok ds w
  | .tuple ds => .ok ds w
  | _ => .bad
def rangeL (lo c : Int) : Nat → List D
  | 0 => []
  | n + 1 => .int lo :: rangeL (lo + c) c n
theorem rangeL_len (c : Int) : ∀ (n : Nat) (lo : Int), (rangeL lo c n).length = n
  | 0, _ => rfl
  | n + 1, lo => by simp [rangeL, rangeL_len c n]
theorem rangeL_get (c : Int) : ∀ (n : Nat) (lo : Int) (i : Nat) (d : D), (rangeL lo c n)[i]? = some d → d = .int (lo + i * c) ∧ i < n
  | 0, _, _, _, h => by simp [rangeL] at h
  | n + 1, lo, 0, d, h => by simp [rangeL] at h; simp [← h]
  | n + 1, lo, i + 1, d, h => by
    obtain ⟨h1, h2⟩ := rangeL_get c n (lo + c) i d (by simpa [rangeL] using h)
    refine ⟨?_, by omega⟩
    rw [h1]
    congr 1
    rw [Int.natCast_add, Int.add_mul]
    omega
def okR (i : Int) : Prop := -(2 ^ 62) ≤ i ∧ i < 2 ^ 62
instance (i : Int) : Decidable (okR i) := by unfold okR; infer_instance
def iRange : List D → Option (List D)
  | [.int j] => if okR j then some (rangeL 0 1 j.toNat) else none
  | [.int i, .int j] => if okR i ∧ okR j then some (rangeL i 1 (j - i).toNat) else none
  | [.int i, .int j, .int k] => if k ≠ 0 ∧ k.natAbs < 1073741824 ∧ Builtin.Range.small i j k = true ∧ 0 ≤ Builtin.Range.rangeSize i j k then some (rangeL i k (Builtin.Range.rangeSize i j k).toNat) else none
  | _ => none
def iArgs (f : List D → Option (List D)) (ds : Ev → MM (List D)) : Ev → MM (List D) := fun ρ ω => (ds ρ ω).bind fun r w => ofO (f r) w
def enumL : Nat → List D → List D
  | _, [] => []
  | n, d :: ds => .tuple [.int n, d] :: enumL (n + 1) ds
def iEnumF : List D → Option (List D)
  | [.list ds] => some (enumL 0 ds)
  | _ => none
def zipL : List D → List D → List D
  | a :: as, b :: bs => .tuple [a, b] :: zipL as bs
  | _, _ => []
def iZipF : List D → Option (List D)
  | [.list as, .list bs] => some (zipL as bs)
  | _ => none
def iRevF : List D → Option (List D)
  | [.list ds] => some ds.reverse
  | _ => none
theorem enumL_len : ∀ (n : Nat) (ds : List D), (enumL n ds).length = ds.length
  | _, [] => rfl
  | n, d :: ds => by simp [enumL, enumL_len (n + 1) ds]
theorem enumL_get : ∀ (n : Nat) (ds : List D) (i : Nat) (d : D), (enumL n ds)[i]? = some d → ∃ e, ds[i]? = some e ∧ d = .tuple [.int ((n + i : Nat) : Int), e]
  | _, [], _, _, h => by simp [enumL] at h
  | n, d :: ds, 0, e, h => by simp [enumL] at h; exact ⟨d, rfl, by simp [← h]⟩
  | n, d :: ds, i + 1, e, h => by
    obtain ⟨x, h1, h2⟩ := enumL_get (n + 1) ds i e (by simpa [enumL] using h)
    exact ⟨x, by simpa using h1, by rw [h2, show n + 1 + i = n + (i + 1) by omega]⟩
theorem zipL_len : ∀ (as bs : List D), (zipL as bs).length = min as.length bs.length
  | [], _ => by simp [zipL]
  | _ :: _, [] => by simp [zipL]
  | a :: as, b :: bs => by simp [zipL, zipL_len as bs]
theorem zipL_get : ∀ (as bs : List D) (i : Nat) (d : D), (zipL as bs)[i]? = some d → ∃ a b, as[i]? = some a ∧ bs[i]? = some b ∧ d = .tuple [a, b]
  | [], _, _, _, h => by simp [zipL] at h
  | _ :: _, [], _, _, h => by simp [zipL] at h
  | a :: as, b :: bs, 0, d, h => by simp [zipL] at h; exact ⟨a, b, rfl, rfl, h.symm⟩
  | a :: as, b :: bs, i + 1, d, h => by
    obtain ⟨x, y, h1, h2, h3⟩ := zipL_get as bs i d (by simpa [zipL] using h)
    exact ⟨x, y, by simpa using h1, by simpa using h2, h3⟩
section
variable {c : CM} {W : WX} {m m1 mn mb mc : Md} {X : Cx} {e tg iter : Expr} {es : List Expr} {st : Stmt} {sts : List Stmt} {pos p : Pos}
theorem wk_range {K : PySem.W.Frag} {F : Hp} (lo : Int) (n : Nat) : Wk K F (Itr lo n) (rangeL lo 1 n) where
  go := fun i F1 H1 h _ _ => by rw [rangeL_len] at h; exact h
  stop := fun F1 H1 _ _ => by rw [rangeL_len]; exact Nat.le_refl _
  yld := fun i d F1 H1 x H2 h s1 s2 y => by
    obtain ⟨e1, e2⟩ := rangeL_get 1 n lo i d h
    obtain ⟨rfl, rfl⟩ := y
    subst e1
    exact ⟨F1, Xt.refl s2, by simpa using Rp.int (K := K) (H := F1) (lo + i)⟩
theorem wk_rangeC {K : PySem.W.Frag} {F : Hp} (lo k : Int) (n : Nat) : Wk K F (Itc lo k n) (rangeL lo k n) where
  go := fun i F1 H1 h _ _ => by rw [rangeL_len] at h; exact h
  stop := fun F1 H1 _ _ => by rw [rangeL_len]; exact Nat.le_refl _
  yld := fun i d F1 H1 x H2 h s1 s2 y => by
    obtain ⟨e1, e2⟩ := rangeL_get k n lo i d h
    obtain ⟨rfl, rfl⟩ := y
    subst e1
    exact ⟨F1, Xt.refl s2, .int _⟩
theorem wk_list {K : PySem.W.Frag} {F : Hp} {a : Addr} {xs : List V} {ds : List D} (h : F a = some (.lst xs)) (r : RpL K F xs ds) : Wk K F (Itl K a) ds where
  go := fun i F1 H1 hi s1 s2 => ⟨xs, xs[i]'(by rw [r.length]; exact hi), SqL.of (s2 _ _ (s1 _ _ h)), by simp [r.length, hi]⟩
  stop := fun F1 H1 s1 s2 => ⟨xs, SqL.of (s2 _ _ (s1 _ _ h)), by rw [r.length]; exact Nat.le_refl _⟩
  yld := fun i d F1 H1 x H2 hd s1 s2 y => by
    obtain ⟨rfl, y⟩ := y
    have q := y xs (SqL.of (s2 _ _ (s1 _ _ h)))
    obtain ⟨v, h1, h2⟩ := r.get hd
    rw [h1] at q
    cases q
    exact ⟨F1, Xt.refl s2, h2.mono s1⟩
theorem wk_tup {K : PySem.W.Frag} {F : Hp} {a : Addr} {xs : List V} {ds : List D} (h : SqT K F a xs) (r : RpL K F xs ds) : Wk K F (Itt K a) ds where
  go := fun i F1 H1 hi s1 s2 => ⟨xs, xs[i]'(by rw [r.length]; exact hi), sameT s2 (sameT s1 h), by simp [r.length, hi]⟩
  stop := fun F1 H1 s1 s2 => ⟨xs, sameT s2 (sameT s1 h), by rw [r.length]; exact Nat.le_refl _⟩
  yld := fun i d F1 H1 x H2 hd s1 s2 y => by
    obtain ⟨rfl, y⟩ := y
    have q := y xs (sameT s2 (sameT s1 h))
    obtain ⟨v, h1, h2⟩ := r.get hd
    rw [h1] at q
    cases q
    exact ⟨F1, Xt.refl s2, h2.mono s1⟩
theorem wk_enum {K : PySem.W.Frag} {F : Hp} {a : Addr} {xs : List V} {ds : List D} (h : F a = some (.lst xs)) (r : RpL K F xs ds) : Wk K F (Ite K a) (enumL 0 ds) where
  go := fun i F1 H1 hi s1 s2 => by
    rw [enumL_len] at hi
    exact ⟨xs, xs[i]'(by rw [r.length]; exact hi), SqL.of (s2 _ _ (s1 _ _ h)), by simp [r.length, hi]⟩
  stop := fun F1 H1 s1 s2 => ⟨xs, SqL.of (s2 _ _ (s1 _ _ h)), by rw [enumL_len, r.length]; exact Nat.le_refl _⟩
  yld := fun i d F1 H1 x H2 hd s1 s2 y => by
    obtain ⟨T, z, rfl, nT, rfl, y⟩ := y
    have q := y xs (SqL.of (s2 _ _ (s1 _ _ h)))
    obtain ⟨dd, h0, rfl⟩ := enumL_get 0 ds i d hd
    obtain ⟨v, h1, h2⟩ := r.get h0
    rw [h1] at q
    cases q
    have xt : Xt none F1 H1 (upd F1 T (.tup [.int (i : Nat), z])) (upd H1 T (.tup [.int (i : Nat), z])) := Xt.alloc s2 nT
    exact ⟨_, xt, .tup (SqT.of upd_same) (.cons (by rw [Nat.zero_add]; exact .int _) (.cons ((h2.mono s1).mono xt.ff) .nil))⟩
theorem wk_zip {K : PySem.W.Frag} {F : Hp} {a b : Addr} {xs ys : List V} {ds es : List D} (h : F a = some (.lst xs)) (r : RpL K F xs ds) (h' : F b = some (.lst ys)) (r' : RpL K F ys es) : Wk K F (Itz K a b) (zipL ds es) where
  go := fun i F1 H1 hi s1 s2 => by
    rw [zipL_len] at hi
    exact ⟨xs, ys, xs[i]'(by rw [r.length]; omega), ys[i]'(by rw [r'.length]; omega), SqL.of (s2 _ _ (s1 _ _ h)), SqL.of (s2 _ _ (s1 _ _ h')), by simp, by simp⟩
  stop := fun F1 H1 s1 s2 => ⟨xs, ys, SqL.of (s2 _ _ (s1 _ _ h)), SqL.of (s2 _ _ (s1 _ _ h')), by rw [zipL_len, r.length, r'.length]; omega⟩
  yld := fun i d F1 H1 x H2 hd s1 s2 y => by
    obtain ⟨T, z, z', rfl, nT, rfl, y, y'⟩ := y
    have q := y xs (SqL.of (s2 _ _ (s1 _ _ h)))
    have q' := y' ys (SqL.of (s2 _ _ (s1 _ _ h')))
    obtain ⟨d1, d2, h0, h0', rfl⟩ := zipL_get ds es i d hd
    obtain ⟨v, h1, h2⟩ := r.get h0
    obtain ⟨v', h1', h2'⟩ := r'.get h0'
    rw [h1] at q
    cases q
    rw [h1'] at q'
    cases q'
    have xt : Xt none F1 H1 (upd F1 T (.tup [z, z'])) (upd H1 T (.tup [z, z'])) := Xt.alloc s2 nT
    exact ⟨_, xt, .tup (SqT.of upd_same) (.cons ((h2.mono s1).mono xt.ff) (.cons ((h2'.mono s1).mono xt.ff) .nil))⟩
theorem wk_rev {K : PySem.W.Frag} {F : Hp} {a : Addr} {xs : List V} {ds : List D} (h : F a = some (.lst xs)) (r : RpL K F xs ds) : Wk K F (Itv K a xs.length) ds.reverse where
  go := fun i F1 H1 hi s1 s2 => by
    rw [List.length_reverse] at hi
    have hl := r.length
    exact ⟨by omega, xs, xs[xs.length - 1 - i]'(by omega), SqL.of (s2 _ _ (s1 _ _ h)), by simp⟩
  stop := fun F1 H1 s1 s2 => by rw [List.length_reverse, ← r.length]; exact Nat.le_refl _
  yld := fun i d F1 H1 x H2 hd s1 s2 y => by
    obtain ⟨rfl, y⟩ := y
    have q := y xs (SqL.of (s2 _ _ (s1 _ _ h)))
    have hi : i < ds.reverse.length := (List.getElem?_eq_some_iff.mp hd).1
    rw [List.length_reverse] at hi
    rw [List.getElem?_reverse hi] at hd
    obtain ⟨v, h1, h2⟩ := r.get hd
    rw [r.length, h1] at q
    cases q
    exact ⟨F1, Xt.refl s2, h2.mono s1⟩
theorem i_seqL {F H F' H' : Hp} {σ : L2.St} {R : It → Hp → Prop} {w : Wd} {ds : List D} {x : V} (hk : X.K = c.K) (q : Post c W F H σ (fun ds F' H' _ => ∀ J, Wk c.K F' J ds → R J H') (.ok ds w)) (xt : Xt c.b F H F' H') (bo : BorOk c F' w H') (r : Rp c.K F' x (.list ds)) :
    ∃ a, x = V.ref a ∧ (∃ xs, SqL X.K H' a xs) ∧ R (Itl X.K a) H' := by
  obtain ⟨a, xs, rfl, h1, h2⟩ := r.vlst
  refine ⟨a, rfl, ⟨xs, SqL.of (xt.fh _ _ h1)⟩, q F' H' xt bo _ ?_⟩
  rw [hk]
  exact wk_list h1 h2
theorem i_seqT {F H F' H' : Hp} {σ : L2.St} {R : It → Hp → Prop} {w : Wd} {ds : List D} {x : V} (hk : X.K = c.K) (q : Post c W F H σ (fun ds F' H' _ => ∀ J, Wk c.K F' J ds → R J H') (.ok ds w)) (xt : Xt c.b F H F' H') (bo : BorOk c F' w H') (r : Rp c.K F' x (.tuple ds)) :
    ∃ a, x = V.ref a ∧ (∃ xs, SqT X.K H' a xs) ∧ R (Itt X.K a) H' := by
  obtain ⟨a, xs, rfl, h1, h2⟩ := r.vtup
  refine ⟨a, rfl, ⟨xs, by rw [hk]; exact sameT xt.fh h1⟩, q F' H' xt bo _ ?_⟩
  rw [hk]
  exact wk_tup h1 h2
theorem i_seq {d : Ev → MM D} (hk : X.K = c.K) (h : E c W m X iter d) : PI X tg iter (TID c W m (iSeq d)) :=
  PIor (pi_list h) (pi_tup h) fun σ H R ⟨F, ρ, ω, S, q⟩ => by
    cases hd : d ρ ω with
    | bad => simp [iSeq, hd, Post] at q
    | exc x y =>
      simp only [iSeq, hd, bind_exc] at q
      exact .inl ⟨F, ρ, ω, S, by rw [hd]; exact q⟩
    | ok v w =>
      simp only [iSeq, hd, bind_ok] at q
      cases v with
      | list ds =>
        refine .inl ⟨F, ρ, ω, S, by rw [hd]; refine fun F' H' xt bo x r => ?_; exact i_seqL hk q xt bo r⟩
      | tuple ds =>
        refine .inr ⟨F, ρ, ω, S, by rw [hd]; refine fun F' H' xt bo x r => ?_; exact i_seqT hk q xt bo r⟩
      | _ => exact q.elim
theorem iargs_step {f : List D → Option (List D)} {ds : Ev → MM (List D)} {σ : L2.St} {H : Hp} {R : It → Hp → Prop} {r : List V → Hp → Prop} {F : Hp} {ρ : Ev} {ω : Wd} (S : SR c m F ρ ω σ H) (q : Post c W F H σ (fun ds F' H' _ => ∀ J, Wk c.K F' J ds → R J H') (iArgs f ds ρ ω))
    (cont : ∀ F1 H1 xs as l, Same F1 H1 → RpL c.K F1 xs as → f as = some l → (∀ J, Wk c.K F1 J l → R J H1) → r xs H1) : TDa c W m ds σ H r := ⟨F, ρ, ω, S, bindT S Post.pg q fun as F1 H1 w1 x1 S1 q1 xs r1 => by
    obtain ⟨l, e1, q3⟩ := post_ofO S1.fh S1.bo q1
    exact cont F1 H1 xs as l S1.fh r1 e1 fun J hJ => q3 F1 H1 (Xt.refl S1.fh) J hJ⟩
theorem i_range1 {a : Expr} {ds : Ev → MM (List D)} (hg : Gl X "range") (hm : X.mg "range" = none) (ha : A c W m X [a] ds) (hs : starEach [a] X.env = [(false, eval a X.env)] := by rfl) : PI X tg (.Call (.Name "range" p) [a] [] pos) (TID c W m (iArgs iRange ds)) :=
  PIimp (pi_range1 hg hm ha.pa hs) fun σ H R ⟨F, ρ, ω, S, q⟩ => by
    have al := ha.len ρ ω
    refine ⟨F, ρ, ω, S, ?_⟩
    unfold iArgs at q
    cases hd : ds ρ ω with
    | bad => rw [hd] at q; exact q.elim
    | exc x y => rw [hd] at q; exact q
    | ok as w =>
      rw [hd] at q
      have hl := al as w hd
      match as, hl, q with
      | [.int j], _, q =>
        intro F' H' xt bo xs r
        obtain ⟨v, rfl, r1⟩ := r.one
        cases r1
        simp only [bind_ok, iRange] at q
        split at q
        · rename_i ok
          exact ⟨j, rfl, ok.1, ok.2, q F' H' xt bo _ (wk_range 0 _)⟩
        · exact q.elim
      | [.none], _, q => exact q.elim
      | [.bool _], _, q => exact q.elim
      | [.str _], _, q => exact q.elim
      | [.list _], _, q => exact q.elim
      | [.tuple _], _, q => exact q.elim
      | [.dict _], _, q => exact q.elim
theorem i_range2 {a b : Expr} {ds : Ev → MM (List D)} (hg : Gl X "range") (hm : X.mg "range" = none) (ha : A c W m X [a, b] ds) (hs : starEach [a, b] X.env = [(false, eval a X.env), (false, eval b X.env)] := by rfl) (hs2 : starEach [b] X.env = [(false, eval b X.env)] := by rfl) : PI X tg (.Call (.Name "range" p) [a, b] [] pos) (TID c W m (iArgs iRange ds)) :=
  PIimp (pi_range2 hg hm ha.pa hs hs2) fun σ H R ⟨F, ρ, ω, S, q⟩ => by
    have al := ha.len ρ ω
    refine ⟨F, ρ, ω, S, ?_⟩
    unfold iArgs at q
    cases hd : ds ρ ω with
    | bad => rw [hd] at q; exact q.elim
    | exc x y => rw [hd] at q; exact q
    | ok as w =>
      rw [hd, bind_ok] at q
      have hl := al as w hd
      intro F' H' xt bo xs r
      match as, hl with
      | [d1, d2], _ =>
        obtain ⟨v, u, rfl, r1, r2⟩ := r.two
        cases r1 with
        | int i =>
          cases r2 with
          | int j =>
            simp only [iRange] at q
            split at q
            · rename_i ok
              exact ⟨i, j, rfl, ⟨ok.1.1, ok.1.2, ok.2.1, ok.2.2⟩, q F' H' xt bo _ (wk_range i _)⟩
            · exact q.elim
          | _ => exact q.elim
        | _ => exact q.elim
theorem i_range3 {a b cc : Expr} {ds : Ev → MM (List D)} (hg : Gl X "range") (hm : X.mg "range" = none) (ha : A c W m X [a, b, cc] ds) (hs : starEach [a, b, cc] X.env = (false, eval a X.env) :: starEach [b, cc] X.env := by rfl) (hpl : (backTo pos (starEach [b, cc] X.env)).any (·.1) = false := by rfl) : PI X tg (.Call (.Name "range" p) [a, b, cc] [] pos) (TID c W m (iArgs iRange ds)) :=
  PIimp (pi_range3 hg hm ha.pa hs hpl) fun σ H R ⟨F, ρ, ω, S, q⟩ => by
    have al := ha.len ρ ω
    refine ⟨F, ρ, ω, S, ?_⟩
    unfold iArgs at q
    cases hd : ds ρ ω with
    | bad => rw [hd] at q; exact q.elim
    | exc x y => rw [hd] at q; exact q
    | ok as w =>
      rw [hd, bind_ok] at q
      have hl := al as w hd
      intro F' H' xt bo xs r
      match as, hl with
      | [d1, d2, d3], _ =>
        obtain ⟨v, u, t, rfl, r1, r2, r3⟩ := r.three
        cases r1 with
        | int i =>
          cases r2 with
          | int j =>
            cases r3 with
            | int k =>
              simp only [iRange] at q
              split at q
              · rename_i ok
                exact ⟨i, j, k, _, rfl, ⟨ok.1, ok.2.1, ok.2.2.1, by omega⟩, q F' H' xt bo _ (wk_rangeC i k _)⟩
              · exact q.elim
            | _ => exact q.elim
          | _ => exact q.elim
        | _ => exact q.elim
theorem i_enum {elts : List Expr} {kk : Nat} {tpos : Pos} {ds : Ev → MM (List D)} (hk : X.K = c.K) (hg : Gl X "enumerate") (hm : X.mg "enumerate" = none) (ha : A c W m X [e] ds) (hs : starEach [e] X.env = [(false, eval e X.env)] := by rfl) : PI X (.Tuple elts kk tpos) (.Call (.Name "enumerate" p) [e] [] pos) (TID c W m (iArgs iEnumF ds)) :=
  PIimp (pi_enum hg hm ha.pa hs) fun σ H R ⟨F, ρ, ω, S, q⟩ => iargs_step S q fun F1 H1 xs as l s r e1 q1 => by
    match as, e1, r with
    | [.list ds], e1, r =>
      obtain ⟨v, rfl, r1⟩ := r.one
      obtain ⟨a, ys, rfl, h1, h2⟩ := r1.vlst
      simp only [iEnumF, Option.some.injEq] at e1
      subst e1
      refine ⟨a, ys, rfl, SqL.of (s _ _ h1), q1 _ ?_⟩
      rw [hk]
      exact wk_enum h1 h2
theorem i_zip {e2 : Expr} {elts : List Expr} {kk : Nat} {tpos : Pos} {ds : Ev → MM (List D)} (hk : X.K = c.K) (hg : Gl X "zip") (hm : X.mg "zip" = none) (ha : A c W m X [e, e2] ds) (hs : starEach [e, e2] X.env = (false, eval e X.env) :: starEach [e2] X.env := by rfl) (hpl : (backTo pos (starEach [e2] X.env)).any (·.1) = false := by rfl) :
    PI X (.Tuple elts kk tpos) (.Call (.Name "zip" p) [e, e2] [] pos) (TID c W m (iArgs iZipF ds)) :=
  PIimp (pi_zip hg hm ha.pa hs hpl) fun σ H R ⟨F, ρ, ω, S, q⟩ => iargs_step S q fun F1 H1 xs as l s r e1 q1 => by
    match as, e1, r with
    | [.list ds, .list es], e1, r =>
      obtain ⟨v, u, rfl, r1, r2⟩ := r.two
      obtain ⟨a, ys, rfl, h1, h2⟩ := r1.vlst
      obtain ⟨b, zs, rfl, h3, h4⟩ := r2.vlst
      simp only [iZipF, Option.some.injEq] at e1
      subst e1
      refine ⟨a, b, ys, zs, rfl, SqL.of (s _ _ h1), SqL.of (s _ _ h3), q1 _ ?_⟩
      rw [hk]
      exact wk_zip h1 h2 h3 h4
theorem i_rev {ds : Ev → MM (List D)} (hk : X.K = c.K) (hg : Gl X "reversed") (hm : X.mg "reversed" = none) (ha : A c W m X [e] ds) (hs : starEach [e] X.env = [(false, eval e X.env)] := by rfl) : PI X tg (.Call (.Name "reversed" p) [e] [] pos) (TID c W m (iArgs iRevF ds)) :=
  PIimp (pi_reversed hg hm ha.pa hs) fun σ H R ⟨F, ρ, ω, S, q⟩ => iargs_step S q fun F1 H1 xs as l s r e1 q1 => by
    match as, e1, r with
    | [.list ds], e1, r =>
      obtain ⟨v, rfl, r1⟩ := r.one
      obtain ⟨a, ys, rfl, h1, h2⟩ := r1.vlst
      simp only [iRevF, Option.some.injEq] at e1
      subst e1
      refine ⟨a, ys, rfl, SqL.of (s _ _ h1), q1 _ ?_⟩
      rw [hk]
      exact wk_rev h1 h2

/-! ### for, while -/
theorem s_for {is : List Nat} {di : Ev → MM (List D)} {g : D → Ev → Option Ev} {db : Ev → MM Fl} {body : List Stmt} (hp : PassesOwn (model X.prog X.w) X.A X.env X.xe) (hc : X.calm = true) (hi : PI X tg iter (TID c W m di)) (hg : PG X tg (TGD c m m1 is g)) (hb : PSs X body (TSD c W m1 m m m db))
    (hs : ∀ x, foldedSetIterable iter X.env x = pure x := by intro _; rfl) : PS X (.For tg iter body [] pos) (TSD c W m m mb mc (sFor di g db)) := PSimp (ps_for hp hc hi hg hb hs) fun D' σ H ⟨F, ρ, ω, S, q⟩ => by
  have q' : GS c W m mb mc D' F H (sFor di g db ρ ω) := ⟨S.fr.xt, q⟩
  unfold sFor at q'
  refine ⟨F, ρ, ω, S, bindT S GS.pg q' fun ds F1 H1 w1 x1 S1 q1 J hJ => ?_⟩
  refine ⟨fun i n σ' H' => n = ds.length - i ∧ i ≤ ds.length ∧ ∃ F' ρ' ω', Same F1 F' ∧ SR c m F' ρ' ω' σ' H' ∧ PostS c W m mb mc F' D' (sFor.go g db (ds.drop i) ρ' ω'), ⟨_, rfl, Nat.zero_le _, F1, ρ, w1, Same.refl _, S1, q1.2⟩, ?_⟩
  rintro i n σ' H' ⟨rfl, hi, F', ρ', ω', s', S', q2⟩
  by_cases hlt : i < ds.length
  · refine .inr ⟨hJ.go i F' H' hlt s' S'.fh, fun σ2 H2 => ∃ F2 ρ2 ω2, Same F1 F2 ∧ SR c m F2 ρ2 ω2 σ2 H2 ∧ PostS c W m mb mc F2 D' (sFor.go g db (ds.drop (i + 1)) ρ2 ω2), fun σ2 H2 hN => ⟨ds.length - (i + 1), by omega, rfl, hlt, hN⟩, fun x H2 y => ?_⟩
    obtain ⟨F2, x2, r2⟩ := hJ.yld i ds[i] F' H' x H2 (by simp [hlt]) s' S'.fh y
    have S2 := S'.step x2.any (S'.bo.ext x2)
    have q3 := q2.mono x2.ff
    rw [List.drop_eq_getElem_cons hlt, sFor.go] at q3
    cases eg : g ds[i] ρ' with
    | none => rw [eg] at q3; exact q3.elim
    | some ρ1 =>
      rw [eg, ofO_some, bind_ok] at q3
      refine ⟨F2, ρ', ω', ds[i], ρ1, S2, r2, eg, fun σ3 S3 _ => ⟨F2, ρ1, ω', S3, ?_⟩⟩
      cases eb : db ρ1 ω' with
      | bad => rw [eb] at q3; exact q3.elim
      | exc ex y => rw [eb] at q3; exact q3
      | ok f w =>
        rw [eb, bind_ok] at q3
        cases f with
        | next ρ4 => exact fun F4 σ4 H4 s4 S4 => ⟨F4, ρ4, w, (s'.trans x2.ff).trans s4, S4, q3.mono s4⟩
        | cont ρ4 => exact fun F4 σ4 H4 s4 S4 => ⟨F4, ρ4, w, (s'.trans x2.ff).trans s4, S4, q3.mono s4⟩
        | brk ρ4 => exact q3
        | ret v => exact q3
  · have e : i = ds.length := by omega
    subst e
    rw [List.drop_length, sFor.go] at q2
    exact .inl ⟨hJ.stop F' H' s' S'.fh, q2 F' σ' H' (Same.refl _) S'⟩
theorem s_while {t : Expr} {dt : Ev → MM Bool} {db : Ev → MM Fl} {body : List Stmt} (hp : PassesOwn (model X.prog X.w) X.A X.env X.xe) (ht : B c W m X t dt) (hb : PSs X body (TSD c W m m m m db)) : PS X (.While t body [] pos) (TSD c W m m mb mc (sWhile dt db)) := PSimp (ps_while hp ht hb) fun D' σ H ⟨F, ρ, ω, S, q⟩ => by
  have hne : sWhile dt db ρ ω ≠ .bad := fun z => by rw [z] at q; exact q
  obtain ⟨n, hn⟩ := sWhile_some hne
  rw [← hn] at q
  refine ⟨fun n σ' H' => ∃ F' ρ' ω', SR c m F' ρ' ω' σ' H' ∧ PostS c W m mb mc F' D' (whileN dt db n ρ' ω'), ⟨n, F, ρ, ω, S, q⟩, ?_⟩
  rintro n σ' H' ⟨F', ρ', ω', S', q2⟩
  cases n with
  | zero => exact q2.elim
  | succ n =>
    have q' : GS c W m mb mc D' F' H' (whileN dt db (n + 1) ρ' ω') := ⟨S'.fr.xt, q2⟩
    unfold whileN at q'
    refine ⟨F', ρ', ω', S', bindT S' GS.pg q' fun b F1 H1 w1 x1 S1 q1 => ?_⟩
    cases b with
    | false => exact iteF (q1.2 F1 σ' H1 (Same.refl _) S1)
    | true =>
      refine iteT ⟨fun σ2 H2 => ∃ F2 ρ2 ω2, SR c m F2 ρ2 ω2 σ2 H2 ∧ PostS c W m mb mc F2 D' (whileN dt db n ρ2 ω2), fun σ2 H2 hN => ⟨n, by omega, hN⟩, F1, ρ', w1, S1, ?_⟩
      have q3 := q1.2
      cases eb : db ρ' w1 with
      | bad => simp only [eb, bind_bad] at q3; exact q3.elim
      | exc ex y => simp only [eb, bind_exc] at q3; exact q3
      | ok f w =>
        simp only [eb, bind_ok] at q3
        cases f with
        | next ρ4 => exact fun F4 σ4 H4 s4 S4 => ⟨F4, ρ4, w, S4, q3.mono s4⟩
        | cont ρ4 => exact fun F4 σ4 H4 s4 S4 => ⟨F4, ρ4, w, S4, q3.mono s4⟩
        | brk ρ4 => exact q3
        | ret v => exact q3

/-! ### lists that are one's own -/
def TDf (c : CM) (W : WX) (m : Md) (d : Ev → MM (List D)) : TE := fun σ H Q => ∃ F ρ ω, SR c m F ρ ω σ H ∧ Post c W F H σ (fun ds F' H' _ => ∀ l us, H l = none → F' l = none → H' l = some (.lst us) → RpL c.K F' us ds → Q (.ref l) H') (d ρ ω)
abbrev EF (c : CM) (W : WX) (m : Md) (X : Cx) (e : Expr) (d : Ev → MM (List D)) : Prop := PE X e (TDf c W m d)
def eOfF (d : Ev → MM (List D)) : Ev → MM D := fun ρ ω => (d ρ ω).bind fun ds w => .ok (.list ds) w
theorem freeze_new {F H F' H' : Hp} {l : Addr} {us : List V} (xt : Xt c.b F H F' H') (h0 : H l = none) (h1 : F' l = none) (h2 : H' l = some (.lst us)) : Xt c.b F H (upd F' l (.lst us)) H' := by
  refine ⟨xt.ff.trans (same_upd h1), fun a o e => ?_, xt.keep, xt.dom, fun a h => ?_⟩
  · by_cases ha : a = l
    · subst ha; rw [upd_same] at e; cases e; exact h2
    · rw [upd_ne ha] at e; exact xt.fh _ _ e
  · have ha : a ≠ l := fun z => h (z ▸ h0)
    rw [upd_ne ha]; exact xt.new a h
theorem bo_freeze {F' H' : Hp} {ω : Wd} {l : Addr} {us : List V} (bo : BorOk c F' ω H') (h1 : F' l = none) (hb : c.b ≠ some l) : BorOk c (upd F' l (.lst us)) ω H' := fun b e => by
  obtain ⟨b0, b1, bu, b2, b3⟩ := bo b e
  have hbl : b ≠ l := fun z => hb (z ▸ e)
  exact ⟨b0, by rw [upd_ne hbl]; exact b1, bu, b2, b3.mono (same_upd h1)⟩
theorem new_ne_b {F : Hp} {ρ : Ev} {ω : Wd} {σ : L2.St} {H : Hp} {l : Addr} (S : SR c m F ρ ω σ H) (h : H l = none) : c.b ≠ some l := fun z => by
  obtain ⟨_, _, _, b2, _⟩ := S.bo l z
  rw [b2] at h
  cases h
theorem new_h0 {F : Hp} {ρ : Ev} {ω : Wd} {σ : L2.St} {H : Hp} {l : Addr} (S : SR c m F ρ ω σ H) (h : H l = none) : c.H0 l = none := by
  cases e : c.H0 l with
  | none => rfl
  | some o => exact absurd h (S.fr.xt.dom l (by rw [e]; simp))
theorem f_imp {d : Ev → MM (List D)} : ∀ σ H Q, TD c W m (eOfF d) σ H Q → TDf c W m d σ H Q := fun σ H Q ⟨F, ρ, ω, S, q⟩ => by
  refine ⟨F, ρ, ω, S, ?_⟩
  unfold eOfF at q
  cases hd : d ρ ω with
  | bad => rw [hd] at q; exact q
  | exc x y => rw [hd] at q; exact q
  | ok ds w =>
    rw [hd] at q
    exact fun F' H' xt bo l us h0 h1 h2 r => q _ H' (freeze_new xt h0 h1 h2) (bo_freeze bo h1 (new_ne_b S h0)) _ (.lst upd_same (r.mono (same_upd h1)))
theorem e_ofF {d : Ev → MM (List D)} (h : EF c W m X e d) : E c W m X e (eOfF d) := PEimp h f_imp
def sOwn (i : Nat) (d : Ev → MM (List D)) : Ev → MM Fl := fun ρ ω => (d ρ ω).bind fun ds w => .ok (.next (put ρ i (.list ds))) w
theorem own_imp {i : Nat} {d : Ev → MM (List D)} (hb : m.B ≠ some i) : ∀ D' σ H, TSD c W m (m.add i) mb mc (sOwn i d) D' σ H → tAsg (TDf c W m d) (gName i) D' σ H := fun D' σ H ⟨F, ρ, ω, S, q⟩ => by
  refine ⟨F, ρ, ω, S, ?_⟩
  unfold sOwn at q
  cases hd : d ρ ω with
  | bad => rw [hd] at q; exact q
  | exc x y =>
    rw [hd] at q
    exact fun F' H' cls dd xt bo r => q F' σ H' cls dd xt.ff ⟨S.fr.xt.trans xt, bo⟩ r
  | ok ds w =>
    rw [hd] at q
    intro F' H' xt bo l us h0 h1 h2 r
    refine q F' _ H' xt.ff ((S.step xt bo).putOwn (new_h0 S h0) h1 h2 r hb fun j dj hj hO e z => ?_)
    obtain ⟨l', us', ds', k1, k2, k3, k4, k5, k6⟩ := S.own j dj e hO
    rw [z] at k1
    cases k1
    rw [h0] at k5
    cases k5
theorem s_own {i : Nat} {t1 v1 : Expr} {d : Ev → MM (List D)} (hv : EF c W m X v1 d) (h : PE X v1 (TDf c W m d) → PS X (.Assign [t1] v1 pos) (tAsg (TDf c W m d) (gName i))) (hb : m.B ≠ some i := by decide) : PS X (.Assign [t1] v1 pos) (TSD c W m (m.add i) mb mc (sOwn i d)) := PSimp (h hv) (own_imp hb)
theorem s_ownLc {i : Nat} {te : TE} {d : Ev → MM (List D)} (h : PS X st (tAsg te (gName i))) (hi : ∀ σ H Q, TDf c W m d σ H Q → te σ H Q) (hb : m.B ≠ some i := by decide) : PS X st (TSD c W m (m.add i) mb mc (sOwn i d)) := PSimp h fun D' σ H q => hi _ _ _ (own_imp hb D' σ H q)
theorem f_lst {ds : Ev → MM (List D)} (h : A c W m X es ds) (hl : es.length ≤ 1000 := by decide) : EF c W m X (.List es pos) ds :=
  PEimp (pe_lst h.pa) fun σ H Q ⟨F, ρ, ω, S, q⟩ => by
    refine ⟨F, ρ, ω, S, ?_⟩
    have al := h.len ρ ω
    cases e : ds ρ ω with
    | bad => rw [e] at q; exact q
    | exc x y => rw [e] at q; exact q
    | ok r w =>
      rw [e] at q
      intro F' H' xt bo xs rp
      refine ⟨by rw [rp.length, al r w e]; exact Nat.le_of_lt (small1000 hl), fun p np => ?_⟩
      have x2 : Xt none F' H' F' (upd H' p (.lst xs)) := Xt.alloc0 xt.fh np
      have hp : H p = none := by
        cases z : H p with
        | none => rfl
        | some o => exact absurd np (xt.dom p (by rw [z]; simp))
      exact q _ _ (xt.trans x2.any) (bo.ext x2) p xs hp (Same.none xt.fh np) upd_same rp
theorem new_none {F H F' H' : Hp} {p : Addr} {b : Option Addr} (xt : Xt b F H F' H') (np : H' p = none) : H p = none := by
  cases z : H p with
  | none => rfl
  | some o => exact absurd np (xt.dom p (by rw [z]; simp))
/-- xs * k as a list of one's own -/
def fRep (d1 d2 : Ev → MM D) : Ev → MM (List D) := fun ρ ω => (d1 ρ ω).bind fun a w => (d2 ρ w).bind fun b w => match a, b with
  | .list xs, .int k => if -(2 ^ 63) ≤ k ∧ k < 2 ^ 63 ∧ xs.length * k.toNat ≤ sizeLine then .ok (List.replicate k.toNat xs).flatten w else .bad
  | _, _ => .bad
theorem f_rep {a b : Expr} {d1 d2 : Ev → MM D} (h1 : E c W m X a d1) (h2 : E c W m X b d2) : EF c W m X (.BinOp a .Mult b pos) (fRep d1 d2) :=
  PEimp (pe_op op_rep h1 h2) fun σ H Q ⟨F, ρ, ω, S, q⟩ => bin_step S Post.pg q fun F2 H2 x y a b w x2 S2 r1 r2 q2 => by
    cases r1 with
    | lst g1 g2 =>
      cases r2 with
      | int k =>
        by_cases hz : -(2 ^ 63) ≤ k ∧ k < 2 ^ 63 ∧ (List.length ‹List D›) * k.toNat ≤ sizeLine
        · simp only [if_pos hz] at q2
          refine ⟨_, k, _, rfl, rfl, S2.fh _ _ g1, hz.1, hz.2.1, by rw [g2.length]; exact hz.2.2, fun p np => ?_⟩
          exact q2 F2 _ (Xt.alloc0 S2.fh np) (S2.bo.ext (Xt.alloc0 S2.fh np)) p _ (new_none x2 np) (Same.none S2.fh np) upd_same (g2.rep _)
        · simp only [if_neg hz] at q2
          exact q2.elim
      | _ => exact q2.elim
    | _ => exact q2.elim
/-- list(xs) as a list of one's own -/
def fListF (d : Ev → MM (List D)) : Ev → MM (List D) := fun ρ ω => (d ρ ω).bind fun r w => match r with
  | [.list xs] => .ok xs w
  | [.tuple xs] => .ok xs w
  | _ => .bad
theorem f_list {x : PySem.Str} {p : Pos} {ds : Ev → MM (List D)} (hk : X.K = c.K) (hg : Gl X "list") (hm : X.mg "list" = none) (ha : A c W m X [e] ds)
    (he : starEach [e] X.env = (false, eval e X.env) :: starEach [] X.env := by rfl) (hpl : (backTo pos (starEach [] X.env)).any (·.1) = false := by rfl) : EF c W m X (.Call (.Name "list" p) [e] [] pos) (fListF ds) :=
  PEimp (pe_callTy call_list_of hg hm boot_list ha.pa (by decide) (by decide) he hpl) fun σ H Q ⟨F, ρ, ω, S, q⟩ => ⟨F, ρ, ω, S, bindT S Post.pg q fun as F1 H1 w1 x1 S1 q1 xs r => by
    match as, q1, r with
    | [.list ds], q1, r =>
      obtain ⟨v, rfl, r1⟩ := r.one
      obtain ⟨a, ys, rfl, h1, h2⟩ := r1.vlst
      exact ⟨a, ys, rfl, .inl (SqL.of (S1.fh _ _ h1)), fun p np => q1 F1 _ (Xt.alloc0 S1.fh np) (S1.bo.ext (Xt.alloc0 S1.fh np)) p _ (new_none x1 np) (Same.none S1.fh np) upd_same h2⟩
    | [.tuple ds], q1, r =>
      obtain ⟨v, rfl, r1⟩ := r.one
      obtain ⟨a, ys, rfl, h1, h2⟩ := r1.vtup
      exact ⟨a, ys, rfl, .inr (by rw [hk]; exact sameT S1.fh h1), fun p np => q1 F1 _ (Xt.alloc0 S1.fh np) (S1.bo.ext (Xt.alloc0 S1.fh np)) p _ (new_none x1 np) (Same.none S1.fh np) upd_same h2⟩
    | [], q1, r => exact q1.elim
    | [.none], q1, r => exact q1.elim
    | [.bool _], q1, r => exact q1.elim
    | [.int _], q1, r => exact q1.elim
    | [.str _], q1, r => exact q1.elim
    | [.dict _], q1, r => exact q1.elim
    | a :: _ :: _, q1, r => cases a <;> exact q1.elim⟩
def sApp (i : Nat) (d : Ev → MM D) : Ev → MM Fl := fun ρ ω => match look ρ i with
  | some (.list ds) => (d ρ ω).bind fun v w => if ds.length < sizeLine then .ok (.next (put ρ i (.list (ds ++ [v])))) w else .bad
  | _ => .bad
theorem s_app {i : Nat} {o a1 : Expr} {nm : Str} {p2 p3 p4 : Pos} {d : Ev → MM D} (hO : i ∈ m.O) (he : E c W m X a1 d) (h : PE X a1 (TD c W m d) → PS X (.Expr (.Call (.Attribute o nm p2) [a1] [] p3) p4) (tDrop (tBM X.K "list" rAppend (tVar i) (tCons (TD c W m d) tNil)))) : PS X (.Expr (.Call (.Attribute o nm p2) [a1] [] p3) p4) (TSD c W m m mb mc (sApp i d)) := PSimp (h he) fun D' σ H ⟨F, ρ, ω, S, q⟩ => by
  unfold sApp at q
  cases hl : look ρ i with
  | none => rw [hl] at q; exact q.elim
  | some a =>
    rw [hl] at q
    obtain ⟨l, us, ds, k1, k2, k3, k4, k5, k6⟩ := S.own i a (look_iff hl) hO
    subst k2
    refine ⟨_, k1, .inl ⟨rfl, _, SqL.of k5⟩, F, ρ, ω, S, bindT S (GS.pg (D' := D')) (k := fun v w => if ds.length < sizeLine then .ok (.next (put ρ i (.list (ds ++ [v])))) w else .bad) (⟨S.fr.xt, q⟩ : GS c W m mb mc D' F H _) fun v F1 H1 w1 x1 S1 q1 y r1 => ?_⟩
    have h5 : H1 l = some (.lst us) := x1.keep l _ k5 fun z => (S.bo l z).1 k3
    refine ⟨l, us, y, rfl, rfl, h5, ?_, ?_⟩
    · by_cases hz : ds.length < sizeLine
      · rw [k6.length]; exact hz
      · rw [if_neg hz] at q1; exact q1.2.elim
    · by_cases hz : ds.length < sizeLine
      · rw [if_pos hz] at q1
        exact q1.2 F1 σ _ (Same.refl _) (S1.write hO (look_iff hl) k1 h5 ((k6.mono x1.ff).append (.cons r1 .nil)))
      · rw [if_neg hz] at q1; exact q1.2.elim
def sExt (i : Nat) (d : Ev → MM D) : Ev → MM Fl := fun ρ ω => match look ρ i with
  | some (.list ds) => (d ρ ω).bind fun v w => match v with
    | .list es => if ds.length + es.length ≤ sizeLine then .ok (.next (put ρ i (.list (ds ++ es)))) w else .bad
    | _ => .bad
  | _ => .bad
theorem s_ext {i : Nat} {o a1 : Expr} {nm : Str} {p2 p3 p4 : Pos} {d : Ev → MM D} (hO : i ∈ m.O) (he : E c W m X a1 d) (h : PE X a1 (TD c W m d) → PS X (.Expr (.Call (.Attribute o nm p2) [a1] [] p3) p4) (tDrop (tBM X.K "list" rExtend (tVar i) (tCons (TD c W m d) tNil)))) : PS X (.Expr (.Call (.Attribute o nm p2) [a1] [] p3) p4) (TSD c W m m mb mc (sExt i d)) := PSimp (h he) fun D' σ H ⟨F, ρ, ω, S, q⟩ => by
  unfold sExt at q
  cases hl : look ρ i with
  | none => rw [hl] at q; exact q.elim
  | some a =>
    rw [hl] at q
    obtain ⟨l, us, ds, k1, k2, k3, k4, k5, k6⟩ := S.own i a (look_iff hl) hO
    subst k2
    have q' : GS c W m mb mc D' F H _ := ⟨S.fr.xt, q⟩
    refine ⟨_, k1, .inl ⟨rfl, _, SqL.of k5⟩, F, ρ, ω, S, bindT S GS.pg q' fun v F1 H1 w1 x1 S1 q1 y r1 => ?_⟩
    have h5 : H1 l = some (.lst us) := x1.keep l _ k5 fun z => (S.bo l z).1 k3
    cases r1 with
    | lst g1 g2 =>
      by_cases hz : ds.length + (List.length ‹List D›) ≤ sizeLine
      · simp only [if_pos hz] at q1
        exact ⟨l, _, us, _, rfl, rfl, h5, S1.fh _ _ g1, by rw [k6.length, g2.length]; exact hz, q1.2 F1 σ _ (Same.refl _) (S1.write hO (look_iff hl) k1 h5 ((k6.mono x1.ff).append g2))⟩
      · simp only [if_neg hz] at q1
        exact q1.2.elim
    | _ => exact q1.2.elim
/-- xs[i] = v of a list of one's own -/
def sSetIx (i : Nat) (dv dk : Ev → MM D) : Ev → MM Fl := fun ρ ω => (dv ρ ω).bind fun v w => match look ρ i with
  | some (.list ds) => (dk ρ w).bind fun k w => match k with
    | .int k => (ofO (ixN ds.length k) w).bind fun j w => .ok (.next (put ρ i (.list (ds.set j v)))) w
    | _ => .bad
  | _ => .bad
theorem s_setix {i : Nat} {o k1 v1 : Expr} {p2 p3 : Pos} {dv dk : Ev → MM D} (hO : i ∈ m.O) (hv : E c W m X v1 dv) (hk : E c W m X k1 dk) (h : PE X v1 (TD c W m dv) → PE X k1 (TD c W m dk) → PS X (.Assign [.Subscript o k1 p2] v1 p3) (tAsg (TD c W m dv) (gSub (tVar i) (TD c W m dk) rSetL))) : PS X (.Assign [.Subscript o k1 p2] v1 p3) (TSD c W m m mb mc (sSetIx i dv dk)) := PSimp (h hv hk) fun D' σ H ⟨F, ρ, ω, S, q⟩ => by
  have q' : GS c W m mb mc D' F H _ := ⟨S.fr.xt, q⟩
  refine ⟨F, ρ, ω, S, bindT S GS.pg q' fun v F1 H1 w1 x1 S1 q1 y r1 => ?_⟩
  cases hl : look ρ i with
  | none => simp only [hl] at q1; exact q1.2.elim
  | some a =>
    simp only [hl] at q1
    obtain ⟨l, us, ds, k1, k2, k3, k4, k5, k6⟩ := S1.own i a (look_iff hl) hO
    subst k2
    refine ⟨_, k1, F1, ρ, w1, S1, bindT S1 GS.pg q1 fun k F2 H2 w2 x2 S2 q2 z r2 => ?_⟩
    have h5 : H2 l = some (.lst us) := x2.keep l _ k5 fun z => (S1.bo l z).1 k3
    cases r2 with
    | int k =>
      cases hj : ixN ds.length k with
      | none => simp only [hj] at q2; exact q2.2.elim
      | some j =>
        simp only [hj, ofO_some, bind_ok] at q2
        exact ⟨l, us, k, j, rfl, rfl, h5, by rw [k6.length]; exact hj, q2.2 F2 σ _ (Same.refl _) (S2.write hO (look_iff hl) k1 h5 ((k6.mono x2.ff).set (r1.mono x2.ff) j))⟩
    | _ => exact q2.2.elim
/-- xs[i] of a list of one's own -/
def eIxO (i : Nat) (dk : Ev → MM D) : Ev → MM D := fun ρ ω => match look ρ i with
  | some (.list ds) => (dk ρ ω).bind fun k w => match k with
    | .int k => ofO (atI ds k) w
    | _ => .bad
  | _ => .bad
theorem e_ixO {i : Nat} {o k1 : Expr} {dk : Ev → MM D} (hO : i ∈ m.O) (hk : E c W m X k1 dk) (h : PE X k1 (TD c W m dk) → PE X (.Subscript o k1 pos) (tOp (rIxL X.K) (tVar i) (TD c W m dk))) : E c W m X (.Subscript o k1 pos) (eIxO i dk) := PEimp (h hk) fun σ H Q ⟨F, ρ, ω, S, q⟩ => by
  unfold eIxO at q
  cases hl : look ρ i with
  | none => rw [hl] at q; exact q.elim
  | some a =>
    rw [hl] at q
    obtain ⟨l, us, ds, k1, k2, k3, k4, k5, k6⟩ := S.own i a (look_iff hl) hO
    subst k2
    refine ⟨_, k1, F, ρ, ω, S, bindT S Post.pg q fun k F1 H1 w1 x1 S1 q1 z r1 => ?_⟩
    have h5 : H1 l = some (.lst us) := x1.keep l _ k5 fun z => (S.bo l z).1 k3
    cases r1 with
    | int k =>
      obtain ⟨v, e1, q3⟩ := post_ofO S1.fh S1.bo q1
      have e1' := e1
      unfold atI at e1'
      obtain ⟨j, e2, e3⟩ := Option.bind_eq_some_iff.mp e1'
      obtain ⟨u, e4, e5⟩ := k6.get e3
      refine ⟨l, us, k, u, rfl, rfl, SqL.of h5, ?_, q3 F1 H1 (Xt.refl S1.fh) u (e5.mono x1.ff)⟩
      unfold atI
      rw [k6.length, e2]
      exact e4
    | _ => exact q1.elim
/-- len(xs) of a list of one's own -/
def eLenO (i : Nat) : Ev → MM D := fun ρ ω => match look ρ i with
  | some (.list ds) => .ok (.int ds.length) ω
  | _ => .bad
theorem e_lenO {i : Nat} (hO : i ∈ m.O) (h : PE X e (tCB (fun xs H Q => ∃ x n, xs = [x] ∧ LenV X.K x H n ∧ Q (.int n) H) (tCons (tVar i) tNil))) : E c W m X e (eLenO i) := PEimp h fun σ H Q ⟨F, ρ, ω, S, q⟩ => by
  unfold eLenO at q
  cases hl : look ρ i with
  | none => rw [hl] at q; exact q.elim
  | some a =>
    rw [hl] at q
    obtain ⟨l, us, ds, k1, k2, k3, k4, k5, k6⟩ := S.own i a (look_iff hl) hO
    subst k2
    exact ⟨_, k1, _, ds.length, rfl, .inl ⟨us, SqL.of k5, k6.length.symm⟩, q F H (Xt.refl S.fh) S.bo _ (.int _)⟩

/-! ### the borrowed list -/
def eIxB (dk : Ev → MM D) : Ev → MM D := fun ρ ω => (dk ρ ω).bind fun k w => match k with
  | .int k => ofO (atI w k) w
  | _ => .bad
theorem e_ixB {i : Nat} {o k1 : Expr} {dk : Ev → MM D} (hB : m.B = some i) (hk : E c W m X k1 dk) (h : PE X k1 (TD c W m dk) → PE X (.Subscript o k1 pos) (tOp (rIxL X.K) (tVar i) (TD c W m dk))) : E c W m X (.Subscript o k1 pos) (eIxB dk) := PEimp (h hk) fun σ H Q ⟨F, ρ, ω, S, q⟩ => by
  obtain ⟨_, b, hb, k1⟩ := S.bsl i hB
  refine ⟨_, k1, F, ρ, ω, S, bindT S Post.pg q fun k F1 H1 w1 x1 S1 q1 z r1 => ?_⟩
  obtain ⟨_, _, us, h5, k6⟩ := S1.bo b hb
  cases r1 with
  | int k =>
    obtain ⟨v, e1, q3⟩ := post_ofO S1.fh S1.bo q1
    have e1' := e1
    unfold atI at e1'
    obtain ⟨j, e2, e3⟩ := Option.bind_eq_some_iff.mp e1'
    obtain ⟨u, e4, e5⟩ := k6.get e3
    refine ⟨b, us, k, u, rfl, rfl, SqL.of h5, ?_, q3 F1 H1 (Xt.refl S1.fh) u e5⟩
    unfold atI
    rw [k6.length, e2]
    exact e4
  | _ => exact q1.elim
def sSetB (dv dk : Ev → MM D) : Ev → MM Fl := fun ρ ω => (dv ρ ω).bind fun v w => (dk ρ w).bind fun k w => match k with
  | .int k => (ofO (ixN w.length k) w).bind fun j w => .ok (.next ρ) (w.set j v)
  | _ => .bad
theorem s_setB {i : Nat} {o k1 v1 : Expr} {p2 p3 : Pos} {dv dk : Ev → MM D} (hB : m.B = some i) (hv : E c W m X v1 dv) (hk : E c W m X k1 dk) (h : PE X v1 (TD c W m dv) → PE X k1 (TD c W m dk) → PS X (.Assign [.Subscript o k1 p2] v1 p3) (tAsg (TD c W m dv) (gSub (tVar i) (TD c W m dk) rSetL))) : PS X (.Assign [.Subscript o k1 p2] v1 p3) (TSD c W m m mb mc (sSetB dv dk)) := PSimp (h hv hk) fun D' σ H ⟨F, ρ, ω, S, q⟩ => by
  have q' : GS c W m mb mc D' F H _ := ⟨S.fr.xt, q⟩
  refine ⟨F, ρ, ω, S, bindT S GS.pg q' fun v F1 H1 w1 x1 S1 q1 y r1 => ?_⟩
  obtain ⟨_, b, hb, k1⟩ := S1.bsl i hB
  refine ⟨_, k1, F1, ρ, w1, S1, bindT S1 GS.pg q1 fun k F2 H2 w2 x2 S2 q2 z r2 => ?_⟩
  obtain ⟨_, _, us, h5, k6⟩ := S2.bo b hb
  cases r2 with
  | int k =>
    cases hj : ixN w2.length k with
    | none => simp only [hj] at q2; exact q2.2.elim
    | some j =>
      simp only [hj, ofO_some, bind_ok] at q2
      exact ⟨b, us, k, j, rfl, rfl, h5, by rw [k6.length]; exact hj, q2.2 F2 σ _ (Same.refl _) (S2.writeB hb (k6.set (r1.mono x2.ff) j))⟩
  | _ => exact q2.2.elim
end
end M

set_option Elab.async false
set_option linter.all false
set_option maxRecDepth 100000
set_option maxHeartbeats 4000000
namespace M
open PySem PySem.Spec PyProof.Rows L2

/-! ### comprehensions -/
def wipeD (ρ : Ev) : List Nat → Ev
  | [] => ρ
  | v :: vs => (wipeD ρ vs).set v none
def Md.delL (m : Md) : List Nat → Md
  | [] => m
  | v :: vs => (m.delL vs).del v
theorem delL_B (m : Md) : ∀ vs, (m.delL vs).B = m.B
  | [] => rfl
  | v :: vs => delL_B m vs
theorem SR.forget {c : CM} {m : Md} {F : Hp} {ρ : Ev} {ω : Wd} {σ : L2.St} {H : Hp} (S : SR c m F ρ ω σ H) {v : Nat} (hb : m.B ≠ some v) : SR c (m.del v) F (ρ.set v none) ω (σ.set v none) H where
  fr := S.fr
  len := by simp [S.len]
  dat := fun i d e n => by
    have hi : i ≠ v := fun z => by
      subst z
      by_cases hl : i < ρ.length
      · rw [List.getElem?_set_self hl] at e; cases e
      · rw [List.getElem?_eq_none (by simpa using hl)] at e; cases e
    rw [List.getElem?_set_ne (Ne.symm hi)] at e ⊢
    exact S.dat i d e fun z => n (mem_del.mpr ⟨z, hi⟩)
  own := fun i d e n => by
    obtain ⟨n1, n2⟩ := mem_del.mp n
    rw [List.getElem?_set_ne (Ne.symm n2)] at e ⊢
    exact S.own i d e n1
  sep := fun i j l di dj oi oj ei ej si sj => by
    obtain ⟨n1, n2⟩ := mem_del.mp oi
    obtain ⟨n3, n4⟩ := mem_del.mp oj
    rw [List.getElem?_set_ne (Ne.symm n2)] at ei si
    rw [List.getElem?_set_ne (Ne.symm n4)] at ej sj
    exact S.sep i j l di dj n1 n3 ei ej si sj
  bsl := fun i e => by
    have hi : i ≠ v := fun z => hb (by rw [← z]; exact e)
    obtain ⟨h1, b, h2, h3⟩ := S.bsl i e
    exact ⟨by rw [List.getElem?_set_ne (Ne.symm hi)]; exact h1, b, h2, by rw [List.getElem?_set_ne (Ne.symm hi)]; exact h3⟩
theorem SR.wipe {c : CM} {m : Md} {F : Hp} {ρ : Ev} {ω : Wd} {σ : L2.St} {H : Hp} (S : SR c m F ρ ω σ H) : ∀ {vs : List Nat}, (∀ v ∈ vs, m.B ≠ some v) → SR c (m.delL vs) F (wipeD ρ vs) ω (L2.wipe σ vs) H
  | [], _ => S
  | v :: vs, h => (SR.wipe S fun v hv => h v (by simp [hv])).forget (by rw [delL_B]; exact h v (by simp))
theorem wipe_get (σ : L2.St) (j : Nat) : ∀ vs : List Nat, (L2.wipe σ vs)[j]? = if j ∈ vs then (if j < σ.length then some none else none) else σ[j]?
  | [] => by simp [L2.wipe]
  | v :: vs => by
    unfold L2.wipe
    by_cases hj : v = j
    · subst hj
      by_cases hl : v < σ.length
      · rw [List.getElem?_set_self (by rw [wipe_length]; exact hl)]; simp [hl]
      · rw [List.getElem?_eq_none (by simp [wipe_length]; omega)]; simp [hl]
    · rw [List.getElem?_set_ne hj, wipe_get σ j vs]
      have : (j ∈ v :: vs) ↔ j ∈ vs := by simp [Ne.symm hj]
      by_cases hv : j ∈ vs
      · rw [if_pos hv, if_pos (this.mpr hv)]
      · rw [if_neg hv, if_neg (fun z => hv (this.mp z))]
theorem wipe_off {σ σ' : L2.St} {is vs : List Nat} (h : Off is (L2.wipe σ vs) σ') (hs : ∀ i ∈ is, i ∈ vs) : L2.wipe σ' vs = L2.wipe σ vs := by
  have hl : σ'.length = σ.length := by rw [h.1, wipe_length]
  apply List.ext_getElem?
  intro j
  rw [wipe_get, wipe_get, hl]
  by_cases hj : j ∈ vs
  · rw [if_pos hj, if_pos hj]
  · rw [if_neg hj, if_neg hj, h.2 j fun z => hj (hs j z), wipe_get, if_neg hj]
def noX {α : Type} : Res α → Res α
  | .exc _ _ => .bad
  | r => r
@[simp] theorem noX_ok {α : Type} (a : α) (w : Wd) : noX (.ok a w) = .ok a w := rfl
@[simp] theorem noX_bad {α : Type} : noX (.bad : Res α) = .bad := rfl
@[simp] theorem noX_exc {α : Type} (e : Ex) (w : Wd) : noX (.exc e w : Res α) = .bad := rfl
def W0 : WX := fun _ _ _ _ => False
def lcGo (g : D → Ev → Option Ev) (t : Ev → MM Bool) (d : Ev → MM D) (ρ0 : Ev) : List D → Wd → Res (List D)
  | [], w => .ok [] w
  | x :: xs, w => (ofO (g x ρ0) w).bind fun ρ1 w => (noX (t ρ1 w)).bind fun b w => match b with
    | true => (noX (d ρ1 w)).bind fun y w => (lcGo g t d ρ0 xs w).bind fun ys w => .ok (y :: ys) w
    | false => lcGo g t d ρ0 xs w
def lcD (di : Ev → MM (List D)) (g : D → Ev → Option Ev) (t : Ev → MM Bool) (d : Ev → MM D) (vs : List Nat) : Ev → MM (List D) := fun ρ ω => (di ρ ω).bind fun xs w => if xs.length ≤ sizeLine then lcGo g t d (wipeD ρ vs) xs w else .bad
def bYes : Ev → MM Bool := fun _ ω => .ok true ω
section
variable {c : CM} {W : WX} {m : Md} {X : Cx} {elt tg iter : Expr} {ifs : List Expr} {pos : Pos}
theorem PTsimp {X : Cx} {es : List Expr} {t t' : TT} (h : PTs X es t) (i : ∀ σ H Q, t' σ H Q → t σ H Q) : PTs X es t' := ⟨fun p s σ H Q I q => h.run p s σ H Q I (i _ _ _ q)⟩
theorem t_nil : PTs X [] (TDb c W m bYes) := PTsimp pts_nil fun σ H Q ⟨F, ρ, ω, S, q⟩ => q F H (Xt.refl S.fh) S.bo
theorem t_one {a : Expr} {d : Ev → MM Bool} (h : B c W m X a d) : PTs X [a] (TDb c W m d) := pts_one h
theorem noX_ne {α : Type} {r : Res α} {a : α} {w : Wd} (h : noX r = .ok a w) : r = .ok a w := by
  cases r with
  | ok b v => exact h
  | bad => cases h
  | exc e v => cases h
theorem bind_split {α β : Type} {r : Res α} {k : α → Wd → Res β} {b : β} {w : Wd} (h : r.bind k = .ok b w) : ∃ a v, r = .ok a v ∧ k a v = .ok b w := by
  cases r with
  | bad => cases h
  | exc e v => cases h
  | ok a v => exact ⟨a, v, rfl, h⟩
theorem lcGo_noexc (g : D → Ev → Option Ev) (t : Ev → MM Bool) (d : Ev → MM D) (ρ0 : Ev) : ∀ (xs : List D) (w : Wd) (e : Ex) (v : Wd), lcGo g t d ρ0 xs w ≠ .exc e v
  | [], _, _, _, h => by cases h
  | x :: xs, w, e, v, h => by
    unfold lcGo at h
    cases hg : g x ρ0 with
    | none => rw [hg] at h; cases h
    | some ρ1 =>
      rw [hg, ofO_some, bind_ok] at h
      cases ht : noX (t ρ1 w) with
      | bad => rw [ht] at h; cases h
      | exc ee vv =>
        have : ∀ r : Res Bool, noX r ≠ .exc ee vv := fun r => by cases r <;> intro z <;> cases z
        exact this _ ht
      | ok b w1 =>
        rw [ht, bind_ok] at h
        cases b with
        | false => exact lcGo_noexc g t d ρ0 xs w1 e v h
        | true =>
          simp only at h
          cases hd : noX (d ρ1 w1) with
          | bad => rw [hd] at h; cases h
          | exc ee vv =>
            have : ∀ r : Res D, noX r ≠ .exc ee vv := fun r => by cases r <;> intro z <;> cases z
            exact this _ hd
          | ok y w2 =>
            rw [hd, bind_ok] at h
            cases hr : lcGo g t d ρ0 xs w2 with
            | bad => rw [hr] at h; cases h
            | exc ee vv => exact lcGo_noexc g t d ρ0 xs w2 ee vv hr
            | ok ys w3 => rw [hr] at h; cases h
theorem lc_imp {is vs : List Nat} {di : Ev → MM (List D)} {g : D → Ev → Option Ev} {t : Ev → MM Bool} {d : Ev → MM D} {mt : Md} (hv : ∀ v ∈ vs, m.B ≠ some v) (his : ∀ i ∈ is, i ∈ vs) :
    ∀ σ H Q, TDf c W m (lcD di g t d vs) σ H Q → tLc (TID c W m di) (TGD c (m.delL vs) mt is g) (TDb c W0 mt t) (TD c W0 mt d) vs σ H Q := fun σ H Q ⟨F, ρ, ω, S, q⟩ => by
  unfold lcD at q
  refine ⟨F, ρ, ω, S, bindT S Post.pg q fun items F1 H1 w1 x1 S1 q1 J hJ => ?_⟩
  intro D1 hD
  by_cases hz : items.length ≤ sizeLine
  · rw [if_pos hz] at q1
    have SW := S1.wipe hv
    -- the whole has a value
    obtain ⟨out, wf, hout⟩ : ∃ out wf, lcGo g t d (wipeD ρ vs) items w1 = .ok out wf := by
      cases e : lcGo g t d (wipeD ρ vs) items w1 with
      | bad => rw [e] at q1; exact q1.elim
      | exc ee vv => exact absurd e (lcGo_noexc _ _ _ _ _ _ _ _)
      | ok a b => exact ⟨a, b, rfl⟩
    rw [hout] at q1
    have hbD : c.b ≠ some D1 := new_ne_b S1 hD
    have hD0 : H D1 = none := by
      cases z : H D1 with
      | none => rfl
      | some o => exact absurd hD (x1.dom D1 (by rw [z]; simp))
    refine ⟨fun i n H' => n = items.length - i ∧ i ≤ items.length ∧ ∃ F' ω' acc accD rest, Xt c.b F1 H1 F' H' ∧ BorOk c F' ω' H' ∧ F' D1 = none ∧ H' D1 = some (.lst acc) ∧ RpL c.K F' acc accD ∧ acc.length ≤ i ∧ lcGo g t d (wipeD ρ vs) (items.drop i) ω' = .ok rest wf ∧ out = accD ++ rest, ?_, ?_⟩
    · refine ⟨_, rfl, Nat.zero_le _, F1, w1, [], [], out, Xt.alloc0 S1.fh hD, S1.bo.ext (Xt.alloc0 S1.fh hD), Same.none S1.fh hD, upd_same, .nil, Nat.le_refl _, hout, rfl⟩
    · rintro i n H' ⟨rfl, hi, F', ω', acc, accD, rest, x', bo', fD, hD', racc, hlen, hgo, hsum⟩
      by_cases hlt : i < items.length
      · refine .inr ⟨hJ.go i F' H' hlt x'.ff x'.fh, fun H2 => ∃ F2 ω2 acc2 accD2 rest2, Xt c.b F1 H1 F2 H2 ∧ BorOk c F2 ω2 H2 ∧ F2 D1 = none ∧ H2 D1 = some (.lst acc2) ∧ RpL c.K F2 acc2 accD2 ∧ acc2.length ≤ i + 1 ∧ lcGo g t d (wipeD ρ vs) (items.drop (i + 1)) ω2 = .ok rest2 wf ∧ out = accD2 ++ rest2, fun H2 hN => ⟨items.length - (i + 1), by omega, rfl, hlt, hN⟩, fun x H2 y => ?_⟩
        obtain ⟨F2, xt2, r2⟩ := hJ.yld i items[i] F' H' x H2 (by simp [hlt]) x'.ff x'.fh y
        rw [List.drop_eq_getElem_cons hlt, lcGo] at hgo
        obtain ⟨ρ1, w2, e1, hgo1⟩ := bind_split hgo
        have eg : g items[i] (wipeD ρ vs) = some ρ1 ∧ w2 = ω' := by
          cases q : g items[i] (wipeD ρ vs) with
          | none => rw [q] at e1; cases e1
          | some z => rw [q] at e1; cases e1; exact ⟨rfl, rfl⟩
        obtain ⟨eg, rfl⟩ := eg
        obtain ⟨b, w3, e2, hgo2⟩ := bind_split hgo1
        have e2 := noX_ne e2
        have x2' : Xt c.b F1 H1 F2 H2 := x'.trans xt2.any
        have bo2 := bo'.ext xt2
        have S2 : SR c (m.delL vs) F2 (wipeD ρ vs) w2 (L2.wipe σ vs) H2 := SW.step x2' bo2
        refine ⟨F2, wipeD ρ vs, w2, items[i], ρ1, S2, r2, eg, fun σ2 S3 off => ⟨wipe_off off his, ?_⟩⟩
        · refine ⟨F2, ρ1, w2, S3, ?_⟩
          rw [e2]
          intro F3 H3 xt3 bo3
          have D3 : H3 D1 = some (.lst acc) := xt3.keep D1 _ (xt2.keep D1 _ hD' (by simp)) hbD
          have F3D : F3 D1 = none := by
            rw [xt3.new D1 (by rw [xt2.keep D1 _ hD' (by simp)]; simp), xt2.new D1 (by rw [hD']; simp)]
            exact fD
          cases b with
          | false =>
            refine iteF ⟨F3, w3, acc, accD, rest, x2'.trans xt3, bo3, F3D, D3, (racc.mono xt2.ff).mono xt3.ff, by omega, hgo2, hsum⟩
          | true =>
            obtain ⟨yv, w4, e3, hgo3⟩ := bind_split hgo2
            have e3 := noX_ne e3
            obtain ⟨ys, w5, e4, hgo4⟩ := bind_split hgo3
            cases hgo4
            refine iteT ⟨F3, ρ1, w3, S3.step xt3 bo3, ?_⟩
            rw [e3]
            intro F4 H4 xt4 bo4 z rz
            have D4 : H4 D1 = some (.lst acc) := xt4.keep D1 _ D3 hbD
            have F4D : F4 D1 = none := by rw [xt4.new D1 (by rw [D3]; simp)]; exact F3D
            refine ⟨acc, D4, by omega, F4, w4, acc ++ [z], accD ++ [yv], ys, ?_, ?_, F4D, upd_same, (((racc.mono xt2.ff).mono xt3.ff).mono xt4.ff).append (.cons rz .nil), by simp; omega, e4, by rw [hsum]; simp⟩
            · have xx := (x2'.trans xt3).trans xt4
              refine ⟨xx.ff, fun a o e => ?_, fun a o e nn => ?_, fun a h => ?_, xx.new⟩
              · have ha : a ≠ D1 := fun zz => by rw [zz, F4D] at e; cases e
                rw [upd_ne ha]; exact xx.fh _ _ e
              · have ha : a ≠ D1 := fun zz => by rw [zz, hD] at e; cases e
                rw [upd_ne ha]; exact xx.keep a o e nn
              · by_cases ha : a = D1
                · rw [ha, upd_same]; simp
                · rw [upd_ne ha]; exact xx.dom a h
            · intro b' hb'
              obtain ⟨b0, b1, bu, b2, b3⟩ := bo4 b' hb'
              have hne : b' ≠ D1 := fun zz => hbD (zz ▸ hb')
              exact ⟨b0, b1, bu, by rw [upd_ne hne]; exact b2, b3⟩
      · have e : i = items.length := by omega
        subst e
        rw [List.drop_length] at hgo
        cases hgo
        simp only [List.append_nil] at hsum
        subst hsum
        exact .inl ⟨hJ.stop F' H' x'.ff x'.fh, q1 F' H' x' bo' D1 acc hD0 fD hD' racc⟩
  · rw [if_neg hz] at q1
    exact q1.elim
end
end M

set_option Elab.async false
set_option linter.all false
set_option maxRecDepth 100000
set_option maxHeartbeats 4000000
namespace M
open PySem PySem.Spec PyProof.Rows L2

section
variable {c : CM} {W : WX} {m : Md} {X : Cx} {elt tg iter : Expr} {ifs : List Expr} {pos : Pos}
theorem f_lc {scope : Scope} {own : List (PySem.Str × Nat)} {vs : List Nat} {is : List Nat} {mt : Md} {di : Ev → MM (List D)} {g : D → Ev → Option Ev} {t : Ev → MM Bool} {d : Ev → MM D} (hc : X.calm = true) (hN : X.N.Nodup) (hi : PI X tg iter (TID c W m di)) (ok : BlkOk X.N X.env.scope scope own)
    (hg : ∀ (s : Shared) (H : Hp) (C : Addr) (cl : List (PySem.Str × Addr)) (fp : List Addr), PG (X.blk s H scope (compEnvC scope cl C X.env) fp) tg (TGD c (m.delL vs) mt is g)) (ht : ∀ (s : Shared) (H : Hp) (C : Addr) (cl : List (PySem.Str × Addr)) (fp : List Addr), PTs (X.blk s H scope (compEnvC scope cl C X.env) fp) ifs (TDb c W0 mt t))
    (he : ∀ (s : Shared) (H : Hp) (C : Addr) (cl : List (PySem.Str × Addr)) (fp : List Addr), PE (X.blk s H scope (compEnvC scope cl C X.env) fp) elt (TD c W0 mt d)) (hv : ∀ v ∈ vs, m.B ≠ some v := by decide) (his : ∀ i ∈ is, i ∈ vs := by decide) (hs : ∀ x, foldedSetIterable iter X.env x = pure x := by intro _; rfl) (hvs : own.map (·.2) = vs := by rfl) :
    EF c W m X (.ListComp elt [⟨tg, iter, ifs, 0⟩] scope pos) (lcD di g t d vs) := by
  subst hvs
  exact PEimp (pe_lc hc hN hi ok hg ht he hs) (lc_imp hv his)
/-- y = [..], the list frozen -/
theorem s_lc {i : Nat} {y : PySem.Str} {py spos : Pos} {scope : Scope} {own : List (PySem.Str × Nat)} {vs : List Nat} {is : List Nat} {mt mb mc : Md} {di : Ev → MM (List D)} {g : D → Ev → Option Ev} {t : Ev → MM Bool} {d : Ev → MM D} (hc : X.calm = true) (hN : X.N.Nodup) (hy : X.N[i]? = some y) (hyl : X.env.scope.names.lookup y = some .local)
    (hsw : swapsWith (.ListComp elt [⟨tg, iter, ifs, 0⟩] scope pos) (some (.Name y py)) spos.line X.env = pure true) (hi : PI X tg iter (TID c W m di)) (ok : BlkOk X.N X.env.scope scope own)
    (hg : ∀ (s : Shared) (H : Hp) (C : Addr) (cl : List (PySem.Str × Addr)) (fp : List Addr), PG (X.blk s H scope (compEnvC scope cl C X.env) fp) tg (TGD c (m.delL vs) mt is g)) (ht : ∀ (s : Shared) (H : Hp) (C : Addr) (cl : List (PySem.Str × Addr)) (fp : List Addr), PTs (X.blk s H scope (compEnvC scope cl C X.env) fp) ifs (TDb c W0 mt t))
    (he : ∀ (s : Shared) (H : Hp) (C : Addr) (cl : List (PySem.Str × Addr)) (fp : List Addr), PE (X.blk s H scope (compEnvC scope cl C X.env) fp) elt (TD c W0 mt d)) (hb : m.B ≠ some i := by decide) (hv : ∀ v ∈ vs, m.B ≠ some v := by decide) (his : ∀ i ∈ is, i ∈ vs := by decide) (hs : ∀ x, foldedSetIterable iter X.env x = pure x := by intro _; rfl) (hvs : own.map (·.2) = vs := by rfl) :
    PS X (.Assign [.Name y py] (.ListComp elt [⟨tg, iter, ifs, 0⟩] scope pos) spos) (TSD c W m (m.del i) mb mc (sAsg (eOfF (lcD di g t d vs)) (gN i))) := by
  subst hvs
  exact s_setLc (ps_setLc hc hN hy hyl hsw hi ok hg ht he hs) (fun σ H Q q => lc_imp hv his _ _ _ (f_imp _ _ _ q)) hb
theorem s_lcO {i : Nat} {y : PySem.Str} {py spos : Pos} {scope : Scope} {own : List (PySem.Str × Nat)} {vs : List Nat} {is : List Nat} {mt mb mc : Md} {di : Ev → MM (List D)} {g : D → Ev → Option Ev} {t : Ev → MM Bool} {d : Ev → MM D} (hc : X.calm = true) (hN : X.N.Nodup) (hy : X.N[i]? = some y) (hyl : X.env.scope.names.lookup y = some .local)
    (hsw : swapsWith (.ListComp elt [⟨tg, iter, ifs, 0⟩] scope pos) (some (.Name y py)) spos.line X.env = pure true) (hi : PI X tg iter (TID c W m di)) (ok : BlkOk X.N X.env.scope scope own)
    (hg : ∀ (s : Shared) (H : Hp) (C : Addr) (cl : List (PySem.Str × Addr)) (fp : List Addr), PG (X.blk s H scope (compEnvC scope cl C X.env) fp) tg (TGD c (m.delL vs) mt is g)) (ht : ∀ (s : Shared) (H : Hp) (C : Addr) (cl : List (PySem.Str × Addr)) (fp : List Addr), PTs (X.blk s H scope (compEnvC scope cl C X.env) fp) ifs (TDb c W0 mt t))
    (he : ∀ (s : Shared) (H : Hp) (C : Addr) (cl : List (PySem.Str × Addr)) (fp : List Addr), PE (X.blk s H scope (compEnvC scope cl C X.env) fp) elt (TD c W0 mt d)) (hb : m.B ≠ some i := by decide) (hv : ∀ v ∈ vs, m.B ≠ some v := by decide) (his : ∀ i ∈ is, i ∈ vs := by decide) (hs : ∀ x, foldedSetIterable iter X.env x = pure x := by intro _; rfl) (hvs : own.map (·.2) = vs := by rfl) :
    PS X (.Assign [.Name y py] (.ListComp elt [⟨tg, iter, ifs, 0⟩] scope pos) spos) (TSD c W m (m.add i) mb mc (sOwn i (lcD di g t d vs))) := by
  subst hvs
  exact s_ownLc (ps_setLc hc hN hy hyl hsw hi ok hg ht he hs) (lc_imp hv his) hb
theorem pass_ok {P : Program} {w : World} {K : PySem.W.Frag} {mg : PySem.Str → Option Value} {base : Heap} {N : List PySem.Str} {qual : PySem.Str} {scope : Scope} {f : Addr} {cd : Value} {A : Around} {outer : List Env} {s : Shared} {H : Hp} {E : XK} :
    PassesOwn (model P w) (cxOf (L2.CX P w) P w K mg base N qual scope f cd A outer s H E).A (cxOf (L2.CX P w) P w K mg base N qual scope f cd A outer s H E).env (cxOf (L2.CX P w) P w K mg base N qual scope f cd A outer s H E).xe := passes_of (X := cxOf (L2.CX P w) P w K mg base N qual scope f cd A outer s H E) rfl
theorem takes_ok {P : Program} {w : World} {K : PySem.W.Frag} {mg : PySem.Str → Option Value} {base : Heap} {N : List PySem.Str} {qual : PySem.Str} {scope : Scope} {f : Addr} {cd : Value} {A : Around} {outer : List Env} {s : Shared} {H : Hp} {E : XK} :
    Takes (cxOf (L2.CX P w) P w K mg base N qual scope f cd A outer s H E) (fun cls d _ H => E cls d H) := takes_of rfl rfl rfl rfl
end

/-! ### defs -/
def endF : Res Fl → Res D
  | .ok (.ret d) w => .ok d w
  | .ok (.next _) w => .ok .none w
  | .exc e w => .exc e w
  | _ => .bad
def runF (nl n : Nat) (db : Ev → MM Fl) : List D → Res D := fun ds => if ds.length = n then endF (db (ds.map some ++ List.replicate (nl - n) none) []) else .bad
def runS (nl n : Nat) (db : Ev → MM Fl) : List D → MM D := fun ds ω => if ds.length + 1 = n then endF (db (none :: (ds.map some ++ List.replicate (nl - n) none)) ω) else .bad
section
variable {P : Program} {w : World} {K : PySem.W.Frag} {mg : PySem.Str → Option Value} {base : Heap}
theorem start_get {N : List PySem.Str} {vs : List V} {i : Nat} {v : V} (h : vs[i]? = some v) : (L2.start N vs)[i]? = some (some v) := by
  unfold L2.start
  have hl := (List.getElem?_eq_some_iff.mp h).1
  rw [List.getElem?_append_left (by simpa using hl), List.getElem?_map, h]
  rfl
theorem ev_get {ds : List D} {r : Nat} {i : Nat} {d : D} (h : (ds.map some ++ List.replicate r (none : Option D))[i]? = some (some d)) : ds[i]? = some d := by
  by_cases hl : i < ds.length
  · rw [List.getElem?_append_left (by simpa using hl), List.getElem?_map] at h
    cases e : ds[i]? with
    | none => rw [e] at h; cases h
    | some x => rw [e] at h; simpa using h
  · rw [List.getElem?_append_right (by simpa using hl), List.getElem?_replicate] at h
    split at h <;> simp at h
theorem fn_P {x qual : PySem.Str} {st : Stmt} {f : Addr} {fd : FuncData} {N ps : List PySem.Str} {k n : Nat} {mn mb mc : Md} {db : Ev → MM Fl} (F : Fun K x qual st f fd) (S : FnScope N ps (defScope st)) (hn : ps.length = n)
    (der : ∀ (F0 : Hp) (cdv : Value) (A : Around) (outer : List Env) (s : Shared) (H : Hp) (E : XK), Room k (A.deeper (envOfC qual (defScope st) s.heap.objs.size f cdv)) →
      PSs (cxOf (L2.CX P w) P w K mg base N qual (defScope st) f cdv A outer s H E) (defBody st) (TSD ⟨K, mg, H, F0, none⟩ (fun cls d _ H => E cls d H) {} mn mb mc db)) :
    FnOk P w K mg base (L2.CX P w) (k + 1) f fd ps (spP K mg n (runF N.length n db)) := by
  refine F.okX S (fun vs H Q E ⟨_, _, h, _⟩ => by rw [h, hn]) fun cdv A outer s H vs Q E hr ⟨F0, ds, hlen, s0, r0, q⟩ => ?_
  refine ⟨_, der F0 cdv A outer s H E hr, F0, ds.map some ++ List.replicate (N.length - n) none, [], ?_, ?_⟩
  · refine ⟨⟨Xt.refl s0, (fun b e => nomatch e)⟩, ?_, fun i d e _ => ?_, (fun i d _ h => nomatch h), (fun i j l di dj h => nomatch h), (fun i e => nomatch e)⟩
    · unfold L2.start
      simp [← r0.length, hlen]
    · obtain ⟨v, h1, h2⟩ := r0.get (ev_get e)
      exact ⟨v, start_get h1, h2⟩
  · have hl : ds.length = n := by rw [← r0.length]; exact hlen
    unfold runF at q
    rw [if_pos hl] at q
    cases e : db (ds.map some ++ List.replicate (N.length - n) none) [] with
    | bad => rw [e] at q; exact q.elim
    | exc ex w' =>
      rw [e] at q
      exact fun F' σ' H' cls dd s' fr rx => q F' H' cls dd fr.xt rx
    | ok fl w' =>
      rw [e] at q
      cases fl with
      | next ρ => exact fun F' σ' H' s' S' => q F' H' .non S'.fr.xt .non
      | ret d => exact fun F' H' z s' fr rz => q F' H' z fr.xt rz
      | brk ρ => exact q.elim
      | cont ρ => exact q.elim
theorem fn_S {x qual : PySem.Str} {st : Stmt} {f : Addr} {fd : FuncData} {N ps : List PySem.Str} {k n : Nat} {mn mb mc : Md} {db : Ev → MM Fl} (F : Fun K x qual st f fd) (S : FnScope N ps (defScope st)) (hn : ps.length = n)
    (der : ∀ (F0 : Hp) (b : Addr) (cdv : Value) (A : Around) (outer : List Env) (s : Shared) (H : Hp) (E : XK), Room k (A.deeper (envOfC qual (defScope st) s.heap.objs.size f cdv)) →
      PSs (cxOf (L2.CX P w) P w K mg base N qual (defScope st) f cdv A outer s H E) (defBody st) (TSD ⟨K, mg, H, F0, some b⟩ (fun cls d _ H => E cls d H) ⟨[], some 0⟩ mn mb mc db)) :
    FnOk P w K mg base (L2.CX P w) (k + 1) f fd ps (spS K mg n (runS N.length n db)) := by
  refine F.okX S (fun vs H Q E ⟨_, _, _, _, _, _, _, h, _⟩ => by rw [h, hn]) fun cdv A outer s H vs Q E hr ⟨F0, b, us, ω, vs', ds, hv, hlen, s0, fb, hb, rω, r0, q⟩ => ?_
  subst hv
  have hl : ds.length + 1 = n := by rw [← r0.length]; simpa using hlen
  refine ⟨_, der F0 b cdv A outer s H E hr, F0, none :: (ds.map some ++ List.replicate (N.length - n) none), ω, ?_, ?_⟩
  · refine ⟨⟨Xt.refl s0, fun b' e => ?_⟩, ?_, fun i d e _ => ?_, (fun i d _ h => nomatch h), (fun i j l di dj h => nomatch h), fun i e => ?_⟩
    · cases e
      exact ⟨by show H b ≠ none; rw [hb]; simp, fb, us, hb, rω⟩
    · unfold L2.start
      have : vs'.length = ds.length := r0.length
      simp only [List.length_cons, List.length_append, List.length_map, List.length_replicate]
      omega
    · cases i with
      | zero => simp at e
      | succ i =>
        obtain ⟨v, h1, h2⟩ := r0.get (ev_get (by simpa using e))
        exact ⟨v, start_get (by simpa using h1), h2⟩
    · cases e
      exact ⟨rfl, b, rfl, start_get rfl⟩
  · unfold runS at q
    rw [if_pos hl] at q
    have bor : ∀ {F' H' : Hp} {w' : Wd}, BorOk ⟨K, mg, H, F0, some b⟩ F' w' H' → ∃ us', H' b = some (.lst us') ∧ RpL K F' us' w' := fun {F' H' w'} bo => by
      obtain ⟨_, _, us', h1, h2⟩ := bo b rfl
      exact ⟨us', h1, h2⟩
    cases e : db (none :: (ds.map some ++ List.replicate (N.length - n) none)) ω with
    | bad => rw [e] at q; exact q.elim
    | exc ex w' =>
      rw [e] at q
      intro F' σ' H' cls dd s' fr rx
      obtain ⟨us', h1, h2⟩ := bor fr.bo
      exact q F' H' cls dd us' fr.xt h1 h2 rx
    | ok fl w' =>
      rw [e] at q
      cases fl with
      | next ρ =>
        intro F' σ' H' s' S'
        obtain ⟨us', h1, h2⟩ := bor S'.fr.bo
        exact q F' H' .non us' S'.fr.xt h1 h2 .non
      | ret d =>
        intro F' H' z s' fr rz
        obtain ⟨us', h1, h2⟩ := bor fr.bo
        exact q F' H' z us' fr.xt h1 h2 rz
      | brk ρ => exact q.elim
      | cont ρ => exact q.elim
/-- how a def stands behind the top -/
def Def (K : PySem.W.Frag) (mg : PySem.Str → Option Value) (x : PySem.Str) (st : Stmt) (ps : List PySem.Str) : Prop := ∃ f fd, Fun K x x st f fd ∧ Binds K fd ps [] ∧ mg x = some (.ref f)
theorem own_P {x : PySem.Str} {st : Stmt} {N ps : List PySem.Str} {k n : Nat} {mn mb mc : Md} {db : Ev → MM Fl} (G : Def K mg x st ps) (S : FnScope N ps (defScope st)) (hn : ps.length = n)
    (der : ∀ (f : Addr) (F0 : Hp) (cdv : Value) (A : Around) (outer : List Env) (s : Shared) (H : Hp) (E : XK), Room k (A.deeper (envOfC x (defScope st) s.heap.objs.size f cdv)) →
      PSs (cxOf (L2.CX P w) P w K mg base N x (defScope st) f cdv A outer s H E) (defBody st) (TSD ⟨K, mg, H, F0, none⟩ (fun cls d _ H => E cls d H) {} mn mb mc db)) :
    FnD P w K mg base x (k + 1) n (runF N.length n db) := by
  obtain ⟨f, fd, F, b, g⟩ := G
  exact ⟨f, fd, ps, g, F.kp, b, fn_P F S hn (der f)⟩
theorem own_S {x : PySem.Str} {st : Stmt} {N ps : List PySem.Str} {k n : Nat} {mn mb mc : Md} {db : Ev → MM Fl} (G : Def K mg x st ps) (S : FnScope N ps (defScope st)) (hn : ps.length = n)
    (der : ∀ (f : Addr) (F0 : Hp) (b : Addr) (cdv : Value) (A : Around) (outer : List Env) (s : Shared) (H : Hp) (E : XK), Room k (A.deeper (envOfC x (defScope st) s.heap.objs.size f cdv)) →
      PSs (cxOf (L2.CX P w) P w K mg base N x (defScope st) f cdv A outer s H E) (defBody st) (TSD ⟨K, mg, H, F0, some b⟩ (fun cls d _ H => E cls d H) ⟨[], some 0⟩ mn mb mc db)) :
    FnS P w K mg base x (k + 1) n (runS N.length n db) := by
  obtain ⟨f, fd, F, b, g⟩ := G
  exact ⟨f, fd, ps, g, F.kp, b, fn_S F S hn (der f)⟩
/-- a def's value, told otherwise -/
theorem own_eq {x : PySem.Str} {k n : Nat} {fd fd' : List D → Res D} (G : FnD P w K mg base x k n fd) (h : ∀ ds, fd' ds ≠ .bad → fd ds = fd' ds) : FnD P w K mg base x k n fd' := by
  obtain ⟨f, fdat, ps, g, kp, b, ok⟩ := G.ex
  refine ⟨f, fdat, ps, g, kp, b, ok.imp fun vs H Q E ⟨F, ds, h1, h2, h3, q⟩ => ⟨F, ds, h1, h2, h3, ?_⟩⟩
  rw [h ds fun z => by rw [z] at q; exact q]
  exact q

/-! ### the law's own helper that makes the state, and the law -/
def ω0 (ns : List Int) : Wd := [.list (ns.map .int), .int 0, .int 0, .int 0, .bool false, .int 500]
def spI (K : PySem.W.Frag) : Sp := fun vs H Q _ => ∃ F a ns, vs = [.ref a] ∧ Same F H ∧ SqL K H a (ns.map V.int) ∧ ∀ F' H' l us, Xt none F H F' H' → H l = none → F' l = none → H' l = some (.lst us) → RpL K F' us (ω0 ns) → Q (.ref l) H'
theorem PSs_ex {X : Cx} {sts : List Stmt} {ι : Type} {T : ι → TS} (h : ∀ i, PSs X sts (T i)) : PSs X sts (fun D' σ H => ∃ i, T i D' σ H) := ⟨fun p s σ H D' I ⟨i, q⟩ => (h i).run p s σ H D' I q⟩
def spLaw (K : PySem.W.Frag) : Sp := fun vs H Q _ => ∃ (a : Addr) (ns : List Int), vs = [.ref a] ∧ SqL K H a (ns.map V.int) ∧ ns.length ≤ 63 ∧ ∀ H', Q (.bl true) H'
theorem init_reading {F H : Hp} {a : Addr} {ns : List Int} {Q : VK} (s : Same F H) (hs : SqL K H a (ns.map V.int)) (q : ∀ F' H' l us, Xt none F H F' H' → H l = none → F' l = none → H' l = some (.lst us) → RpL K F' us (ω0 ns) → Q (.ref l) H') :
    ∀ l, H l = none → ∀ p, upd H l (.lst (ns.map V.int)) p = none → Q (.ref p) (upd (upd H l (.lst (ns.map V.int))) p (.lst [.ref l, .int 0, .int 0, .int 0, .bl false, .int 500])) := fun l hl p hp => by
  have x1 : Xt none F H (upd F l (.lst (ns.map V.int))) (upd H l (.lst (ns.map V.int))) := Xt.alloc s hl
  have x2 : Xt none (upd F l (.lst (ns.map V.int))) (upd H l (.lst (ns.map V.int))) (upd F l (.lst (ns.map V.int))) (upd (upd H l (.lst (ns.map V.int))) p (.lst [.ref l, .int 0, .int 0, .int 0, .bl false, .int 500])) := Xt.alloc0 x1.fh hp
  have hpH : H p = none := by
    cases e : H p with
    | none => rfl
    | some o => exact absurd hp (x1.dom p (by rw [e]; simp))
  exact q _ _ p _ (x1.trans x2) hpH (Same.none x1.fh hp) upd_same (.cons (.lst upd_same (RpL.of_ints ns)) (.cons (.int 0) (.cons (.int 0) (.cons (.int 0) (.cons (.bl false) (.cons (.int 500) .nil))))))
theorem law_first {X : Cx} {k : Nat} {p p1 p2 p3 pos : Pos} {x : PySem.Str} {y : PySem.Str} (G : Own X.prog X.w X.K X.mg X.base "_law_state" k (spI X.K)) (hr : Room k X.A) (hN : X.N.Nodup) (hi : X.N[1]? = some y) (hx : Loc X.env.scope y) (hv : PE X (.Name x p1) (tVar 0)) (hg : Gl X "_law_state")
    (he : starEach [.Name x p1] X.env = (false, eval (.Name x p1) X.env) :: starEach [] X.env := by rfl) (hpl : (backTo p2 (starEach [] X.env)).any (·.1) = false := by rfl)
    (hs : swapsWith (.Call (.Name "_law_state" p) [.Name x p1] [] p2) (some (.Name y p3)) pos.line X.env = pure false := by rfl) (hf : X.fn y = true ∨ X.env.scope.names.lookup y = some .local := by first | exact .inl rfl | exact .inr rfl | assumption) :
    PS X (.Assign [.Name y p3] (.Call (.Name "_law_state" p) [.Name x p1] [] p2) pos) (tAsg (tCallS (spI X.K) (fun _ => E0) (tCons (tVar 0) tNil)) (gName 1)) := by
  obtain ⟨f, fdat, ps, gm, kp, bd, ok⟩ := G.ex
  exact ps_set hN hi hx (pe_callS ok hr hg gm kp bd (fun σ pins H s e s' I h => passL pins σ H s e s' I h) (pa_cons hv pa_nil he) (by decide) he hpl) hs hf
theorem own_I {st : Stmt} {N : List PySem.Str} (G : Def K mg "_law_state" st ["script"]) (S : FnScope N ["script"] (defScope st))
    (der : ∀ (f : Addr) (cdv : Value) (A : Around) (outer : List Env) (s : Shared) (H : Hp) (E : XK),
      PSs (cxOf (L2.CX P w) P w K mg base N "_law_state" (defScope st) f cdv A outer s H E) (defBody st) (tRet (tLst (tCons (tCB (fun xs H Q => ∃ p ys, xs = [.ref p] ∧ (SqL K H p ys ∨ SqT K H p ys) ∧ ∀ l, H l = none → Q (.ref l) (upd H l (.lst ys))) (tCons (tVar 0) tNil)) (tCons (tC (.int 0)) (tCons (tC (.int 0)) (tCons (tC (.int 0)) (tCons (tC (.bl false)) (tCons (tC (.int 500)) tNil))))))))) :
    Own P w K mg base "_law_state" 1 (spI K) := by
  obtain ⟨f, fd, F, b, g⟩ := G
  refine ⟨f, fd, _, g, F.kp, b, F.okX S (fun vs H Q E ⟨_, _, _, h, _⟩ => by rw [h]; rfl) fun cdv A outer s H vs Q E hr ⟨F0, a, ns, hv, s0, hs, q⟩ => ?_⟩
  subst hv
  exact ⟨_, der f cdv A outer s H E, _, start_get (vs := [.ref a]) rfl, a, ns.map V.int, rfl, .inl hs, fun l hl => ⟨by show 6 ≤ sizeLine; decide, fun p hp => init_reading s0 hs q l hl p hp⟩⟩
theorem law_F {st : Stmt} {f : Addr} {fd : FuncData} {N : List PySem.Str} {k : Nat} {mn mb mc : Md} {db : Ev → MM Fl} {s0 : Stmt} {sts : List Stmt} (F : Fun K "law" "law" st f fd) (S : FnScope N ["script"] (defScope st)) (hbd : defBody st = s0 :: sts) (hN : 2 ≤ N.length)
    (der0 : ∀ (cdv : Value) (A : Around) (outer : List Env) (s : Shared) (H : Hp) (E : XK), Room k (A.deeper (envOfC "law" (defScope st) s.heap.objs.size f cdv)) →
      PS (cxOf (L2.CX P w) P w K mg base N "law" (defScope st) f cdv A outer s H E) s0 (tAsg (tCallS (spI K) (fun _ => E0) (tCons (tVar 0) tNil)) (gName 1)))
    (der : ∀ (H0 F0 : Hp) (b : Addr) (cdv : Value) (A : Around) (outer : List Env) (s : Shared) (H : Hp) (E : XK), Room k (A.deeper (envOfC "law" (defScope st) s.heap.objs.size f cdv)) →
      PSs (cxOf (L2.CX P w) P w K mg base N "law" (defScope st) f cdv A outer s H E) sts (TSD ⟨K, mg, H0, F0, some b⟩ (fun cls d _ H => E cls d H) ⟨[], some 1⟩ mn mb mc db))
    (math : ∀ ns : List Int, ns.length ≤ 63 → ∃ w, db (none :: none :: List.replicate (N.length - 2) none) (ω0 ns) = .ok (.ret (.bool true)) w) :
    FnOk P w K mg base (L2.CX P w) (k + 1) f fd ["script"] (spLaw K) := by
  refine F.okX S (fun vs H Q E ⟨_, _, h, _⟩ => by rw [h]; rfl) fun cdv A outer s H vs Q E hr ⟨a, ns, hv, hs, hl, q⟩ => ?_
  subst hv
  have h2 : PSs (cxOf (L2.CX P w) P w K mg base N "law" (defScope st) f cdv A outer s H E) sts (fun D' σ H' => ∃ i : Hp × Hp × Addr, TSD ⟨K, mg, i.1, i.2.1, some i.2.2⟩ (fun cls d _ H => E cls d H) ⟨[], some 1⟩ mn mb mc db D' σ H') :=
    PSs_ex fun i => der i.1 i.2.1 i.2.2 cdv A outer s H E hr
  rw [hbd]
  refine ⟨_, pss_cons (der0 cdv A outer s H E hr) h2, ?_⟩
  refine ⟨.ref a, start_get (vs := [.ref a]) rfl, H, a, ns, rfl, Same.refl _, hs, fun F' H' l us xt n0 n1 e1 r1 => ?_⟩
  refine ⟨(H', F', l), F', none :: none :: List.replicate (N.length - 2) none, ω0 ns, ⟨⟨Xt.refl xt.fh, fun b e => ?_⟩, ?_, fun i d e _ => ?_, (fun i d _ h => nomatch h), (fun i j l di dj h => nomatch h), fun i e => ?_⟩, ?_⟩
  · cases e
    exact ⟨by show H' l ≠ none; rw [e1]; simp, n1, us, e1, r1⟩
  · simp [L2.start]
    omega
  · rcases i with _ | _ | i
    · simp at e
    · simp at e
    · simp only [List.getElem?_cons_succ, List.getElem?_replicate] at e
      split at e <;> simp at e
  · cases e
    refine ⟨rfl, l, rfl, ?_⟩
    rw [List.getElem?_set_self (by simp [L2.start]; omega)]
  · obtain ⟨w', hw⟩ := math ns hl
    rw [hw]
    exact fun F2 H2 x s2 fr rx => by cases rx; exact q H2
end
end M

set_option Elab.async false
set_option linter.all false
set_option maxRecDepth 100000
set_option maxHeartbeats 4000000
namespace M
open PySem PySem.Spec PyProof.Rows L2

structure ExcT (K : PySem.W.Frag) (mg : PySem.Str → Option Value) (x : PySem.Str) : Prop where
  ex : ∃ C, mg x = some (.ref C) ∧ PySem.W.excIn K C [.type "ValueError", .type "Exception", .type "BaseException", .type "object"] "ValueError.__new__" = true ∧ PySem.W.keepIn K (.ref C) = true ∧ PySem.W.subIn K (.ref C) (.type "BaseException") = some true ∧ PySem.W.typeIn K (.ref C) = some (.type "type") ∧ PySem.W.exmOne K (.ref C) (.ref C) = some true
theorem exm_self {K : PySem.W.Frag} {S : Addr} (h1 : PySem.W.subIn K (.ref S) (.type "BaseException") = some true) (h2 : PySem.W.isClsIn K S = true) (h3 : PySem.W.typeIn K (.ref S) = some (.type "type")) (h4 : PySem.W.subIn K (.ref S) (.ref S) = some true) :
    PySem.W.exmOne K (.ref S) (.ref S) = some true := by
  have e1 : (PySem.W.subIn K (.ref S) (.type "BaseException") == some true) = true := by rw [h1] <;> rfl
  have e2 : ((PySem.W.clsIn K S).isSome && PySem.W.typeIn K (.ref S) == some (.type "type")) = true := by
    have h2' : (PySem.W.clsIn K S).isSome = true := h2
    rw [h2', h3] <;> rfl
  show (if (PySem.W.subIn K (.ref S) (.type "BaseException") == some true) = true then (if ((PySem.W.clsIn K S).isSome && PySem.W.typeIn K (.ref S) == some (.type "type")) = true then PySem.W.subIn K (.ref S) (.ref S) else none) else none) = some true
  rw [if_pos e1, if_pos e2]
  exact h4
theorem exc_mk {K : PySem.W.Frag} {h : Heap} {mg : PySem.Str → Option Value} {x : PySem.Str} {C : Addr} (G : h.Ns mainGlobals mg) (X : K.In h) (a : PySem.W.nsIn K mainGlobals x = some (some (.ref C))) (q : PySem.W.excIn K C [.type "ValueError", .type "Exception", .type "BaseException", .type "object"] "ValueError.__new__" = true) (k : PySem.W.keepIn K (.ref C) = true)
    (h1 : PySem.W.subIn K (.ref C) (.type "BaseException") = some true) (h2 : PySem.W.isClsIn K C = true) (h3 : PySem.W.typeIn K (.ref C) = some (.type "type")) (h4 : PySem.W.subIn K (.ref C) (.ref C) = some true) : ExcT K mg x := ⟨C, PySem.W.mg_of X G a, q, k, h1, h3, exm_self h1 h2 h3 h4⟩
theorem def_mk {K : PySem.W.Frag} {h : Heap} {mg : PySem.Str → Option Value} {x : PySem.Str} {st : Stmt} {ps : List PySem.Str} {f : Addr} {oc : Value} {od an : Option Addr} {osl : Array (Option Value)} {kV doc pm cdv ct : Value} (G : h.Ns mainGlobals mg) (X : K.In h)
    (hb : ∀ (kV doc pm : Value) (an : Option Addr) (cdv ct : Value) (us : List Value), us.length = ps.length → bindArgs (PySem.W.fnOf x x (defArgs st) (defBody st) (defScope st) .none kV doc pm an cdv ct) ⟨us, []⟩ = pure (ps.zip us))
    (a : PySem.W.nsIn K mainGlobals x = some (some (.ref f))) (l : K.lookup f = some ⟨oc, od, .func (PySem.W.fnOf x x (defArgs st) (defBody st) (defScope st) .none kV doc pm an cdv ct), osl⟩) (c : PySem.W.codeIn K cdv x = true) (k : PySem.W.keepIn K (.ref f) = true) : Def K mg x st ps :=
  ⟨f, _, fun_mk l c k, (fun_mk l c k).binds hb, PySem.W.mg_of X G a⟩
/-- a whole number of the module -/
def CInt (mg : PySem.Str → Option Value) (x : PySem.Str) (i : Int) : Prop := ∃ t, mg x = some (.int i t)
theorem cint_mk {K : PySem.W.Frag} {h : Heap} {mg : PySem.Str → Option Value} {x : PySem.Str} {i : Int} {t : Tok} (G : h.Ns mainGlobals mg) (X : K.In h) (a : PySem.W.nsIn K mainGlobals x = some (some (.int i t))) : CInt mg x i := ⟨t, PySem.W.mg_of X G a⟩
/-- a tuple of whole numbers of the module -/
def CTup (K : PySem.W.Frag) (mg : PySem.Str → Option Value) (x : PySem.Str) (ns : List Int) : Prop := ∃ a, mg x = some (.ref a) ∧ ∀ F, SqT K F a (ns.map V.int)
section
variable {c : CM} {W : WX} {m mn mb mc : Md} {X : Cx} {e : Expr} {pos p p1 p2 p3 : Pos} {st : Stmt} {sts : List Stmt}
theorem e_cint {x : PySem.Str} {i : Int} (h : CInt X.mg x i) (hg : Gl X x) (hd : (x == ("__debug__" : PySem.Str)) = false := by decide) : E c W m X (.Name x pos) (eC (.int i)) := by
  obtain ⟨t, h⟩ := h
  exact e_c (pe_glob (v := .int i) hg h ⟨t, rfl⟩ hd) fun _ => .int i
theorem e_ctup {x : PySem.Str} {ns : List Int} (hk : X.K = c.K) (h : CTup X.K X.mg x ns) (hg : Gl X x) (hd : (x == ("__debug__" : PySem.Str)) = false := by decide) : E c W m X (.Name x pos) (eC (.tuple (ns.map .int))) := by
  obtain ⟨a, h, hs⟩ := h
  exact e_c (pe_glob (v := .ref a) hg h rfl hd) fun F => .tup (by rw [← hk]; exact hs F) (RpL.of_ints ns)
theorem s_raiseT {x mm : PySem.Str} {j : Nat} (T : ExcT X.K X.mg x) (hk : X.K = c.K) (hmg : X.mg = c.mg) (hc : X.calm = true) (tk : Takes X W) (hg : Gl X x)
    (hdb : (x == ("__debug__" : PySem.Str)) = false := by decide) : PS X (.Raise (some (.Call (.Name x p) [.Constant (.str mm) j p2] [] p3)) none pos) (TSD c W m mn mb mc (sRaise ⟨x, none⟩)) := by
  obtain ⟨C, g, q, k, h1, h2, h3⟩ := T.ex
  exact s_raise hk hmg hc tk PySem.F.excBase_ValueError q g k (raises_own h1 h2) hg hdb

/-! ### try: the body stores nothing -/
def PostX (c : CM) (W : WX) (m mb mc : Md) (F H : Hp) (σ : L2.St) (D' : Ends) : Res Fl → Prop
  | .exc e ω => ∀ F' H' cls dd, Xt c.b F H F' H' → BorOk c F' ω H' → RepX c e cls dd H' → W cls dd σ H'
  | r => PostS c W m mb mc F D' r
def GX (c : CM) (W : WX) (m mb mc : Md) (σ : L2.St) (D' : Ends) (F H : Hp) (r : Res Fl) : Prop := PostX c W m mb mc F H σ D' r
theorem GX.pg {σ : L2.St} {D' : Ends} : PGd c W σ (GX c W m mb mc σ D') where
  bad := fun _ _ h => h
  exc := fun F H e ω h => h
  mono := fun F H F1 H1 r x h => by
    cases r with
    | bad => exact h
    | exc e ω => exact fun F' H' cls dd y bo r => h F' H' cls dd (x.trans y) bo r
    | ok f ω => exact PostS.mono (r := .ok f ω) x.ff h
def TSX (c : CM) (W : WX) (m mb mc : Md) (d : Ev → MM Fl) : TS := fun D' σ H => ∃ F ρ ω, SR c m F ρ ω σ H ∧ PostX c W m mb mc F H σ D' (d ρ ω)
theorem xs_ret {d : Ev → MM D} (h : E c W m X e d) : PSs X [.Return (some e) pos] (TSX c W m mb mc (sRet d)) := PSsimp (pss_one (ps_ret h)) fun D' σ H ⟨F, ρ, ω, S, q⟩ =>
  ⟨F, ρ, ω, S, bindT S (GX.pg (D' := D')) (k := fun v w => .ok (.ret v) w) (show GX c W m mb mc σ D' F H _ from q) fun a F1 H1 w1 x1 S1 q1 x r1 => q1 F1 H1 x (Same.refl _) S1.fr r1⟩
theorem xs_expr {d : Ev → MM D} (h : E c W m X e d) (hs : swapsWith e none pos.line X.env = pure false := by rfl) : PSs X [.Expr e pos] (TSX c W m mb mc (sExpr d)) := PSsimp (pss_one (ps_expr h hs)) fun D' σ H ⟨F, ρ, ω, S, q⟩ =>
  ⟨F, ρ, ω, S, bindT S (GX.pg (D' := D')) (k := fun v w => .ok (.next ρ) w) (show GX c W m mb mc σ D' F H _ from q) fun a F1 H1 w1 x1 S1 q1 x r1 => q1 F1 σ H1 (Same.refl _) S1⟩
theorem xs_exprC {d : Ev → MM D} {d2 : Ev → MM Fl} (h : E c W m X e d) (h2 : PSs X sts (TSX c W m mb mc d2)) (hs : swapsWith e none pos.line X.env = pure false := by rfl) : PSs X (.Expr e pos :: sts) (TSX c W m mb mc (sSeq (sExpr d) d2)) := PSsimp (pss_cons (ps_expr h hs) h2) fun D' σ H ⟨F, ρ, ω, S, q⟩ => by
  refine ⟨F, ρ, ω, S, ?_⟩
  unfold sSeq sExpr at q
  have q' : GX c W m mb mc σ D' F H ((d ρ ω).bind fun _ w => d2 ρ w) := by
    cases hd : d ρ ω with
    | _ => simpa [GX, hd] using q
  exact bindT S GX.pg q' fun a F1 H1 w1 x1 S1 q1 x r1 => ⟨F1, ρ, w1, S1, q1⟩
theorem xs_if {t : Expr} {p4 : Pos} {dt : Ev → MM Bool} {d : Ev → MM D} {d2 : Ev → MM Fl} (ht : B c W m X t dt) (h : E c W m X e d) (h2 : PSs X sts (TSX c W m mb mc d2)) : PSs X (.If t [.Return (some e) p4] [] pos :: sts) (TSX c W m mb mc (sSeq (sIf dt (sRet d) sNext) d2)) := PSsimp (pss_cons (ps_if ht (pss_one (ps_ret h)) pss_nil) h2) fun D' σ H ⟨F, ρ, ω, S, q⟩ => by
  refine ⟨F, ρ, ω, S, ?_⟩
  unfold sSeq sIf sRet sNext at q
  have q' : GX c W m mb mc σ D' F H ((dt ρ ω).bind fun b w => match b with
      | true => (d ρ w).bind fun v w => .ok (.ret v) w
      | false => d2 ρ w) := by
    cases hd : dt ρ ω with
    | ok b w => cases b with
      | true => cases hd2 : d ρ w <;> simpa [GX, hd, hd2] using q
      | false => simpa [GX, hd] using q
    | _ => simpa [GX, hd] using q
  refine bindT S GX.pg q' fun b F1 H1 w1 x1 S1 q1 => ?_
  cases b with
  | true => exact iteT ⟨F1, ρ, w1, S1, bindT S1 GX.pg q1 fun a F2 H2 w2 x2 S2 q2 x r2 => q2 F2 H2 x (Same.refl _) S2.fr r2⟩
  | false => exact iteF ⟨F1, ρ, w1, S1, q1⟩
def sTry (x : PySem.Str) (db ds : Ev → MM Fl) : Ev → MM Fl := fun ρ ω => match db ρ ω with
  | .exc e w => if e.name = x then noX (ds ρ w) else .bad
  | r => r
theorem s_try {x : PySem.Str} {body suite : List Stmt} {b0 : Stmt} {np pos' : Pos} {db ds : Ev → MM Fl} (T : ExcT X.K X.mg x) (hk : X.K = c.K) (hmg : X.mg = c.mg) (hs : X.stack = X.env :: X.outer) (hf : X.env.frame = some X.env.locals) (hg : Gl X x)
    (hb : ∀ (W : WX) (pn : List (Addr × Obj)) (xe : Value → Shared → Prop), Takes (X.tr pn xe) W → PSs (X.tr pn xe) body (TSX c W m mb mc db))
    (hsu : ∀ (a : Addr) (oe : Obj) (pn : List (Addr × Obj)), PSs (X.suite a ((a, oe) :: pn)) (b0 :: suite) (TSD c W0 m m mb mc ds)) (tk : Takes X (fun _ _ _ _ => False)) (hdb : (x == ("__debug__" : PySem.Str)) = false := by decide) :
    PS X (.Try body [.ExceptHandler (some (.Name x np)) none (b0 :: suite) pos'] [] [] pos) (TSD c W m m mb mc (sTry x db ds)) := by
  obtain ⟨C, g, q, k, h1, h2, h3⟩ := T.ex
  refine PSimp (ps_try_only (c := .ref C) (tb := fun W => TSX c W m mb mc db) (ts := fun _ _ _ => TSD c W0 m m mb mc ds) (Wout := fun _ _ _ _ => False) hs hf ⟨hg, hdb, .inl g⟩ tk (fun W pn xe tk _ => hb W pn xe tk) (fun a oe cls d pn _ _ => hsu a oe pn)) fun D' σ H ⟨F, ρ, ω, S, q⟩ => ?_
  refine ⟨F, ρ, ω, S, ?_⟩
  unfold sTry at q
  cases hd : db ρ ω with
  | bad => rw [hd] at q; exact q
  | ok f w =>
    rw [hd] at q
    cases f with
    | next _ => exact q
    | ret _ => exact q
    | brk _ => exact q
    | cont _ => exact q
  | exc e w =>
    rw [hd] at q
    simp only at q
    split at q
    · rename_i en
      intro F' H' cls dd xt bo rx
      obtain ⟨C', g', hcls, _⟩ := rx
      rw [en, ← hmg, g] at g'
      cases g'
      subst hcls
      refine ⟨true, h3, fun _ a _ => ⟨F', ρ, w, S.step xt bo, ?_⟩, fun z => by cases z⟩
      have q' := q.mono xt.ff
      cases hd2 : ds ρ w with
      | bad => rw [hd2] at q'; exact q'
      | ok f w => rw [hd2] at q'; cases f <;> exact q'
      | exc e2 w => rw [hd2] at q'; exact q'.elim
    · exact q.elim
end
end M

set_option Elab.async false
set_option linter.all false
set_option maxRecDepth 100000
set_option maxHeartbeats 4000000
namespace L2
open PySem PySem.Spec PyProof.Rows
section
variable {P : Program} {w : World} {A : Around} {E : Value → Shared → Prop} {s : Shared}
abbrev oSet0 (w : World) : Obj := { cls := .type "set", dict := none, data := .set #[] 0 (.fresh 0 0 (!w.params.followText "set-order")) }
theorem call_set_lstI {l : Addr} {items : Array Value} (ns : List Int) {Q : Value → Shared → Prop} (hh : A.handled = none) (hl : s.heap.IsList l items) (hit : IntsAre items.toList ns) (hb : ns.length + 1 < scanBound)
    (h : ∀ (h' : Heap) (tk c : Nat), SetR w h' s.heap.objs.size (fun j => decide (j ∈ ns)) c → c ≤ ns.length → (∀ b o, s.heap.get? b = some o → h'.get? b = some o) → Q (.ref s.heap.objs.size) { s with heap := h', toks := tk }) :
    wpAny (model P w) A (call (.type "set") [.ref l]) Q E s := by
  have hisz : items.size = ns.length := by
    have q := IntsAre.length hit
    rw [Array.length_toList] at q
    exact q
  obtain ⟨c, tl, hmro⟩ := F.called_set.mro
  have hmade := F.called_set.made
  have hsub := F.called_set.sub
  refine wpAny_call (codeAny_of_tree ?_)
  show wpAny _ _ (callAny (.type "set") _) _ _ _
  refine wpAny_pure ⟨Code.quiet_builtin _ (by decide +kernel), codeAny_builtin F.entry_type_call ?_⟩
  rw [Around.under_plain (weight_type_call_type "set" [.ref l] []) rfl]
  have h1 := F.called_set.notType
  have h2 := F.called_set.canCreate
  have hct := F.typeCall_set_1 (.ref l)
  repeat (any_goals (first | assumption | wp_step))
  refine codeAny_mono (code_set_led1 (.ref l) (E := E) (Q₁ := fun obj s₁ => obj = .ref s.heap.objs.size ∧ s₁ = { s with heap := s.heap.push (oSet0 w) }) ⟨rfl, rfl⟩) fun r s₁ hr => ?_
  cases r with
  | error e => exact hr
  | ok fl =>
    cases fl with
    | ret obj =>
      obtain ⟨rfl, rfl⟩ := hr
      have hS : (s.heap.push (oSet0 w)).get? s.heap.objs.size = some (oSet0 w) := Heap.get?_push_size _ rfl
      have hT : Shared.TypeIs { s with heap := s.heap.push (oSet0 w) } (.ref s.heap.objs.size) "set" := ⟨_, hS, rfl⟩
      have hli := F.called_set.init.lookup
      have hbi := F.called_set.init.bind (.ref s.heap.objs.size)
      repeat (any_goals (first | assumption | wp_step))
      refine codeAny_mono (codeAny_call_builtin (R := wants (fun r s₂ => r = .none ∧ ∃ h' tk c, s₂ = { s with heap := h', toks := tk } ∧ SetR w h' s.heap.objs.size (fun j => decide (j ∈ ns)) c ∧ c ≤ ns.length ∧
          (∀ b o, s.heap.get? b = some o → h'.get? b = some o)) E) F.called_set.init.plain F.entry_set_init (check_set_init_1 hT ?_)) fun r₂ s₂ hr₂ => ?_
      · obtain ⟨ol, hol, hcl, nl, hdl⟩ := hl
        obtain ⟨ocls, odict, odata, oslots⟩ := ol
        simp only at hcl hdl
        subst hcl; subst hdl
        have hol' : (s.heap.push (oSet0 w)).get? l = some { cls := .type "list", dict := odict, data := .seq items nl, slots := oslots } := Heap.get?_push_of_some _ hol
        have hsls := F.sub_list_set
        have hslf := F.sub_list_frozenset
        have hne : (Value.type "list" == Value.type "dict") = false := by decide
        have hl1 : (s.heap.push (oSet0 w)).IsList l items := ⟨_, hol', rfl, nl, rfl⟩
        unfold Builtin.«set.__init__» noKeywords Builtin.Frozenset.updateFrom
        generalize hPI : pyIter = PI
        wp_walk
        subst hPI
        refine wpAny_pyIter_list hl1 ?_
        refine wpAny_bind (wpAny_runValue ?_)
        have hlS : l < s.heap.objs.size := Heap.lt_size hol
        have hh3 : A.in1.in1.in1.handled = none := by simp [hh]
        have hneI : l ≠ (s.heap.push (oSet0 w)).objs.size := by
          rw [Heap.size_push]; exact Nat.ne_of_lt (Nat.lt_succ_of_lt hlS)
        have hSf : s.heap.objs.size ∉ [(s.heap.push (oSet0 w)).objs.size, l] := by
          rw [Heap.size_push]; simp only [List.mem_cons, List.mem_singleton, List.not_mem_nil, or_false, not_or]
          exact ⟨Nat.ne_of_lt (Nat.lt_succ_self _), Nat.ne_of_gt hlS⟩
        have hval : ∀ (i : Nat) (v : Value), items[i]? = some v → ∃ k t, ns[i]? = some k ∧ v = .int k t := fun i v hv => by
          have hi : i < ns.length := by rw [← hisz]; exact (Array.getElem?_eq_some_iff.mp hv).1
          obtain ⟨t, e⟩ := PyProof.Rows.IntsAre.int_at hit i v (by rw [Array.getElem?_toList]; exact hv)
          refine ⟨ns[i], t, List.getElem?_eq_getElem hi, ?_⟩
          rw [e, List.getD_eq_getElem?_getD, List.getElem?_eq_getElem hi] <;> rfl
        refine set_update_ints ((Walks.list hh3 _ l hneI items).toS) s.heap.objs.size
          hSf ns hisz hb hval (items.size - 0) 0 _ (by omega) (Nat.zero_le _)
          ⟨⟨_, Heap.get?_push_size _ rfl, rfl, rfl⟩, (hl1.push _)⟩ ?hS0 ?hR
        case hS0 =>
          have hget : ((s.heap.push (oSet0 w)).push { cls := .type "list_iterator", data := .fields #[.ref l, .int 0 0] }).get? s.heap.objs.size = some (oSet0 w) := Heap.get?_push_of_some _ hS
          exact ⟨0, Nat.le_refl 0, setR_new_at hget⟩
        case hR =>
          intro s' c' hm hc' hS'
          obtain ⟨h', g2, d', tk', os'⟩ := s'
          have eg : g2 = s.gens := hm.gens
          have ed : d' = s.drawn := hm.drawn
          have eo : os' = s.os := hm.os
          subst eg; subst ed; subst eo
          show wpAny _ _ _ _ _ _
          refine wpAny_pure ?_
          show wpAny _ _ (ret Value.none) _ _ _
          rw [hisz] at hc'
          refine wpAny_pure ⟨rfl, h', tk', c', rfl, hS', hc', fun b o e => ?_⟩
          have hb0 : b < s.heap.objs.size := Heap.lt_size e
          have hb1 : b ≠ s.heap.objs.size := Nat.ne_of_lt hb0
          have hb2 : b ≠ (s.heap.push (oSet0 w)).objs.size := by
            rw [Heap.size_push]; exact Nat.ne_of_lt (Nat.lt_succ_of_lt hb0)
          exact hm.heap b o (by simp only [List.mem_cons, List.mem_singleton, List.not_mem_nil, or_false, not_or]; exact ⟨hb1, hb2⟩) (Heap.get?_push_of_some _ (Heap.get?_push_of_some _ e))
      · cases r₂ with
        | error e => exact hr₂
        | ok fl₂ =>
          cases fl₂ with
          | ret r =>
            obtain ⟨rfl, h', tk, c', rfl, hS', hc', hk'⟩ := hr₂
            repeat (any_goals (first | assumption | wp_step))
            exact h _ _ _ hS' hc' hk'
          | _ => exact hr₂.elim
    | _ => exact hr.elim
end
/-- sorted(s), a set of any size -/
theorem sorted_setG {P : Program} {w : World} {A : Around} {E : Value → Shared → Prop} {s : Shared} {a : Addr} {S : Int → Bool} {n : Nat} {Q : Value → Shared → Prop} (R : SetR w s.heap a S n) (hh : A.handled = none)
    (hQ : ∀ s' p (out : Array Value) (c : Nat) (ns : List Int), (∀ b o, s.heap.get? b = some o → s'.heap.get? b = some o) → s'.gens = s.gens → s'.os = s.os → s.heap.objs.size ≤ p →
      s'.heap.get? p = some (seqObj "list" out c) → IntsAre out.toList ns → ns.Pairwise (· < ·) → (∀ k, k ∈ ns ↔ S k = true) → ns.length = n → Q (.ref p) s') :
    wpAny (model P w) A (call (.builtin "sorted") [.ref a]) Q E s := by
  obtain ⟨o, es, ep, t, ho, hex, hd, g, nd, hm, hb, hf, hn, hr, hl⟩ := R
  refine Calls.call_function_entry kind_sorted plain_sorted entry_sorted (args_sorted1 _) ?_
  unfold Builtin.«sorted»
  refine wpAny_bind (m := checkCount "sorted" 1 1 _) (wpAny_pure ?_)
  refine wpAny_bind (collect_set (A := A.in1) hh ⟨o, ho, hex.1, hd⟩ hf hb hr hl fun s1 vs k1 hz g1 o1 pm => ?_)
  have hvl : vs.length = n := by rw [pm.length_eq, List.length_map, Array.length_toList]; exact hn
  have hI : IntsAre vs (vs.map Builtin.Re.reRawOf) := ints_of vs fun v hv => by
    obtain ⟨e, he, q⟩ := List.mem_map.mp (pm.mem_iff.mp hv)
    obtain ⟨k, tk, h1, _⟩ := g e he
    exact ⟨k, tk, by rw [← q]; exact h1⟩
  have pk : (vs.map Builtin.Re.reRawOf).Perm (es.toList.map keyOf) := by
    have q := pm.map Builtin.Re.reRawOf
    rw [List.map_map] at q
    exact q
  have hsz : vs.length ≤ sizeLine := by rw [hvl, ← hn]; exact fits_of_scanBound hb
  refine wpAny_bind (wpAny_newList ?_ hsz)
  have hoL : (s1.heap.push (seqObj "list" vs.toArray 0)).get? s1.heap.objs.size = some (seqObj "list" vs.toArray 0) := Heap.get?_push_size _ rfl
  refine wpAny_bind (wpAny_holding (wpAny_call_entry slot_list_sort ⟨_, hoL, rfl⟩ entry_list_sort (SrtO.list_sort_ord SrtO.swo_int hoL hsz (fun h2 => SrtO.ints_sortable hI h2) fun out hs hst => ⟨_, rfl, ?_⟩) (args_list_sort _)))
  obtain ⟨b1, b2, b3⟩ := SrtO.ints_out hI hs hst
  obtain ⟨c, hc⟩ := sortedHeap_at (vs := vs) (out := out.toArray) hoL
  have pn : (out.map SrtO.iv).Perm (es.toList.map keyOf) := b2.trans pk
  refine wpAny_pure ⟨_, rfl, hQ _ s1.heap.objs.size out.toArray c _ (fun b u e => ?_) g1 o1 hz hc b1 (lt_of_le_nodup _ b3 (pn.nodup_iff.mpr nd)) (fun k => by rw [pn.mem_iff, ← hm k]) ?_⟩
  · have q := k1 b u e
    have hlt := Heap.lt_size q
    show (sortedHeap (s1.heap.push (seqObj "list" vs.toArray 0)) s1.heap.objs.size vs out.toArray).get? b = some u
    rw [sortedHeap_old (Nat.ne_of_lt hlt) (by rw [size_push']; exact Nat.lt_succ_of_lt hlt)]
    exact Heap.get?_push_of_some _ q
  · rw [pn.length_eq, List.length_map, Array.length_toList]; exact hn
end L2
namespace M
open PySem PySem.Spec PyProof.Rows L2
/-! ### sorted(set(xs)), len(set(xs)) of ints -/
def insU (x : Int) : List Int → List Int
  | [] => [x]
  | y :: r => if x < y then x :: y :: r else if x = y then y :: r else y :: insU x r
def sortU : List Int → List Int
  | [] => []
  | x :: r => insU x (sortU r)
theorem mem_insU (x k : Int) : ∀ l, k ∈ insU x l ↔ k = x ∨ k ∈ l
  | [] => by simp [insU]
  | y :: r => by
    unfold insU
    split
    · simp
    · split
      · rename_i h; subst h; simp
      · simp only [List.mem_cons, mem_insU x k r]
        constructor
        · rintro (h | h | h) <;> simp [h]
        · rintro (h | h | h) <;> simp [h]
theorem mem_sortU (k : Int) : ∀ l, k ∈ sortU l ↔ k ∈ l
  | [] => by simp [sortU]
  | x :: r => by simp [sortU, mem_insU, mem_sortU k r]
theorem insU_lt (x : Int) : ∀ {l : List Int}, l.Pairwise (· < ·) → (insU x l).Pairwise (· < ·)
  | [], _ => by simp [insU]
  | y :: r, h => by
    unfold insU
    rw [List.pairwise_cons] at h
    split
    · rename_i hxy
      refine List.pairwise_cons.mpr ⟨fun z hz => ?_, List.pairwise_cons.mpr h⟩
      rcases List.mem_cons.mp hz with rfl | hz
      · exact hxy
      · exact Int.lt_trans hxy (h.1 z hz)
    · split
      · exact List.pairwise_cons.mpr h
      · refine List.pairwise_cons.mpr ⟨fun z hz => ?_, insU_lt x h.2⟩
        rcases (mem_insU x z r).mp hz with rfl | hz
        · omega
        · exact h.1 z hz
theorem sortU_lt : ∀ l, (sortU l).Pairwise (· < ·)
  | [] => .nil
  | x :: r => insU_lt x (sortU_lt r)
theorem lt_ext : ∀ {l l' : List Int}, l.Pairwise (· < ·) → l'.Pairwise (· < ·) → (∀ k, k ∈ l ↔ k ∈ l') → l = l'
  | [], [], _, _, _ => rfl
  | [], y :: r, _, _, h => absurd ((h y).mpr (by simp)) (by simp)
  | x :: r, [], _, _, h => absurd ((h x).mp (by simp)) (by simp)
  | x :: r, y :: t, h1, h2, h => by
    rw [List.pairwise_cons] at h1 h2
    have e : x = y := by
      have a := (h x).mp (by simp)
      have b := (h y).mpr (by simp)
      rcases List.mem_cons.mp a with a | a
      · exact a
      · rcases List.mem_cons.mp b with b | b
        · exact b.symm
        · have := h1.1 y b; have := h2.1 x a; omega
    subst e
    refine congrArg _ (lt_ext h1.2 h2.2 fun k => ?_)
    have hk := h k
    constructor
    · intro m
      rcases List.mem_cons.mp (hk.mp (by simp [m])) with z | z
      · subst z; have := h1.1 k m; omega
      · exact z
    · intro m
      rcases List.mem_cons.mp (hk.mpr (by simp [m])) with z | z
      · subst z; have := h2.1 k m; omega
      · exact z
def setOk (n : Nat) : Prop := n + 1 < scanBound
instance (n : Nat) : Decidable (setOk n) := by unfold setOk; infer_instance
def fSortSet : List D → Option D
  | [.list xs] => (intsOf xs).bind fun ns => if setOk ns.length then some (.list ((sortU ns).map .int)) else none
  | _ => none
def fLenSet : List D → Option D
  | [.list xs] => (intsOf xs).bind fun ns => if setOk ns.length then some (.int (sortU ns).length) else none
  | _ => none
def rSetL (w : World) (K : PySem.W.Frag) : List V → Hp → VK → Prop := fun vs H Q => ∃ (a : Addr) (ns : List Int), vs = [V.ref a] ∧ SqL K H a (ns.map V.int) ∧ setOk ns.length ∧ ∀ p c, H p = none → Q (.ref p) (upd H p (SetO w p (fun j => decide (j ∈ ns)) c))
theorem cr_setL {X : Cx} (hc : X.calm = true) : CallR X (.type "set") (rSetL X.w X.K) := by
  intro pins s σ H vs us Q I r h
  obtain ⟨a, ns, rfl, hs, hz, q⟩ := h
  obtain ⟨its, rv, hl, _⟩ := I.list hs
  rw [Vals.ref1 r]
  have hi : IntsAre its.toArray.toList ns := rv.ints
  refine call_set_lstI ns (I.ok.hd hc) hl.isList hi hz fun h' tk c R hcn k => ?_
  have hn := I.hok.fresh (Nat.le_refl s.heap.objs.size)
  exact ⟨.ref _, _, I.laid (t' := tk) k (Nat.le_refl _) (setO_new R), rfl, q _ c hn⟩
def rSortedSetG (w : World) : List V → Hp → VK → Prop := fun vs H Q => ∃ (a : Addr) (S : Int → Bool) (n : Nat), vs = [V.ref a] ∧ H a = some (SetO w a S n) ∧
  ∀ (ns : List Int) (p : Addr), ns.Pairwise (· < ·) → (∀ k : Int, k ∈ ns ↔ S k = true) → H p = none → Q (.ref p) (upd H p (.lst (ns.map V.int)))
theorem cr_sortedSetG {X : Cx} (hc : X.calm = true) : CallR X (.builtin "sorted") (rSortedSetG X.w) := by
  intro pins s σ H vs us Q I r h
  obtain ⟨a, S, n, rfl, ha, q⟩ := h
  have R := setO_get I ha
  rw [Vals.ref1 r]
  have hnb : n ≤ sizeLine := by
    obtain ⟨o, es, ep, t, ho, hex, hd, g, nd, hm, hb, hf, hn, hr, hl⟩ := R
    rw [← hn]; exact fits_of_scanBound hb
  refine sorted_setG R (I.ok.hd hc) fun s' p out c ns k g o hp hg hi hs hm hl => ?_
  have hlen : (ns.map V.int).length ≤ sizeLine := by rw [List.length_map, hl]; exact hnb
  have hn : H p = none := I.hok.fresh hp
  have J : Inv X pins σ (upd H p (.lst (ns.map V.int))) { s with heap := s'.heap, gens := s'.gens, drawn := s'.drawn, toks := s'.toks } :=
    I.call (ch := []) (Un.laid k hp hn) (I.hok.laid k hp ⟨hlen, out.toList, c, vals_of_ints hi, hg⟩) (by rw [g]; exact I.bare) (fun _ z => nomatch z)
  have e : s' = { s with heap := s'.heap, gens := s'.gens, drawn := s'.drawn, toks := s'.toks } := by
    cases s'
    cases s
    cases o
    rfl
  rw [e]
  exact ⟨.ref p, _, J, rfl, q ns p hs hm hn⟩
section
variable {c : CM} {W : WX} {m : Md} {X : Cx} {a : Expr} {pos p p2 p3 : Pos}
theorem e_sortedSet {d : Ev → MM D} (hk : X.K = c.K) (hc : X.calm = true) (hg : Gl X "sorted") (hm : X.mg "sorted" = none) (hg2 : Gl X "set") (hm2 : X.mg "set" = none) (ha : E c W m X a d)
    (h1 : starEach [a] X.env = (false, eval a X.env) :: starEach [] X.env := by rfl)
    (h2 : starEach [.Call (.Name "set" p2) [a] [] p3] X.env = (false, eval (.Call (.Name "set" p2) [a] [] p3) X.env) :: starEach [] X.env := by rfl) :
    E c W m X (.Call (.Name "sorted" p) [.Call (.Name "set" p2) [a] [] p3] [] pos) (eArgs fSortSet (aCons d aNil)) := by
  have hs : PE X (.Call (.Name "set" p2) [a] [] p3) (tCB (rSetL X.w X.K) (tCons (TD c W m d) tNil)) := pe_callTy (cr_setL hc) hg2 hm2 boot_set (pa_cons ha pa_nil h1) (by decide) (by decide) h1 rfl
  refine PEimp (pe_callB (cr_sortedSetG hc) hg hm boot_sorted (pa_cons hs pa_nil h2) (by decide) (by decide) h2 rfl) fun σ H Q ⟨F, ρ, ω, S, q⟩ => ?_
  have q' : Post c W F H σ (fun v F' H' _ => ∀ x, Rp c.K F' x v → Q x H') ((d ρ ω).bind fun v w => ofO (fSortSet [v]) w) := by
    unfold eArgs aCons aNil at q
    cases hd : d ρ ω <;> simpa [hd] using q
  refine ⟨F, ρ, ω, S, bindT S Post.pg q' fun v F1 H1 w1 x1 S1 q1 x r1 => ?_⟩
  obtain ⟨z, e1, q3⟩ := post_ofO S1.fh S1.bo q1
  cases r1 with
  | lst g1 g2 =>
    simp only [fSortSet, Option.bind_eq_some_iff, Option.ite_none_right_eq_some, Option.some.injEq] at e1
    obtain ⟨ns, e2, e3, rfl⟩ := e1
    rw [intsOf_eq e2] at g2
    rw [g2.ints] at g1
    refine ⟨_, ns, rfl, SqL.of (S1.fh _ _ g1), e3, fun p0 c0 np => ?_⟩
    refine ⟨p0, _, c0, rfl, upd_same, fun ms p1 k1 k2 np1 => ?_⟩
    have x2 : Xt none F1 H1 F1 (upd H1 p0 (SetO X.w p0 (fun j => decide (j ∈ ns)) c0)) := Xt.alloc0 S1.fh np
    have : ms = sortU ns := lt_ext k1 (sortU_lt ns) fun k => by rw [k2 k, mem_sortU]; simp
    subst this
    exact rp_new_lst x2.fh np1 (RpL.of_ints _) fun F' H' z' xt rz => q3 F' H' (x2.trans xt) z' rz
  | _ => simp [fSortSet] at e1
end
end M

set_option Elab.async false
set_option linter.all false
set_option maxRecDepth 100000
set_option maxHeartbeats 4000000
namespace M
open PySem PySem.Spec PyProof.Rows L2
/-! ### isinstance -/
def isiT (t T : String) : Bool := t == T || (t == "bool" && T == "int")
def tyD : D → Option String
  | .none => some "NoneType"
  | .bool _ => some "bool"
  | .int _ => some "int"
  | .str _ => some "str"
  | .list _ => some "list"
  | .tuple _ => some "tuple"
  | .dict _ => none
def fIsi (T : String) (d : D) : Option D := (tyD d).map fun t => .bool (isiT t T)
theorem ty_of {K : PySem.W.Frag} {F H : Hp} (s : Same F H) : ∀ {d : D} {x : V} {t : String}, Rp K F x d → tyD d = some t → TyX K H x (.type t)
  | .none, _, _, h, e => by cases h; cases e; exact .base .non
  | .bool b, _, _, h, e => by cases h; cases e; exact .base (.bl b)
  | .int i, _, _, h, e => by cases h; cases e; exact .base (.int i)
  | .str z, _, _, h, e => by cases h; cases e; exact .base (.str z)
  | .list ds, _, _, h, e => by
    cases h with
    | lst h1 h2 => cases e; exact .base (.lst (s _ _ h1))
  | .tuple ds, _, _, h, e => by
    cases h with
    | tup h1 h2 =>
      cases e
      rcases h1 with (h | ⟨o, h⟩) | ⟨o, its, n, h, hc, _⟩
      · exact .base (.tup (s _ _ h))
      · exact .fTuple (s _ _ h)
      · exact .kTuple h hc
  | .dict _, _, _, h, e => by cases h
/-- the classes that are asked for -/
def TyOk (T : String) : Prop := ∀ t ∈ ["NoneType", "bool", "int", "str", "list", "tuple"], kitB t T = some (isiT t T)
theorem tyOk_int : TyOk "int" := by unfold TyOk; decide +kernel
theorem tyOk_bool : TyOk "bool" := by unfold TyOk; decide +kernel
theorem tyOk_str : TyOk "str" := by unfold TyOk; decide +kernel
theorem tyOk_list : TyOk "list" := by unfold TyOk; decide +kernel
theorem tyOk_tuple : TyOk "tuple" := by unfold TyOk; decide +kernel
theorem tyD_mem {d : D} {t : String} (h : tyD d = some t) : t ∈ ["NoneType", "bool", "int", "str", "list", "tuple"] := by
  cases d <;> simp [tyD] at h <;> subst h <;> simp
section
variable {c : CM} {W : WX} {m : Md} {X : Cx} {e : Expr} {pos p p2 : Pos}
theorem e_isi {y : PySem.Str} {T : String} {d : Ev → MM D} (hT : TyOk T) (hk : X.K = c.K) (hg : Gl X "isinstance") (hm : X.mg "isinstance" = none) (hg2 : Gl X y) (hm2 : X.mg y = none) (hv2 : bootBuiltins y = some (.type T)) (h : E c W m X e d)
    (hn : y ≠ "__name__" := by decide) (hd : (y == ("__debug__" : PySem.Str)) = false := by decide)
    (hs1 : starEach [e, .Name y p2] X.env = (false, eval e X.env) :: starEach [.Name y p2] X.env := by rfl) (hs2 : starEach [.Name y p2] X.env = (false, eval (.Name y p2) X.env) :: starEach [] X.env := by rfl)
    (hpl : (backTo pos (starEach [.Name y p2] X.env)).any (·.1) = false := by rfl) : E c W m X (.Call (.Name "isinstance" p) [e, .Name y p2] [] pos) (eUn (fIsi T) d) :=
  PEimp (pe_callB call_isi hg hm boot_isinstance (pa_cons h (pa_cons (pe_bltn hg2 hm2 hv2 (v := .ty T) rfl hn hd) pa_nil hs2) hs1) (by decide) (by decide) hs1 hpl) fun σ H Q ⟨F, ρ, ω, S, q⟩ =>
    ⟨F, ρ, ω, S, bindT S Post.pg q fun a F1 H1 w1 x1 S1 q1 v r => by
      obtain ⟨z, e1, q3⟩ := post_ofO S1.fh S1.bo q1
      show rIsi X.K [v, .ty T] H1 Q
      unfold fIsi at e1
      cases ht : tyD a with
      | none => rw [ht] at e1; exact nomatch e1
      | some t =>
        rw [ht] at e1
        cases e1
        refine ⟨v, .ty T, .type t, .type T, _, rfl, .ty T, ?_, kit_ty (hT t (tyD_mem ht)), q3 _ _ (Xt.refl S1.fh) _ (.bl _)⟩
        exact ty_of S1.fh (by rw [hk]; exact r) ht⟩
end
@[simp] theorem fIsi_none (T : String) : fIsi T .none = some (.bool (isiT "NoneType" T)) := (rfl)
@[simp] theorem fIsi_bool (T : String) (b : Bool) : fIsi T (.bool b) = some (.bool (isiT "bool" T)) := (rfl)
@[simp] theorem fIsi_int (T : String) (b : Int) : fIsi T (.int b) = some (.bool (isiT "int" T)) := (rfl)
@[simp] theorem fIsi_str (T : String) (b : PySem.Str) : fIsi T (.str b) = some (.bool (isiT "str" T)) := (rfl)
@[simp] theorem fIsi_list (T : String) (b : List D) : fIsi T (.list b) = some (.bool (isiT "list" T)) := (rfl)
@[simp] theorem fIsi_tuple (T : String) (b : List D) : fIsi T (.tuple b) = some (.bool (isiT "tuple" T)) := (rfl)
/-! ### a tuple of whole numbers of the module -/
def valsB : List Value → List Int → Bool
  | [], [] => true
  | .int i _ :: vs, n :: ns => i == n && valsB vs ns
  | _, _ => false
theorem valsB_ok : ∀ {vs : List Value} {ns : List Int}, valsB vs ns = true → Vals (ns.map V.int) vs
  | [], [], _ => .nil
  | .int i t :: vs, n :: ns, h => by
    simp only [valsB, Bool.and_eq_true, beq_iff_eq] at h
    obtain ⟨rfl, h⟩ := h
    exact .cons ⟨t, rfl⟩ (valsB_ok h)
  | [], _ :: _, h => nomatch h
  | .int _ _ :: _, [], h => nomatch h
  | .none :: _, [], h => nomatch h
  | .none :: _, _ :: _, h => nomatch h
def tupB (o : Obj) (ns : List Int) : Bool := o.cls == .type "tuple" && match o.data with
  | .seq its _ => valsB its.toList ns && decide (its.size ≤ sizeLine)
  | _ => false
theorem ctup_mk {K : PySem.W.Frag} {h : Heap} {mg : PySem.Str → Option Value} {x : PySem.Str} {ns : List Int} {a : Addr} {o : Obj} (G : h.Ns mainGlobals mg) (X : K.In h) (h1 : PySem.W.nsIn K mainGlobals x = some (some (.ref a))) (h2 : K.lookup a = some o) (h3 : tupB o ns = true) : CTup K mg x ns := by
  refine ⟨a, PySem.W.mg_of X G h1, fun F => .inr ?_⟩
  unfold tupB at h3
  rw [Bool.and_eq_true] at h3
  obtain ⟨hc, hd⟩ := h3
  cases e : o.data with
  | seq its n =>
    rw [e] at hd
    rw [Bool.and_eq_true] at hd
    exact ⟨o, its, n, h2, by simpa using hc, e, of_decide_eq_true hd.2, valsB_ok hd.1⟩
  | _ => rw [e] at hd; exact nomatch hd
end M

set_option Elab.async false
set_option linter.all false
set_option maxRecDepth 100000
set_option maxHeartbeats 4000000
namespace M
open PySem PySem.Spec PyProof.Rows L2 PySem.W
/-! ### enumerate of a tuple -/
abbrev enumO (a : Addr) : Obj := ⟨.type "enumerate", none, .fields #[Value.none, Value.bool false, Value.ref a, rawInt 0, Value.none, Value.none], #[]⟩
theorem enum_new1 {v : Value} {o : Obj} {H : Heap → Prop} (B : Begins v o H) :
    Meets (Builtin.«enumerate.__new__» ⟨[.type "enumerate", v], []⟩) (fun _ R s => H s.heap ∧ R (.ok (.ret (.ref (s.heap.push o).objs.size))) { s with heap := (s.heap.push o).push (enumO s.heap.objs.size) }) :=
  .of_wp fun P w A R s ⟨h1, h⟩ => by
    obtain ⟨hp, g, d, tk, os⟩ := s
    have hsub := sub_enumerate
    have go : ∀ {A1 : Around} {E1 : Value → Shared → Prop} {Q1 : Value → Shared → Prop}, Q1 (.ref hp.objs.size) ⟨hp.push o, g, d, tk, os⟩ → wpAny (model P w) A1 (pyIter v) Q1 E1 ⟨hp, g, d, tk, os⟩ := fun q => B.iter _ _ _ _ _ _ h1 q
    wp_walk using go
    refine wpAny_stack_any fun st => wpAny_pure ?_
    split
    · rename_i cl _ _ _ _ _
      cases (cl == Value.type "enumerate") <;> (wp_walk using go; exact ⟨_, rfl, h⟩)
    · wp_walk using go; exact ⟨_, rfl, h⟩
theorem enum_call1 {P : Program} {w : World} {A : Around} {E : Value → Shared → Prop} {s : Shared} {v : Value} {o : Obj} {H : Heap → Prop} {Q : Value → Shared → Prop} (B : Begins v o H) (h1 : H s.heap)
    (h : ∀ h2, IsEnum h2 (s.heap.objs.size + 1) s.heap.objs.size 0 .none → h2.get? s.heap.objs.size = some o → (∀ b q, s.heap.get? b = some q → h2.get? b = some q) → Q (.ref (s.heap.objs.size + 1)) { s with heap := h2 }) :
    wpAny (model P w) A (call (.type "enumerate") [v]) Q E s := by
  have e1 : (s.heap.push o).objs.size = s.heap.objs.size + 1 := Heap.size_push _ _
  have e2 : IsEnum ((s.heap.push o).push (enumO s.heap.objs.size)) (s.heap.objs.size + 1) s.heap.objs.size 0 .none := by
    have q := Heap.get?_push_size (s.heap.push o) (o := enumO s.heap.objs.size) rfl
    rwa [e1] at q
  refine callType_new F.called_enumerate (by decide) (F.typeCall_enumerate_1 _) (F.newCall_enumerate_1 _) (fun z => F.args_object_init_2 z _) F.entry_enumerate_new (enum_new1 B) ?_
  refine ⟨h1, ?_⟩
  show _ ∧ _
  rw [e1]
  exact ⟨⟨_, e2, rfl⟩, h _ e2 (Heap.get?_push_of_some _ (Heap.get?_push_size _ B.free)) fun b q x => Heap.get?_push_of_some _ (Heap.get?_push_of_some _ x)⟩
/-- what is drawn: pairs of a place and an item of the tuple at a -/
def ItE (K : PySem.W.Frag) (a : Addr) : It :=
  ⟨fun i H => ∃ (xs : List V) (x : V), SqT K H a xs ∧ xs[i]? = some x, fun i H v H2 => ∃ T x, v = .ref T ∧ H T = none ∧ H2 = upd H T (.tup [.int (i : Nat), x]) ∧ ∀ xs, SqT K H a xs → xs[i]? = some x, fun i H => ∃ xs : List V, SqT K H a xs ∧ xs.length ≤ i⟩
theorem two_of {b e it : Addr} (h : b ∈ [e, it]) : b = e ∨ b = it := by simpa using h
theorem turnE {P : Program} {w : World} {K : PySem.W.Frag} {elts : List Expr} {kk : Nat} {tpos : Pos} (a e it : Addr) :
    Turn P w K (.Tuple elts kk tpos) (ItE K a) [e, it] e (fun i h => (∃ old, IsEnum h e it ((i : Nat) : Int) old) ∧ h.IsTupleIter it a i ∧ e ≠ it ∧ a ≠ it ∧ e ≠ a) where
  mem := by simp
  obj := fun i h st b hb => by
    obtain ⟨⟨old, he⟩, ⟨o, ho, hc, hd⟩, _⟩ := st
    rcases two_of hb with rfl | rfl
    · exact ⟨_, he, fun v q => nomatch q⟩
    · exact ⟨o, ho, fun v q => by rw [hd] at q; cases q⟩
  keep := fun i h h2 st k => let ⟨⟨old, he⟩, hi, hn⟩ := st; ⟨⟨old, k e (by simp) _ he⟩, hi.at fun o q => k it (by simp) o q, hn⟩
  item := by
    intro X hP hw hK hc i pins s σ H E I hf st hg
    cases hP; cases hw; cases hK
    obtain ⟨⟨old, he⟩, hit, hne, hai, hea⟩ := st
    obtain ⟨xs, x, hq, hx⟩ := hg
    obtain ⟨its, rv, p, hz⟩ := I.tuple hq
    obtain ⟨u, hu, ru⟩ := rv.get hx
    have e_lt : e < s.heap.objs.size := Heap.lt_size he
    have i_lt : it < s.heap.objs.size := by obtain ⟨_, q, _⟩ := hit; exact Heap.lt_size q
    have D := Draws.tuple (prog := X.prog) (w := X.w) (A := X.A.in1) (I.ok.hd hc) it a hai its.toArray
    have hi : i < its.toArray.size := by
      have := rv.length
      have h2 := (List.getElem?_eq_some_iff.1 hx).1
      simp; omega
    refine wpAny_pyNext_enum_itemD D he ⟨hit, p⟩ hi hne (by simp [hne, hea]) fun y h2 tk hy ho st2 hT hsz hk => ?_
    have hyu : y = u := by
      have : its.toArray[i]? = some u := by simpa using hu
      rw [this] at hy; cases hy; rfl
    subst hyu
    refine ⟨_, rfl, wpAny_letOwnedTupleGo_enum (s := { s with heap := h2, toks := tk + 1 }) ho fun h3 he3 sb => ?_⟩
    have hT3 : h3.get? s.heap.objs.size = some { cls := .type "tuple", data := .seq #[.int i tk, y] } := (sb.2 _ (Nat.ne_of_gt e_lt)).trans hT
    have nw : ObjOk X.prog X.w (upd H s.heap.objs.size (.tup [.int (i : Nat), x])) h3 s.heap.objs.size (.tup [.int (i : Nat), x]) :=
      ⟨by show 2 ≤ sizeLine; decide, [.int i tk, y], .cons ⟨_, rfl⟩ (.cons ru .nil), ⟨_, hT3, rfl, _, rfl⟩⟩
    have hsz3 : h3.objs.size = h2.objs.size := sb.1
    have I3 : Inv X pins σ (upd H s.heap.objs.size (.tup [.int (i : Nat), x])) { s with heap := h3, toks := tk + 1 } :=
      I.turnedNew (ch := [e, it]) (fun b q hb w => (sb.2 b (fun z => hb (by simp [z]))).trans (hk b q (fun z => hb (by simp [z])) (fun z => hb (by simp [z])) w)) hf (Nat.le_refl _) nw
    refine ⟨.ref s.heap.objs.size, _, I3, rfl, ⟨_, x, rfl, I.hok.fresh (Nat.le_refl _), rfl, fun ys hy => by rw [I.tuple_inj hy hq]; exact hx⟩, ⟨⟨y, ?_⟩, st2.1.at fun q z => (sb.2 it (Ne.symm hne)).trans z, hne, hai, hea⟩, fun b hb => ?_⟩
    · rw [show (((i + 1 : Nat)) : Int) = (i : Int) + 1 by omega]; exact he3
    · have hb2 : b < s.heap.objs.size := by rcases two_of hb with rfl | rfl <;> assumption
      rw [upd_ne (Nat.ne_of_lt hb2)]; exact (hf b hb).1
  done := by
    intro X hP hw hK hc i pins s σ H E I hf st hg
    cases hP; cases hw; cases hK
    obtain ⟨⟨old, he⟩, hit, hne, hai, hea⟩ := st
    obtain ⟨xs, hq, hx⟩ := hg
    obtain ⟨its, rv, p, hz⟩ := I.tuple hq
    obtain ⟨f0, f1, f2, f3, f4, f5⟩ := hf it (by simp)
    have hl := rv.length
    have D : Draws X.prog X.w X.A.in1 it [it, a] i (fun _ _ => False) (fun j h => j = i ∧ h.IsTupleIter it a i ∧ h.IsTuple a its.toArray) := ⟨fun _ _ st => let ⟨o, ho, _⟩ := st.2.1; ⟨o, ho⟩,
      fun _ _ _ st hk => ⟨st.1, st.2.1.at fun o e => hk it (by simp) o e, st.2.2.at fun o e => hk a (by simp) o e⟩, fun j _ _ _ hj st _ => absurd st.1 (Nat.ne_of_lt hj),
      fun s Q E st hE => wpAny_nextOf_tuple_end (I.ok.hd hc) st.2.1 st.2.2 (by simp; omega) hE⟩
    exact wpAny_pyNext_enum_endD D he ⟨rfl, hit, p⟩ fun h2 eb => ⟨rfl, I.turned (t' := s.toks) (fun b o hb e => eb b o hb e) f0 f1 f3 f4 f5⟩
  self := fun A i s Q E st h => let ⟨⟨_, he⟩, _⟩ := st; wpAny_pyIter_enum he h
def iEnumT (K : PySem.W.Frag) (ta : TA) : TI := fun σ H R => ta σ H fun vs H1 => ∃ a xs, vs = [.ref a] ∧ SqT K H1 a xs ∧ R (ItE K a) H1
theorem pi_enumT {X : Cx} {e : Expr} {ta : TA} {p pos tpos : Pos} {elts : List Expr} {kk : Nat} (hg : Gl X "enumerate") (hm : X.mg "enumerate" = none) (ha : PA X [e] ta) (hs : starEach [e] X.env = [(false, eval e X.env)] := by rfl) :
    PI X (.Tuple elts kk tpos) (.Call (.Name "enumerate" p) [e] [] pos) (iEnumT X.K ta) := by
  refine ⟨fun pins s σ H R I h => ?_⟩
  refine Call_ (ld_blt I hg hm boot_enumerate (PyProof.Rows.callWith_type1 (thn (ha.run pos pins s σ H _ I h) fun us s1 ⟨vs, H1, I1, r1, ⟨a, xs, ex, hq, q⟩⟩ => ?_) hs rfl))
  cases ex
  cases r1 with
  | cons r rr =>
    cases rr; cases r
    obtain ⟨its, rv, p2, hz⟩ := I1.tuple hq
    have a_lt : a < s1.heap.objs.size := by obtain ⟨_, z, _⟩ := p2; exact Heap.lt_size z
    refine enum_call1 (begins_tuple a its.toArray) p2 fun h2 he hit hk => wpAny_pyIter_enum he ?_
    have I2 : Inv X pins σ H1 { s1 with heap := h2 } := I1.kept (t' := s1.toks) hk
    refine ⟨s1.heap.objs.size + 1, [s1.heap.objs.size + 1, s1.heap.objs.size], _, _, H1, rfl, I2, turnE a (s1.heap.objs.size + 1) s1.heap.objs.size, ⟨⟨.none, he⟩, ⟨_, hit, rfl, rfl⟩, Nat.succ_ne_self _, Nat.ne_of_lt a_lt, Ne.symm (Nat.ne_of_lt (Nat.lt_succ_of_lt a_lt))⟩, fun b hb => ?_, q⟩
    have le : s1.heap.objs.size ≤ b := by rcases two_of hb with rfl | rfl <;> omega
    exact I1.fpOk le (I1.hok.fresh le)
theorem wk_enumT {K : PySem.W.Frag} {F : Hp} {a : Addr} {xs : List V} {ds : List D} (h : SqT K F a xs) (r : RpL K F xs ds) : Wk K F (ItE K a) (enumL 0 ds) where
  go := fun i F1 H1 hi s1 s2 => by
    rw [enumL_len] at hi
    exact ⟨xs, xs[i]'(by rw [r.length]; exact hi), sameT s2 (sameT s1 h), by simp [r.length, hi]⟩
  stop := fun F1 H1 s1 s2 => ⟨xs, sameT s2 (sameT s1 h), by rw [enumL_len, r.length]; exact Nat.le_refl _⟩
  yld := fun i d F1 H1 x H2 hd s1 s2 y => by
    obtain ⟨T, z, rfl, nT, rfl, y⟩ := y
    have q := y xs (sameT s2 (sameT s1 h))
    obtain ⟨dd, h0, rfl⟩ := enumL_get 0 ds i d hd
    obtain ⟨v, h1, h2⟩ := r.get h0
    rw [h1] at q
    cases q
    have xt : Xt none F1 H1 (upd F1 T (.tup [.int (i : Nat), z])) (upd H1 T (.tup [.int (i : Nat), z])) := Xt.alloc s2 nT
    exact ⟨_, xt, .tup (SqT.of upd_same) (.cons (by rw [Nat.zero_add]; exact .int _) (.cons ((h2.mono s1).mono xt.ff) .nil))⟩
def iEnumTF : List D → Option (List D)
  | [.tuple ds] => some (enumL 0 ds)
  | _ => none
section
variable {c : CM} {W : WX} {m : Md} {X : Cx} {e : Expr} {pos p tpos : Pos}
theorem i_enumT {elts : List Expr} {kk : Nat} {ds : Ev → MM (List D)} (hk : X.K = c.K) (hg : Gl X "enumerate") (hm : X.mg "enumerate" = none) (ha : A c W m X [e] ds) (hs : starEach [e] X.env = [(false, eval e X.env)] := by rfl) : PI X (.Tuple elts kk tpos) (.Call (.Name "enumerate" p) [e] [] pos) (TID c W m (iArgs iEnumTF ds)) :=
  PIimp (pi_enumT hg hm ha.pa hs) fun σ H R ⟨F, ρ, ω, S, q⟩ => iargs_step S q fun F1 H1 xs as l s r e1 q1 => by
    match as, e1, r with
    | [.tuple ds], e1, r =>
      obtain ⟨v, rfl, r1⟩ := r.one
      cases r1 with
      | @tup a ys _ h1 h2 =>
        simp only [iEnumTF, Option.some.injEq] at e1
        subst e1
        refine ⟨a, ys, rfl, ?_, q1 _ ?_⟩
        · rw [hk]; exact sameT s h1
        · rw [hk]; exact wk_enumT h1 h2
end
@[simp] theorem iEnumTF_t (ds : List D) : iEnumTF [.tuple ds] = some (enumL 0 ds) := (rfl)
@[simp] theorem iEnumF_l (ds : List D) : iEnumF [.list ds] = some (enumL 0 ds) := (rfl)
end M

set_option Elab.async false
set_option linter.all false
set_option maxRecDepth 100000
set_option maxHeartbeats 4000000
namespace M
open PySem PySem.Spec PyProof.Rows L2

/-! ### evaluating denotations: frames without binders -/
@[simp] theorem look_zero (o : Option D) (r : Ev) : look (o :: r) 0 = o := (rfl)
@[simp] theorem look_succ (o : Option D) (r : Ev) (n : Nat) : look (o :: r) (n + 1) = look r n := (rfl)
@[simp] theorem put_zero (o : Option D) (r : Ev) (d : D) : put (o :: r) 0 d = some d :: r := (rfl)
@[simp] theorem put_succ (o : Option D) (r : Ev) (n : Nat) (d : D) : put (o :: r) (n + 1) d = o :: put r n d := (rfl)
@[simp] theorem eVar_ap (i : Nat) (ρ : Ev) (ω : Wd) : eVar i ρ ω = ofO (look ρ i) ω := (rfl)
@[simp] theorem eC_ap (d : D) (ρ : Ev) (ω : Wd) : eC d ρ ω = .ok d ω := (rfl)
def kUn (f : D → Option D) : Res D → Res D
  | .ok a w => ofO (f a) w
  | .exc e w => .exc e w
  | .bad => .bad
@[simp] theorem eUn_ap (f : D → Option D) (d : Ev → MM D) (ρ : Ev) (ω : Wd) : eUn f d ρ ω = kUn f (d ρ ω) := by unfold eUn; cases d ρ ω <;> rfl
@[simp] theorem kUn_ok (f : D → Option D) (a : D) (w : Wd) : kUn f (.ok a w) = ofO (f a) w := (rfl)
@[simp] theorem kUn_exc (f : D → Option D) (e : Ex) (w : Wd) : kUn f (.exc e w) = .exc e w := (rfl)
def kBin2 {α : Type} (f : D → D → Option α) (a : D) : Res D → Res α
  | .ok b w => ofO (f a b) w
  | .exc e w => .exc e w
  | .bad => .bad
def kBin {α : Type} (f : D → D → Option α) (d2 : Ev → MM D) (ρ : Ev) : Res D → Res α
  | .ok a w => kBin2 f a (d2 ρ w)
  | .exc e w => .exc e w
  | .bad => .bad
@[simp] theorem kBin2_ok {α : Type} (f : D → D → Option α) (a b : D) (w : Wd) : kBin2 f a (.ok b w) = ofO (f a b) w := (rfl)
@[simp] theorem kBin2_exc {α : Type} (f : D → D → Option α) (a : D) (e : Ex) (w : Wd) : kBin2 f a (.exc e w) = .exc e w := (rfl)
@[simp] theorem kBin_ok {α : Type} (f : D → D → Option α) (d2 : Ev → MM D) (ρ : Ev) (a : D) (w : Wd) : kBin f d2 ρ (.ok a w) = kBin2 f a (d2 ρ w) := (rfl)
@[simp] theorem kBin_exc {α : Type} (f : D → D → Option α) (d2 : Ev → MM D) (ρ : Ev) (e : Ex) (w : Wd) : kBin f d2 ρ (.exc e w) = .exc e w := (rfl)
@[simp] theorem eBin_ap (f : D → D → Option D) (d1 d2 : Ev → MM D) (ρ : Ev) (ω : Wd) : eBin f d1 d2 ρ ω = kBin f d2 ρ (d1 ρ ω) := by
  unfold eBin
  cases h : d1 ρ ω with
  | ok a w => simp only [bind_ok, kBin_ok]; cases d2 ρ w <;> rfl
  | _ => rfl
@[simp] theorem bBin_ap (f : D → D → Option Bool) (d1 d2 : Ev → MM D) (ρ : Ev) (ω : Wd) : bBin f d1 d2 ρ ω = kBin f d2 ρ (d1 ρ ω) := by
  unfold bBin
  cases h : d1 ρ ω with
  | ok a w => simp only [bind_ok, kBin_ok]; cases d2 ρ w <;> rfl
  | _ => rfl
/-- chains -/
def kCh3 (g : D → D → Option Bool) (d3 : Ev → MM D) (ρ : Ev) (b : D) : Res Bool → Res Bool
  | .ok true w => kBin2 g b (d3 ρ w)
  | r => r
def kCh2 (f g : D → D → Option Bool) (d3 : Ev → MM D) (ρ : Ev) (a : D) : Res D → Res Bool
  | .ok b w => kCh3 g d3 ρ b (ofO (f a b) w)
  | .exc e w => .exc e w
  | .bad => .bad
def kCh (f g : D → D → Option Bool) (d2 d3 : Ev → MM D) (ρ : Ev) : Res D → Res Bool
  | .ok a w => kCh2 f g d3 ρ a (d2 ρ w)
  | .exc e w => .exc e w
  | .bad => .bad
@[simp] theorem kCh3_t (g : D → D → Option Bool) (d3 : Ev → MM D) (ρ : Ev) (b : D) (w : Wd) : kCh3 g d3 ρ b (.ok true w) = kBin2 g b (d3 ρ w) := (rfl)
@[simp] theorem kCh3_f (g : D → D → Option Bool) (d3 : Ev → MM D) (ρ : Ev) (b : D) (w : Wd) : kCh3 g d3 ρ b (.ok false w) = .ok false w := (rfl)
@[simp] theorem kCh2_ok (f g : D → D → Option Bool) (d3 : Ev → MM D) (ρ : Ev) (a b : D) (w : Wd) : kCh2 f g d3 ρ a (.ok b w) = kCh3 g d3 ρ b (ofO (f a b) w) := (rfl)
@[simp] theorem kCh_ok (f g : D → D → Option Bool) (d2 d3 : Ev → MM D) (ρ : Ev) (a : D) (w : Wd) : kCh f g d2 d3 ρ (.ok a w) = kCh2 f g d3 ρ a (d2 ρ w) := (rfl)
@[simp] theorem bChain_ap (f g : D → D → Option Bool) (d1 d2 d3 : Ev → MM D) (ρ : Ev) (ω : Wd) : bChain f g d1 d2 d3 ρ ω = kCh f g d2 d3 ρ (d1 ρ ω) := by
  unfold bChain
  cases h : d1 ρ ω with
  | ok a w =>
    simp only [bind_ok, kCh_ok]
    cases h2 : d2 ρ w with
    | ok b w2 =>
      simp only [bind_ok, kCh2_ok]
      cases h3 : f a b with
      | none => rfl
      | some t => cases t with
        | false => rfl
        | true => simp only [ofO_some, bind_ok, kCh3_t]; cases d3 ρ w2 <;> rfl
    | _ => rfl
  | _ => rfl
def kOfB : Res Bool → Res D
  | .ok b w => .ok (.bool b) w
  | .exc e w => .exc e w
  | .bad => .bad
@[simp] theorem kOfB_ok (b : Bool) (w : Wd) : kOfB (.ok b w) = .ok (.bool b) w := (rfl)
@[simp] theorem eOfB_ap (d : Ev → MM Bool) (ρ : Ev) (ω : Wd) : eOfB d ρ ω = kOfB (d ρ ω) := by unfold eOfB; cases d ρ ω <;> rfl
def kB (f : D → Option Bool) : Res D → Res Bool
  | .ok a w => ofO (f a) w
  | .exc e w => .exc e w
  | .bad => .bad
@[simp] theorem kB_ok (f : D → Option Bool) (a : D) (w : Wd) : kB f (.ok a w) = ofO (f a) w := (rfl)
@[simp] theorem kB_exc (f : D → Option Bool) (e : Ex) (w : Wd) : kB f (.exc e w) = .exc e w := (rfl)
@[simp] theorem bTru_ap (d : Ev → MM D) (ρ : Ev) (ω : Wd) : bTru d ρ ω = kB truth (d ρ ω) := by unfold bTru; cases d ρ ω <;> rfl
@[simp] theorem bOfE_ap (d : Ev → MM D) (ρ : Ev) (ω : Wd) : bOfE d ρ ω = kB asB (d ρ ω) := by unfold bOfE; cases d ρ ω <;> rfl
@[simp] theorem truth_bool (b : Bool) : truth (.bool b) = some b := (rfl)
@[simp] theorem truth_int (b : Int) : truth (.int b) = some (b != 0) := (rfl)
@[simp] theorem truth_none : truth .none = some false := (rfl)
@[simp] theorem truth_list (xs : List D) : truth (.list xs) = some (!xs.isEmpty) := (rfl)
@[simp] theorem truth_tuple (xs : List D) : truth (.tuple xs) = some (!xs.isEmpty) := (rfl)
@[simp] theorem asB_bool (b : Bool) : asB (.bool b) = some b := (rfl)
def kNot : Res Bool → Res Bool
  | .ok b w => .ok (!b) w
  | .exc e w => .exc e w
  | .bad => .bad
@[simp] theorem kNot_ok (b : Bool) (w : Wd) : kNot (.ok b w) = .ok (!b) w := (rfl)
@[simp] theorem bNot_ap (d : Ev → MM Bool) (ρ : Ev) (ω : Wd) : bNot d ρ ω = kNot (d ρ ω) := by unfold bNot; cases d ρ ω <;> rfl
def kAnd (d : Ev → MM Bool) (ρ : Ev) : Res Bool → Res Bool
  | .ok true w => d ρ w
  | r => r
def kOr (d : Ev → MM Bool) (ρ : Ev) : Res Bool → Res Bool
  | .ok false w => d ρ w
  | r => r
@[simp] theorem kAnd_t (d : Ev → MM Bool) (ρ : Ev) (w : Wd) : kAnd d ρ (.ok true w) = d ρ w := (rfl)
@[simp] theorem kAnd_f (d : Ev → MM Bool) (ρ : Ev) (w : Wd) : kAnd d ρ (.ok false w) = .ok false w := (rfl)
@[simp] theorem kOr_t (d : Ev → MM Bool) (ρ : Ev) (w : Wd) : kOr d ρ (.ok true w) = .ok true w := (rfl)
@[simp] theorem kOr_f (d : Ev → MM Bool) (ρ : Ev) (w : Wd) : kOr d ρ (.ok false w) = d ρ w := (rfl)
@[simp] theorem bAnd_ap (d1 d2 : Ev → MM Bool) (ρ : Ev) (ω : Wd) : bAnd d1 d2 ρ ω = kAnd d2 ρ (d1 ρ ω) := by
  unfold bAnd
  cases h : d1 ρ ω with
  | ok b w => cases b <;> rfl
  | _ => rfl
@[simp] theorem bOr_ap (d1 d2 : Ev → MM Bool) (ρ : Ev) (ω : Wd) : bOr d1 d2 ρ ω = kOr d2 ρ (d1 ρ ω) := by
  unfold bOr
  cases h : d1 ρ ω with
  | ok b w => cases b <;> rfl
  | _ => rfl
def kEAnd (d : Ev → MM D) (ρ : Ev) : Res Bool → Res D
  | .ok true w => d ρ w
  | .ok false w => .ok (.bool false) w
  | .exc e w => .exc e w
  | .bad => .bad
def kEOr (d : Ev → MM D) (ρ : Ev) : Res Bool → Res D
  | .ok false w => d ρ w
  | .ok true w => .ok (.bool true) w
  | .exc e w => .exc e w
  | .bad => .bad
@[simp] theorem kEAnd_t (d : Ev → MM D) (ρ : Ev) (w : Wd) : kEAnd d ρ (.ok true w) = d ρ w := (rfl)
@[simp] theorem kEAnd_f (d : Ev → MM D) (ρ : Ev) (w : Wd) : kEAnd d ρ (.ok false w) = .ok (.bool false) w := (rfl)
@[simp] theorem kEOr_f (d : Ev → MM D) (ρ : Ev) (w : Wd) : kEOr d ρ (.ok false w) = d ρ w := (rfl)
@[simp] theorem kEOr_t (d : Ev → MM D) (ρ : Ev) (w : Wd) : kEOr d ρ (.ok true w) = .ok (.bool true) w := (rfl)
@[simp] theorem eAnd_ap (d1 d2 : Ev → MM D) (ρ : Ev) (ω : Wd) : eAnd d1 d2 ρ ω = kEAnd d2 ρ (kB asB (d1 ρ ω)) := by
  unfold eAnd
  cases h : d1 ρ ω with
  | ok a w => simp only [bind_ok, kB_ok]; cases h2 : asB a with
    | none => rfl
    | some b => cases b <;> rfl
  | _ => rfl
@[simp] theorem eOr_ap (d1 d2 : Ev → MM D) (ρ : Ev) (ω : Wd) : eOr d1 d2 ρ ω = kEOr d2 ρ (kB asB (d1 ρ ω)) := by
  unfold eOr
  cases h : d1 ρ ω with
  | ok a w => simp only [bind_ok, kB_ok]; cases h2 : asB a with
    | none => rfl
    | some b => cases b <;> rfl
  | _ => rfl
def kEIf (d1 d2 : Ev → MM D) (ρ : Ev) : Res Bool → Res D
  | .ok true w => d1 ρ w
  | .ok false w => d2 ρ w
  | .exc e w => .exc e w
  | .bad => .bad
@[simp] theorem kEIf_t (d1 d2 : Ev → MM D) (ρ : Ev) (w : Wd) : kEIf d1 d2 ρ (.ok true w) = d1 ρ w := (rfl)
@[simp] theorem kEIf_f (d1 d2 : Ev → MM D) (ρ : Ev) (w : Wd) : kEIf d1 d2 ρ (.ok false w) = d2 ρ w := (rfl)
@[simp] theorem eIf_ap (t : Ev → MM Bool) (d1 d2 : Ev → MM D) (ρ : Ev) (ω : Wd) : eIf t d1 d2 ρ ω = kEIf d1 d2 ρ (t ρ ω) := by
  unfold eIf
  cases h : t ρ ω with
  | ok b w => cases b <;> rfl
  | _ => rfl
@[simp] theorem aNil_ap (ρ : Ev) (ω : Wd) : aNil ρ ω = .ok [] ω := (rfl)
def kCons2 (a : D) : Res (List D) → Res (List D)
  | .ok r w => .ok (a :: r) w
  | .exc e w => .exc e w
  | .bad => .bad
def kCons (ds : Ev → MM (List D)) (ρ : Ev) : Res D → Res (List D)
  | .ok a w => kCons2 a (ds ρ w)
  | .exc e w => .exc e w
  | .bad => .bad
@[simp] theorem kCons2_ok (a : D) (r : List D) (w : Wd) : kCons2 a (.ok r w) = .ok (a :: r) w := (rfl)
@[simp] theorem kCons_ok (ds : Ev → MM (List D)) (ρ : Ev) (a : D) (w : Wd) : kCons ds ρ (.ok a w) = kCons2 a (ds ρ w) := (rfl)
@[simp] theorem kCons2_exc (a : D) (e : Ex) (w : Wd) : kCons2 a (.exc e w) = .exc e w := (rfl)
@[simp] theorem kCons_exc (ds : Ev → MM (List D)) (ρ : Ev) (e : Ex) (w : Wd) : kCons ds ρ (.exc e w) = .exc e w := (rfl)
@[simp] theorem aCons_ap (d : Ev → MM D) (ds : Ev → MM (List D)) (ρ : Ev) (ω : Wd) : aCons d ds ρ ω = kCons ds ρ (d ρ ω) := by
  unfold aCons
  cases h : d ρ ω with
  | ok a w => simp only [bind_ok, kCons_ok]; cases ds ρ w <;> rfl
  | _ => rfl
def kArgs {α β : Type} (f : α → Option β) : Res α → Res β
  | .ok r w => ofO (f r) w
  | .exc e w => .exc e w
  | .bad => .bad
@[simp] theorem kArgs_ok {α β : Type} (f : α → Option β) (r : α) (w : Wd) : kArgs f (.ok r w) = ofO (f r) w := (rfl)
@[simp] theorem eArgs_ap (f : List D → Option D) (ds : Ev → MM (List D)) (ρ : Ev) (ω : Wd) : eArgs f ds ρ ω = kArgs f (ds ρ ω) := by unfold eArgs; cases ds ρ ω <;> rfl
@[simp] theorem iArgs_ap (f : List D → Option (List D)) (ds : Ev → MM (List D)) (ρ : Ev) (ω : Wd) : iArgs f ds ρ ω = kArgs f (ds ρ ω) := by unfold iArgs; cases ds ρ ω <;> rfl
@[simp] theorem eTup_ap (ds : Ev → MM (List D)) (ρ : Ev) (ω : Wd) : eTup ds ρ ω = kArgs (fun r => some (.tuple r)) (ds ρ ω) := by unfold eTup; cases ds ρ ω <;> rfl
@[simp] theorem eLst_ap (ds : Ev → MM (List D)) (ρ : Ev) (ω : Wd) : eLst ds ρ ω = kArgs (fun r => some (.list r)) (ds ρ ω) := by unfold eLst; cases ds ρ ω <;> rfl
@[simp] theorem eOfF_ap (ds : Ev → MM (List D)) (ρ : Ev) (ω : Wd) : eOfF ds ρ ω = kArgs (fun r => some (.list r)) (ds ρ ω) := by unfold eOfF; cases ds ρ ω <;> rfl
def kCall (f : List D → Res D) : Res (List D) → Res D
  | .ok r w => (f r).at w
  | .exc e w => .exc e w
  | .bad => .bad
@[simp] theorem kCall_ok (f : List D → Res D) (r : List D) (w : Wd) : kCall f (.ok r w) = (f r).at w := (rfl)
@[simp] theorem eCall_ap (f : List D → Res D) (ds : Ev → MM (List D)) (ρ : Ev) (ω : Wd) : eCall f ds ρ ω = kCall f (ds ρ ω) := by unfold eCall; cases ds ρ ω <;> rfl
def kCallS (f : List D → MM D) : Res (List D) → Res D
  | .ok r w => f r w
  | .exc e w => .exc e w
  | .bad => .bad
@[simp] theorem kCallS_ok (f : List D → MM D) (r : List D) (w : Wd) : kCallS f (.ok r w) = f r w := (rfl)
@[simp] theorem eCallS_ap (f : List D → MM D) (ds : Ev → MM (List D)) (ρ : Ev) (ω : Wd) : eCallS f ds ρ ω = kCallS f (ds ρ ω) := by unfold eCallS; cases ds ρ ω <;> rfl
def seqOf : D → Option (List D)
  | .list ds => some ds
  | .tuple ds => some ds
  | _ => none
@[simp] theorem seqOf_list (ds : List D) : seqOf (.list ds) = some ds := (rfl)
@[simp] theorem seqOf_tuple (ds : List D) : seqOf (.tuple ds) = some ds := (rfl)
@[simp] theorem iSeq_ap (d : Ev → MM D) (ρ : Ev) (ω : Wd) : iSeq d ρ ω = kArgs seqOf (d ρ ω) := by
  unfold iSeq
  cases d ρ ω with
  | ok v w => cases v <;> rfl
  | _ => rfl

/-! statements -/
@[simp] theorem sNext_ap (ρ : Ev) (ω : Wd) : sNext ρ ω = .ok (.next ρ) ω := (rfl)
@[simp] theorem sBrk_ap (ρ : Ev) (ω : Wd) : sBrk ρ ω = .ok (.brk ρ) ω := (rfl)
@[simp] theorem sCont_ap (ρ : Ev) (ω : Wd) : sCont ρ ω = .ok (.cont ρ) ω := (rfl)
@[simp] theorem sRaise_ap (e : Ex) (ρ : Ev) (ω : Wd) : sRaise e ρ ω = .exc e ω := (rfl)
def kAsg (g : D → Ev → Option Ev) (ρ : Ev) : Res D → Res Fl
  | .ok v w => (ofO (g v ρ) w).bind fun ρ' w => .ok (.next ρ') w
  | .exc e w => .exc e w
  | .bad => .bad
def kNext : Res Ev → Res Fl
  | .ok ρ w => .ok (.next ρ) w
  | .exc e w => .exc e w
  | .bad => .bad
@[simp] theorem kNext_ok (ρ : Ev) (w : Wd) : kNext (.ok ρ w) = .ok (.next ρ) w := (rfl)
@[simp] theorem kAsg_ok (g : D → Ev → Option Ev) (ρ : Ev) (v : D) (w : Wd) : kAsg g ρ (.ok v w) = kNext (ofO (g v ρ) w) := by
  show (ofO (g v ρ) w).bind _ = _
  cases g v ρ <;> rfl
@[simp] theorem kAsg_exc (g : D → Ev → Option Ev) (ρ : Ev) (e : Ex) (w : Wd) : kAsg g ρ (.exc e w) = .exc e w := (rfl)
@[simp] theorem sAsg_ap (d : Ev → MM D) (g : D → Ev → Option Ev) (ρ : Ev) (ω : Wd) : sAsg d g ρ ω = kAsg g ρ (d ρ ω) := by unfold sAsg; cases d ρ ω <;> rfl
@[simp] theorem gN_ap (i : Nat) (d : D) (ρ : Ev) : gN i d ρ = some (put ρ i d) := (rfl)
@[simp] theorem gT_ap (gs : List D → Ev → Option Ev) (ds : List D) (ρ : Ev) : gT gs (.tuple ds) ρ = gs ds ρ := (rfl)
@[simp] theorem gsNil_ap (ρ : Ev) : gsNil [] ρ = some ρ := (rfl)
def kGs (gs : List D → Ev → Option Ev) (ds : List D) : Option Ev → Option Ev
  | some ρ => gs ds ρ
  | none => none
@[simp] theorem kGs_some (gs : List D → Ev → Option Ev) (ds : List D) (ρ : Ev) : kGs gs ds (some ρ) = gs ds ρ := (rfl)
@[simp] theorem gsCons_ap (g : D → Ev → Option Ev) (gs : List D → Ev → Option Ev) (d : D) (ds : List D) (ρ : Ev) : gsCons g gs (d :: ds) ρ = kGs gs ds (g d ρ) := by
  show (g d ρ).bind (gs ds) = _
  cases g d ρ <;> rfl
def kSeq (d2 : Ev → MM Fl) : Res Fl → Res Fl
  | .ok (.next ρ) w => d2 ρ w
  | r => r
@[simp] theorem kSeq_next (d2 : Ev → MM Fl) (ρ : Ev) (w : Wd) : kSeq d2 (.ok (.next ρ) w) = d2 ρ w := (rfl)
@[simp] theorem kSeq_ret (d2 : Ev → MM Fl) (v : D) (w : Wd) : kSeq d2 (.ok (.ret v) w) = .ok (.ret v) w := (rfl)
@[simp] theorem kSeq_brk (d2 : Ev → MM Fl) (ρ : Ev) (w : Wd) : kSeq d2 (.ok (.brk ρ) w) = .ok (.brk ρ) w := (rfl)
@[simp] theorem kSeq_cont (d2 : Ev → MM Fl) (ρ : Ev) (w : Wd) : kSeq d2 (.ok (.cont ρ) w) = .ok (.cont ρ) w := (rfl)
@[simp] theorem kSeq_exc (d2 : Ev → MM Fl) (e : Ex) (w : Wd) : kSeq d2 (.exc e w) = .exc e w := (rfl)
@[simp] theorem sSeq_ap (d1 d2 : Ev → MM Fl) (ρ : Ev) (ω : Wd) : sSeq d1 d2 ρ ω = kSeq d2 (d1 ρ ω) := by
  unfold sSeq
  cases h : d1 ρ ω with
  | ok f w => cases f <;> rfl
  | _ => rfl
def kRet : Res D → Res Fl
  | .ok v w => .ok (.ret v) w
  | .exc e w => .exc e w
  | .bad => .bad
@[simp] theorem kRet_ok (v : D) (w : Wd) : kRet (.ok v w) = .ok (.ret v) w := (rfl)
@[simp] theorem kRet_exc (e : Ex) (w : Wd) : kRet (.exc e w) = .exc e w := (rfl)
@[simp] theorem sRet_ap (d : Ev → MM D) (ρ : Ev) (ω : Wd) : sRet d ρ ω = kRet (d ρ ω) := by unfold sRet; cases d ρ ω <;> rfl
def kExpr (ρ : Ev) : Res D → Res Fl
  | .ok _ w => .ok (.next ρ) w
  | .exc e w => .exc e w
  | .bad => .bad
@[simp] theorem kExpr_ok (ρ : Ev) (v : D) (w : Wd) : kExpr ρ (.ok v w) = .ok (.next ρ) w := (rfl)
@[simp] theorem kExpr_exc (ρ : Ev) (e : Ex) (w : Wd) : kExpr ρ (.exc e w) = .exc e w := (rfl)
@[simp] theorem sExpr_ap (d : Ev → MM D) (ρ : Ev) (ω : Wd) : sExpr d ρ ω = kExpr ρ (d ρ ω) := by unfold sExpr; cases d ρ ω <;> rfl
def kIf (d1 d2 : Ev → MM Fl) (ρ : Ev) : Res Bool → Res Fl
  | .ok true w => d1 ρ w
  | .ok false w => d2 ρ w
  | .exc e w => .exc e w
  | .bad => .bad
@[simp] theorem kIf_t (d1 d2 : Ev → MM Fl) (ρ : Ev) (w : Wd) : kIf d1 d2 ρ (.ok true w) = d1 ρ w := (rfl)
@[simp] theorem kIf_f (d1 d2 : Ev → MM Fl) (ρ : Ev) (w : Wd) : kIf d1 d2 ρ (.ok false w) = d2 ρ w := (rfl)
@[simp] theorem sIf_ap (t : Ev → MM Bool) (d1 d2 : Ev → MM Fl) (ρ : Ev) (ω : Wd) : sIf t d1 d2 ρ ω = kIf d1 d2 ρ (t ρ ω) := by
  unfold sIf
  cases h : t ρ ω with
  | ok b w => cases b <;> rfl
  | _ => rfl
def kPar2 (i j : Nat) (ρ : Ev) (a : D) : Res D → Res Fl
  | .ok b w => .ok (.next (put (put ρ i a) j b)) w
  | .exc e w => .exc e w
  | .bad => .bad
def kPar (i j : Nat) (d2 : Ev → MM D) (ρ : Ev) : Res D → Res Fl
  | .ok a w => kPar2 i j ρ a (d2 ρ w)
  | .exc e w => .exc e w
  | .bad => .bad
@[simp] theorem kPar2_ok (i j : Nat) (ρ : Ev) (a b : D) (w : Wd) : kPar2 i j ρ a (.ok b w) = .ok (.next (put (put ρ i a) j b)) w := (rfl)
@[simp] theorem kPar_ok (i j : Nat) (d2 : Ev → MM D) (ρ : Ev) (a : D) (w : Wd) : kPar i j d2 ρ (.ok a w) = kPar2 i j ρ a (d2 ρ w) := (rfl)
@[simp] theorem sPar_ap (i j : Nat) (d1 d2 : Ev → MM D) (ρ : Ev) (ω : Wd) : sPar i j d1 d2 ρ ω = kPar i j d2 ρ (d1 ρ ω) := by
  unfold sPar
  cases h : d1 ρ ω with
  | ok a w => simp only [bind_ok, kPar_ok]; cases d2 ρ w <;> rfl
  | _ => rfl
def kPar3c (i j k : Nat) (ρ : Ev) (a b : D) : Res D → Res Fl
  | .ok e w => .ok (.next (put (put (put ρ i a) j b) k e)) w
  | .exc e w => .exc e w
  | .bad => .bad
def kPar3b (i j k : Nat) (d3 : Ev → MM D) (ρ : Ev) (a : D) : Res D → Res Fl
  | .ok b w => kPar3c i j k ρ a b (d3 ρ w)
  | .exc e w => .exc e w
  | .bad => .bad
def kPar3 (i j k : Nat) (d2 d3 : Ev → MM D) (ρ : Ev) : Res D → Res Fl
  | .ok a w => kPar3b i j k d3 ρ a (d2 ρ w)
  | .exc e w => .exc e w
  | .bad => .bad
@[simp] theorem kPar3c_ok (i j k : Nat) (ρ : Ev) (a b e : D) (w : Wd) : kPar3c i j k ρ a b (.ok e w) = .ok (.next (put (put (put ρ i a) j b) k e)) w := (rfl)
@[simp] theorem kPar3b_ok (i j k : Nat) (d3 : Ev → MM D) (ρ : Ev) (a b : D) (w : Wd) : kPar3b i j k d3 ρ a (.ok b w) = kPar3c i j k ρ a b (d3 ρ w) := (rfl)
@[simp] theorem kPar3_ok (i j k : Nat) (d2 d3 : Ev → MM D) (ρ : Ev) (a : D) (w : Wd) : kPar3 i j k d2 d3 ρ (.ok a w) = kPar3b i j k d3 ρ a (d2 ρ w) := (rfl)
@[simp] theorem sPar3_ap (i j k : Nat) (d1 d2 d3 : Ev → MM D) (ρ : Ev) (ω : Wd) : sPar3 i j k d1 d2 d3 ρ ω = kPar3 i j k d2 d3 ρ (d1 ρ ω) := by
  unfold sPar3
  cases h : d1 ρ ω with
  | ok a w =>
    simp only [bind_ok, kPar3_ok]
    cases h2 : d2 ρ w with
    | ok b w2 => simp only [bind_ok, kPar3b_ok]; cases d3 ρ w2 <;> rfl
    | _ => rfl
  | _ => rfl
def kAug2 (i : Nat) (ρ : Ev) : Res D → Res Fl
  | .ok v w => .ok (.next (put ρ i v)) w
  | .exc e w => .exc e w
  | .bad => .bad
def kAug (i : Nat) (f : D → D → Option D) (d : Ev → MM D) (ρ : Ev) (ω : Wd) : Option D → Res Fl
  | some a => kAug2 i ρ (kBin2 f a (d ρ ω))
  | none => .bad
@[simp] theorem kAug2_ok (i : Nat) (ρ : Ev) (v : D) (w : Wd) : kAug2 i ρ (.ok v w) = .ok (.next (put ρ i v)) w := (rfl)
@[simp] theorem kAug_some (i : Nat) (f : D → D → Option D) (d : Ev → MM D) (ρ : Ev) (ω : Wd) (a : D) : kAug i f d ρ ω (some a) = kAug2 i ρ (kBin2 f a (d ρ ω)) := (rfl)
@[simp] theorem sAug_ap (i : Nat) (f : D → D → Option D) (d : Ev → MM D) (ρ : Ev) (ω : Wd) : sAug i f d ρ ω = kAug i f d ρ ω (look ρ i) := by
  unfold sAug
  cases h : look ρ i with
  | none => rfl
  | some a =>
    simp only [kAug_some]
    cases h2 : d ρ ω with
    | ok b w => simp only [bind_ok, kBin2_ok]; cases f a b <;> rfl
    | _ => rfl
def kOwn (i : Nat) (ρ : Ev) : Res (List D) → Res Fl
  | .ok ds w => .ok (.next (put ρ i (.list ds))) w
  | .exc e w => .exc e w
  | .bad => .bad
@[simp] theorem kOwn_ok (i : Nat) (ρ : Ev) (ds : List D) (w : Wd) : kOwn i ρ (.ok ds w) = .ok (.next (put ρ i (.list ds))) w := (rfl)
@[simp] theorem sOwn_ap (i : Nat) (d : Ev → MM (List D)) (ρ : Ev) (ω : Wd) : sOwn i d ρ ω = kOwn i ρ (d ρ ω) := by unfold sOwn; cases d ρ ω <;> rfl
/-- for -/
def kForB (g : D → Ev → Option Ev) (db : Ev → MM Fl) (ds : List D) : Res Fl → Res Fl
  | .ok (.next ρ) w => sFor.go g db ds ρ w
  | .ok (.cont ρ) w => sFor.go g db ds ρ w
  | .ok (.brk ρ) w => .ok (.next ρ) w
  | .ok (.ret v) w => .ok (.ret v) w
  | .exc e w => .exc e w
  | .bad => .bad
def kForG (g : D → Ev → Option Ev) (db : Ev → MM Fl) (ds : List D) : Res Ev → Res Fl
  | .ok ρ w => kForB g db ds (db ρ w)
  | .exc e w => .exc e w
  | .bad => .bad
def kFor (g : D → Ev → Option Ev) (db : Ev → MM Fl) (ρ : Ev) : Res (List D) → Res Fl
  | .ok ds w => sFor.go g db ds ρ w
  | .exc e w => .exc e w
  | .bad => .bad
@[simp] theorem kForB_next (g : D → Ev → Option Ev) (db : Ev → MM Fl) (ds : List D) (ρ : Ev) (w : Wd) : kForB g db ds (.ok (.next ρ) w) = sFor.go g db ds ρ w := (rfl)
@[simp] theorem kForB_cont (g : D → Ev → Option Ev) (db : Ev → MM Fl) (ds : List D) (ρ : Ev) (w : Wd) : kForB g db ds (.ok (.cont ρ) w) = sFor.go g db ds ρ w := (rfl)
@[simp] theorem kForB_brk (g : D → Ev → Option Ev) (db : Ev → MM Fl) (ds : List D) (ρ : Ev) (w : Wd) : kForB g db ds (.ok (.brk ρ) w) = .ok (.next ρ) w := (rfl)
@[simp] theorem kForB_ret (g : D → Ev → Option Ev) (db : Ev → MM Fl) (ds : List D) (v : D) (w : Wd) : kForB g db ds (.ok (.ret v) w) = .ok (.ret v) w := (rfl)
@[simp] theorem kForB_exc (g : D → Ev → Option Ev) (db : Ev → MM Fl) (ds : List D) (e : Ex) (w : Wd) : kForB g db ds (.exc e w) = .exc e w := (rfl)
@[simp] theorem kForG_ok (g : D → Ev → Option Ev) (db : Ev → MM Fl) (ds : List D) (ρ : Ev) (w : Wd) : kForG g db ds (.ok ρ w) = kForB g db ds (db ρ w) := (rfl)
@[simp] theorem kFor_ok (g : D → Ev → Option Ev) (db : Ev → MM Fl) (ρ : Ev) (ds : List D) (w : Wd) : kFor g db ρ (.ok ds w) = sFor.go g db ds ρ w := (rfl)
@[simp] theorem sFor_ap (di : Ev → MM (List D)) (g : D → Ev → Option Ev) (db : Ev → MM Fl) (ρ : Ev) (ω : Wd) : sFor di g db ρ ω = kFor g db ρ (di ρ ω) := by unfold sFor; cases di ρ ω <;> rfl
@[simp] theorem go_nil (g : D → Ev → Option Ev) (db : Ev → MM Fl) (ρ : Ev) (w : Wd) : sFor.go g db [] ρ w = .ok (.next ρ) w := (rfl)
theorem go_cons (g : D → Ev → Option Ev) (db : Ev → MM Fl) (d : D) (ds : List D) (ρ : Ev) (w : Wd) : sFor.go g db (d :: ds) ρ w = kForG g db ds (ofO (g d ρ) w) := by
  rw [sFor.go]
  cases h : g d ρ with
  | none => rfl
  | some ρ1 =>
    simp only [ofO_some, bind_ok, kForG_ok]
    cases h2 : db ρ1 w with
    | ok f w2 => cases f <;> rfl
    | _ => rfl
/-- while -/
noncomputable def kWhB (t : Ev → MM Bool) (db : Ev → MM Fl) : Res Fl → Res Fl
  | .ok (.next ρ) w => sWhile t db ρ w
  | .ok (.cont ρ) w => sWhile t db ρ w
  | .ok (.brk ρ) w => .ok (.next ρ) w
  | .ok (.ret v) w => .ok (.ret v) w
  | .exc e w => .exc e w
  | .bad => .bad
noncomputable def kWh (t : Ev → MM Bool) (db : Ev → MM Fl) (ρ : Ev) : Res Bool → Res Fl
  | .ok true w => kWhB t db (db ρ w)
  | .ok false w => .ok (.next ρ) w
  | .exc e w => .exc e w
  | .bad => .bad
@[simp] theorem kWhB_next (t : Ev → MM Bool) (db : Ev → MM Fl) (ρ : Ev) (w : Wd) : kWhB t db (.ok (.next ρ) w) = sWhile t db ρ w := (rfl)
@[simp] theorem kWhB_cont (t : Ev → MM Bool) (db : Ev → MM Fl) (ρ : Ev) (w : Wd) : kWhB t db (.ok (.cont ρ) w) = sWhile t db ρ w := (rfl)
@[simp] theorem kWhB_brk (t : Ev → MM Bool) (db : Ev → MM Fl) (ρ : Ev) (w : Wd) : kWhB t db (.ok (.brk ρ) w) = .ok (.next ρ) w := (rfl)
@[simp] theorem kWhB_ret (t : Ev → MM Bool) (db : Ev → MM Fl) (v : D) (w : Wd) : kWhB t db (.ok (.ret v) w) = .ok (.ret v) w := (rfl)
@[simp] theorem kWhB_exc (t : Ev → MM Bool) (db : Ev → MM Fl) (e : Ex) (w : Wd) : kWhB t db (.exc e w) = .exc e w := (rfl)
@[simp] theorem kWh_t (t : Ev → MM Bool) (db : Ev → MM Fl) (ρ : Ev) (w : Wd) : kWh t db ρ (.ok true w) = kWhB t db (db ρ w) := (rfl)
@[simp] theorem kWh_f (t : Ev → MM Bool) (db : Ev → MM Fl) (ρ : Ev) (w : Wd) : kWh t db ρ (.ok false w) = .ok (.next ρ) w := (rfl)
theorem sWhile_ap (t : Ev → MM Bool) (db : Ev → MM Fl) (ρ : Ev) (ω : Wd) : sWhile t db ρ ω = kWh t db ρ (t ρ ω) := by
  rw [sWhile_unfold]
  cases h : t ρ ω with
  | ok b w => cases b with
    | false => rfl
    | true =>
      simp only [bind_ok, kWh_t]
      cases h2 : db ρ w with
      | ok f w2 => cases f <;> rfl
      | _ => rfl
  | _ => rfl
/-- a while by an invariant over states of one's own -/
theorem while_by {α : Type} {t : Ev → MM Bool} {db : Ev → MM Fl} {w : Wd} (emb : α → Ev) (P : α → Prop) (c : α → Bool) (f : α → α) (μ : α → Nat)
    (ht : ∀ a, P a → t (emb a) w = .ok (c a) w) (hb : ∀ a, P a → c a = true → db (emb a) w = .ok (.next (emb (f a))) w ∧ P (f a) ∧ μ (f a) < μ a) :
    ∀ a, P a → ∃ b, P b ∧ c b = false ∧ sWhile t db (emb a) w = .ok (.next (emb b)) w := by
  have key : ∀ n a, μ a < n → P a → ∃ b, P b ∧ c b = false ∧ sWhile t db (emb a) w = .ok (.next (emb b)) w := by
    intro n
    induction n with
    | zero => intro a h; omega
    | succ n ih =>
      intro a h p
      rw [sWhile_ap, ht a p]
      cases hc : c a with
      | false => exact ⟨a, p, hc, rfl⟩
      | true =>
        obtain ⟨h1, h2, h3⟩ := hb a p hc
        rw [kWh_t, h1, kWhB_next]
        exact ih (f a) (by omega) h2
  exact fun a p => key (μ a + 1) a (by omega) p
/-- a for by an invariant: P of the items still to come -/
theorem for_by {α : Type} {g : D → Ev → Option Ev} {db : Ev → MM Fl} {w : Wd} (emb : α → Ev) (P : List D → α → Prop)
    (hb : ∀ d ds a, P (d :: ds) a → ∃ a' ρ1, g d (emb a) = some ρ1 ∧ (db ρ1 w = .ok (.next (emb a')) w ∨ db ρ1 w = .ok (.cont (emb a')) w) ∧ P ds a') :
    ∀ ds a, P ds a → ∃ b, P [] b ∧ sFor.go g db ds (emb a) w = .ok (.next (emb b)) w := by
  intro ds
  induction ds with
  | nil => intro a p; exact ⟨a, p, rfl⟩
  | cons d ds ih =>
    intro a p
    obtain ⟨a', ρ1, h1, h2, h3⟩ := hb d ds a p
    obtain ⟨b, h4, h5⟩ := ih a' h3
    refine ⟨b, h4, ?_⟩
    rw [go_cons, h1]
    rcases h2 with h2 | h2 <;> simp [h2, h5]
/-! lists of one's own, the borrowed list -/
def kApp (i : Nat) (ρ : Ev) (ds : List D) : Res D → Res Fl
  | .ok v w => if ds.length < sizeLine then .ok (.next (put ρ i (.list (ds ++ [v])))) w else .bad
  | .exc e w => .exc e w
  | .bad => .bad
@[simp] theorem kApp_ok (i : Nat) (ρ : Ev) (ds : List D) (v : D) (w : Wd) : kApp i ρ ds (.ok v w) = if ds.length < sizeLine then .ok (.next (put ρ i (.list (ds ++ [v])))) w else .bad := (rfl)
theorem sApp_ap (i : Nat) (d : Ev → MM D) (ρ : Ev) (ω : Wd) (ds : List D) (h : look ρ i = some (.list ds)) : sApp i d ρ ω = kApp i ρ ds (d ρ ω) := by
  unfold sApp
  rw [h]
  cases d ρ ω <;> rfl
def kExt (i : Nat) (ρ : Ev) (ds : List D) : Res D → Res Fl
  | .ok (.list es) w => if ds.length + es.length ≤ sizeLine then .ok (.next (put ρ i (.list (ds ++ es)))) w else .bad
  | .ok _ _ => .bad
  | .exc e w => .exc e w
  | .bad => .bad
@[simp] theorem kExt_ok (i : Nat) (ρ : Ev) (ds es : List D) (w : Wd) : kExt i ρ ds (.ok (.list es) w) = if ds.length + es.length ≤ sizeLine then .ok (.next (put ρ i (.list (ds ++ es)))) w else .bad := (rfl)
theorem sExt_ap (i : Nat) (d : Ev → MM D) (ρ : Ev) (ω : Wd) (ds : List D) (h : look ρ i = some (.list ds)) : sExt i d ρ ω = kExt i ρ ds (d ρ ω) := by
  unfold sExt
  rw [h]
  cases d ρ ω with
  | ok v w => cases v <;> rfl
  | _ => rfl
def ixB (w : Wd) : D → Res D
  | .int k => ofO (atI w k) w
  | _ => .bad
def kIxB : Res D → Res D
  | .ok k w => ixB w k
  | .exc e w => .exc e w
  | .bad => .bad
@[simp] theorem ixB_int (w : Wd) (k : Int) : ixB w (.int k) = ofO (atI w k) w := (rfl)
@[simp] theorem kIxB_ok (k : D) (w : Wd) : kIxB (.ok k w) = ixB w k := (rfl)
@[simp] theorem eIxB_ap (d : Ev → MM D) (ρ : Ev) (ω : Wd) : eIxB d ρ ω = kIxB (d ρ ω) := by
  unfold eIxB
  cases d ρ ω with
  | ok v w => cases v <;> rfl
  | _ => rfl
def kSetB3 (ρ : Ev) (v : D) (w : Wd) : Option Nat → Res Fl
  | some j => .ok (.next ρ) (w.set j v)
  | none => .bad
def kSetB2 (ρ : Ev) (v : D) : Res D → Res Fl
  | .ok (.int k) w => kSetB3 ρ v w (ixN w.length k)
  | .ok _ _ => .bad
  | .exc e w => .exc e w
  | .bad => .bad
def kSetB (dk : Ev → MM D) (ρ : Ev) : Res D → Res Fl
  | .ok v w => kSetB2 ρ v (dk ρ w)
  | .exc e w => .exc e w
  | .bad => .bad
@[simp] theorem kSetB3_some (ρ : Ev) (v : D) (w : Wd) (j : Nat) : kSetB3 ρ v w (some j) = .ok (.next ρ) (w.set j v) := (rfl)
@[simp] theorem kSetB2_ok (ρ : Ev) (v : D) (k : Int) (w : Wd) : kSetB2 ρ v (.ok (.int k) w) = kSetB3 ρ v w (ixN w.length k) := (rfl)
@[simp] theorem kSetB_ok (dk : Ev → MM D) (ρ : Ev) (v : D) (w : Wd) : kSetB dk ρ (.ok v w) = kSetB2 ρ v (dk ρ w) := (rfl)
@[simp] theorem sSetB_ap (dv dk : Ev → MM D) (ρ : Ev) (ω : Wd) : sSetB dv dk ρ ω = kSetB dk ρ (dv ρ ω) := by
  unfold sSetB
  cases dv ρ ω with
  | ok v w =>
    simp only [bind_ok, kSetB_ok]
    cases dk ρ w with
    | ok k w2 => cases k with
      | int k => simp only [bind_ok, kSetB2_ok]; cases ixN w2.length k <;> rfl
      | _ => rfl
    | _ => rfl
  | _ => rfl
/-! defs -/
@[simp] theorem endF_ret (d : D) (w : Wd) : endF (.ok (.ret d) w) = .ok d w := (rfl)
@[simp] theorem endF_next (ρ : Ev) (w : Wd) : endF (.ok (.next ρ) w) = .ok .none w := (rfl)
@[simp] theorem endF_exc (e : Ex) (w : Wd) : endF (.exc e w) = .exc e w := (rfl)
theorem runF_ap (nl n : Nat) (db : Ev → MM Fl) (ds : List D) (h : ds.length = n) : runF nl n db ds = endF (db (ds.map some ++ List.replicate (nl - n) none) []) := by unfold runF; rw [if_pos h]
theorem runS_ap (nl n : Nat) (db : Ev → MM Fl) (ds : List D) (ω : Wd) (h : ds.length + 1 = n) : runS nl n db ds ω = endF (db (none :: (ds.map some ++ List.replicate (nl - n) none)) ω) := by unfold runS; rw [if_pos h]
@[simp] theorem run0 (nl : Nat) (db : Ev → MM Fl) : runF nl 0 db [] = endF (db (List.replicate (nl - 0) none) []) := (rfl)
@[simp] theorem runS0 (nl : Nat) (db : Ev → MM Fl) (ω : Wd) : runS nl 1 db [] ω = endF (db (none :: List.replicate (nl - 1) none) ω) := (rfl)
@[simp] theorem run1 (nl : Nat) (db : Ev → MM Fl) (a0 : D) : runF nl 1 db [a0] = endF (db (some a0 :: List.replicate (nl - 1) none) []) := (rfl)
@[simp] theorem runS1 (nl : Nat) (db : Ev → MM Fl) (a0 : D) (ω : Wd) : runS nl 2 db [a0] ω = endF (db (none :: some a0 :: List.replicate (nl - 2) none) ω) := (rfl)
@[simp] theorem run2 (nl : Nat) (db : Ev → MM Fl) (a0 a1 : D) : runF nl 2 db [a0, a1] = endF (db (some a0 :: some a1 :: List.replicate (nl - 2) none) []) := (rfl)
@[simp] theorem runS2 (nl : Nat) (db : Ev → MM Fl) (a0 a1 : D) (ω : Wd) : runS nl 3 db [a0, a1] ω = endF (db (none :: some a0 :: some a1 :: List.replicate (nl - 3) none) ω) := (rfl)
@[simp] theorem run3 (nl : Nat) (db : Ev → MM Fl) (a0 a1 a2 : D) : runF nl 3 db [a0, a1, a2] = endF (db (some a0 :: some a1 :: some a2 :: List.replicate (nl - 3) none) []) := (rfl)
@[simp] theorem runS3 (nl : Nat) (db : Ev → MM Fl) (a0 a1 a2 : D) (ω : Wd) : runS nl 4 db [a0, a1, a2] ω = endF (db (none :: some a0 :: some a1 :: some a2 :: List.replicate (nl - 4) none) ω) := (rfl)
@[simp] theorem run4 (nl : Nat) (db : Ev → MM Fl) (a0 a1 a2 a3 : D) : runF nl 4 db [a0, a1, a2, a3] = endF (db (some a0 :: some a1 :: some a2 :: some a3 :: List.replicate (nl - 4) none) []) := (rfl)
@[simp] theorem runS4 (nl : Nat) (db : Ev → MM Fl) (a0 a1 a2 a3 : D) (ω : Wd) : runS nl 5 db [a0, a1, a2, a3] ω = endF (db (none :: some a0 :: some a1 :: some a2 :: some a3 :: List.replicate (nl - 5) none) ω) := (rfl)
@[simp] theorem run5 (nl : Nat) (db : Ev → MM Fl) (a0 a1 a2 a3 a4 : D) : runF nl 5 db [a0, a1, a2, a3, a4] = endF (db (some a0 :: some a1 :: some a2 :: some a3 :: some a4 :: List.replicate (nl - 5) none) []) := (rfl)
@[simp] theorem runS5 (nl : Nat) (db : Ev → MM Fl) (a0 a1 a2 a3 a4 : D) (ω : Wd) : runS nl 6 db [a0, a1, a2, a3, a4] ω = endF (db (none :: some a0 :: some a1 :: some a2 :: some a3 :: some a4 :: List.replicate (nl - 6) none) ω) := (rfl)
@[simp] theorem run6 (nl : Nat) (db : Ev → MM Fl) (a0 a1 a2 a3 a4 a5 : D) : runF nl 6 db [a0, a1, a2, a3, a4, a5] = endF (db (some a0 :: some a1 :: some a2 :: some a3 :: some a4 :: some a5 :: List.replicate (nl - 6) none) []) := (rfl)
@[simp] theorem runS6 (nl : Nat) (db : Ev → MM Fl) (a0 a1 a2 a3 a4 a5 : D) (ω : Wd) : runS nl 7 db [a0, a1, a2, a3, a4, a5] ω = endF (db (none :: some a0 :: some a1 :: some a2 :: some a3 :: some a4 :: some a5 :: List.replicate (nl - 7) none) ω) := (rfl)
/-! values -/
@[simp] theorem vAdd_int (a b : Int) : vAdd (.int a) (.int b) = some (.int (a + b)) := (rfl)
@[simp] theorem vAddI_int (a b : Int) : vAddI (.int a) (.int b) = some (.int (a + b)) := (rfl)
@[simp] theorem vSub_int (a b : Int) : vSub (.int a) (.int b) = some (.int (a - b)) := (rfl)
@[simp] theorem vNeg_int (a : Int) : vNeg (.int a) = some (.int (-a)) := (rfl)
theorem vMul_int {a b : Int} (h : mulOk a b) : vMul (.int a) (.int b) = some (.int (a * b)) := if_pos h
theorem vMulI_int {a b : Int} (h : mulOk a b) : vMulI (.int a) (.int b) = some (.int (a * b)) := if_pos h
theorem vFdiv_int {a b : Int} (h : divOk b) : vFdiv (.int a) (.int b) = some (.int (a.fdiv b)) := if_pos h
theorem vMod_int {a b : Int} (h : b ≠ 0) : vMod (.int a) (.int b) = some (.int (a.fmod b)) := if_neg h
theorem vPow_int {a b : Int} (h : powOk a b) : vPow (.int a) (.int b) = some (.int (a ^ b.toNat)) := if_pos h
@[simp] theorem cLt_int (a b : Int) : cLt (.int a) (.int b) = some (decide (a < b)) := (rfl)
@[simp] theorem cLe_int (a b : Int) : cLe (.int a) (.int b) = some (decide (a ≤ b)) := (rfl)
@[simp] theorem cGt_int (a b : Int) : cGt (.int a) (.int b) = some (decide (b < a)) := (rfl)
@[simp] theorem cGe_int (a b : Int) : cGe (.int a) (.int b) = some (decide (b ≤ a)) := (rfl)
@[simp] theorem shaped_int (a : Int) : SeqAt.shaped (.int a) = true := by simp [SeqAt.shaped, PyData.canLay0, PyData.depth]
@[simp] theorem shaped_bool (a : Bool) : SeqAt.shaped (.bool a) = true := by simp [SeqAt.shaped, PyData.canLay0, PyData.depth]
@[simp] theorem shaped_none : SeqAt.shaped .none = true := by simp [SeqAt.shaped, PyData.canLay0, PyData.depth]
@[simp] theorem vEq_int (a b : Int) : vEq (.int a) (.int b) = some (decide (a = b)) := by
  simp only [vEq, shaped_int, and_self, if_true, PyData.eqv]
  congr 1
@[simp] theorem vNe_int (a b : Int) : vNe (.int a) (.int b) = some (!decide (a = b)) := by
  simp only [vNe, shaped_int, and_self, if_true, PyData.eqv]
  congr 1
@[simp] theorem vIsN_int (a : Int) : vIsN (.int a) .none = some false := (rfl)
@[simp] theorem vIsN_none : vIsN .none .none = some true := (rfl)
@[simp] theorem vIsN_bool (a : Bool) : vIsN (.bool a) .none = some false := (rfl)
@[simp] theorem vIsN_list (a : List D) : vIsN (.list a) .none = some false := (rfl)
@[simp] theorem vIsN_tuple (a : List D) : vIsN (.tuple a) .none = some false := (rfl)
@[simp] theorem vNotN_int (a : Int) : vNotN (.int a) .none = some true := (rfl)
@[simp] theorem vNotN_none : vNotN .none .none = some false := (rfl)
@[simp] theorem vNotN_tuple (a : List D) : vNotN (.tuple a) .none = some true := (rfl)
@[simp] theorem vIsB_bool (a b : Bool) : vIsB (.bool a) (.bool b) = some (a == b) := (rfl)
@[simp] theorem vNotB_bool (a b : Bool) : vNotB (.bool a) (.bool b) = some (!(a == b)) := (rfl)
@[simp] theorem fAbs_int (i : Int) : fAbs [.int i] = some (.int (if i < 0 then -i else i)) := (rfl)
@[simp] theorem fInt_int (i : Int) : fInt [.int i] = some (.int i) := (rfl)
@[simp] theorem fInt_bool (b : Bool) : fInt [.bool b] = some (.int (if b then 1 else 0)) := (rfl)
@[simp] theorem fLen_list (xs : List D) : fLen [.list xs] = some (.int xs.length) := (rfl)
@[simp] theorem fLen_tuple (xs : List D) : fLen [.tuple xs] = some (.int xs.length) := (rfl)
@[simp] theorem fTuple_list (xs : List D) : fTuple [.list xs] = some (.tuple xs) := (rfl)
@[simp] theorem fTuple_tuple (xs : List D) : fTuple [.tuple xs] = some (.tuple xs) := (rfl)
@[simp] theorem fList_list (xs : List D) : fList [.list xs] = some (.list xs) := (rfl)
@[simp] theorem fList_tuple (xs : List D) : fList [.tuple xs] = some (.list xs) := (rfl)
@[simp] theorem fSum_ints (ns : List Int) : fSum [.list (ns.map .int)] = some (.int ns.sum) := by simp [fSum]
@[simp] theorem fSorted_ints (ns : List Int) : fSorted [.list (ns.map .int)] = some (.list ((sortI ns).map .int)) := by simp [fSorted]
theorem vIx_list {xs : List D} {j : Nat} {v : D} (h : xs[j]? = some v) : vIx (.list xs) (.int j) = some v := atI_nat h
theorem vIx_tuple {xs : List D} {j : Nat} {v : D} (h : xs[j]? = some v) : vIx (.tuple xs) (.int j) = some v := atI_nat h
end M

set_option Elab.async false
set_option linter.all false
set_option maxRecDepth 100000
set_option maxHeartbeats 4000000
namespace M
open PySem PySem.Spec PyProof.Rows L2
/-! ### loops, sizes -/
def loop {α : Type} (c : α → Bool) (f : α → α) (n : Nat) : α → α := Nat.rec (motive := fun _ => α → α) (fun a => a) (fun _ ih a => bif c a then ih (f a) else a) n
theorem loop_zero {α : Type} (c : α → Bool) (f : α → α) (a : α) : loop c f 0 a = a := rfl
theorem loop_succ {α : Type} (c : α → Bool) (f : α → α) (n : Nat) (a : α) : loop c f (n + 1) a = bif c a then loop c f n (f a) else a := rfl
/-- a while that is the loop of one's own -/
theorem while_loop {α : Type} {t : Ev → MM Bool} {db : Ev → MM Fl} {w : Wd} (emb : α → Ev) (P : α → Prop) (c : α → Bool) (f : α → α) (μ : α → Nat)
    (ht : ∀ a, P a → t (emb a) w = .ok (c a) w) (hb : ∀ a, P a → c a = true → db (emb a) w = .ok (.next (emb (f a))) w ∧ P (f a) ∧ μ (f a) < μ a) :
    ∀ n a, P a → μ a ≤ n → P (loop c f n a) ∧ c (loop c f n a) = false ∧ sWhile t db (emb a) w = .ok (.next (emb (loop c f n a))) w := by
  intro n
  induction n with
  | zero =>
    intro a p h
    have hc : c a = false := by
      cases hc : c a with
      | false => rfl
      | true => have := (hb a p hc).2.2; omega
    refine ⟨p, hc, ?_⟩
    rw [sWhile_ap, ht a p, hc, loop_zero]; rfl
  | succ n ih =>
    intro a p h
    rw [loop_succ]
    cases hc : c a with
    | false => refine ⟨p, hc, ?_⟩; rw [sWhile_ap, ht a p, hc]; rfl
    | true =>
      obtain ⟨h1, h2, h3⟩ := hb a p hc
      obtain ⟨i1, i2, i3⟩ := ih (f a) h2 (by omega)
      refine ⟨i1, i2, ?_⟩
      rw [sWhile_ap, ht a p, hc, kWh_t, h1, kWhB_next]
      exact i3
def Sm (a : Int) : Prop := a.natAbs < 2 ^ 250
theorem Sm.of {a : Int} (h : -(2 ^ 250) < a) (h2 : a < 2 ^ 250) : Sm a := by unfold Sm; omega
theorem log2_sm {n : Nat} (h : n < 2 ^ 250) : n.log2 < 250 := by
  by_cases z : n = 0
  · subst z; decide
  · exact (Nat.log2_lt z).2 h
theorem mulOk_sm {a b : Int} (ha : Sm a) (hb : Sm b) : mulOk a b := by
  have h1 := log2_sm ha
  have h2 := log2_sm hb
  unfold mulOk
  omega
theorem divOk_sm {a : Int} (h : a ≠ 0) (ha : Sm a) : divOk a := ⟨h, by have := log2_sm ha; omega⟩
theorem mulSm {a b : Int} (ha : -(2 ^ 250) < a ∧ a < 2 ^ 250) (hb : -(2 ^ 250) < b ∧ b < 2 ^ 250) : vMul (.int a) (.int b) = some (.int (a * b)) := vMul_int (mulOk_sm (Sm.of ha.1 ha.2) (Sm.of hb.1 hb.2))
theorem mulISm {a b : Int} (ha : -(2 ^ 250) < a ∧ a < 2 ^ 250) (hb : -(2 ^ 250) < b ∧ b < 2 ^ 250) : vMulI (.int a) (.int b) = some (.int (a * b)) := vMulI_int (mulOk_sm (Sm.of ha.1 ha.2) (Sm.of hb.1 hb.2))
theorem divSm {a b : Int} (hb : 0 < b) (h2 : b < 2 ^ 250) : vFdiv (.int a) (.int b) = some (.int (a / b)) := by
  rw [vFdiv_int (divOk_sm (by omega) (Sm.of (by omega) h2)), Int.fdiv_eq_ediv_of_nonneg _ (by omega)]
theorem modP {a b : Int} (hb : 0 < b) : vMod (.int a) (.int b) = some (.int (a % b)) := by
  rw [vMod_int (by omega), Int.fmod_eq_emod_of_nonneg _ (by omega)]
/-- a for that draws -/
theorem for_st {α : Type} {g : D → Ev → Option Ev} {db : Ev → MM Fl} (emb : α → Ev) (P : List D → α → Wd → Prop)
    (hb : ∀ d ds a w, P (d :: ds) a w → ∃ a' w' ρ1, g d (emb a) = some ρ1 ∧ db ρ1 w = .ok (.next (emb a')) w' ∧ P ds a' w') :
    ∀ ds a w, P ds a w → ∃ b w', P [] b w' ∧ sFor.go g db ds (emb a) w = .ok (.next (emb b)) w' := by
  intro ds
  induction ds with
  | nil => intro a w p; exact ⟨a, w, p, rfl⟩
  | cons d ds ih =>
    intro a w p
    obtain ⟨a', w', ρ1, h1, h2, h3⟩ := hb d ds a w p
    obtain ⟨b, w2, h4, h5⟩ := ih a' w' h3
    refine ⟨b, w2, h4, ?_⟩
    rw [go_cons, h1, ofO_some, kForG_ok, h2, kForB_next, h5]
theorem range1 {j : Int} (h : -(2 ^ 62) ≤ j ∧ j < 2 ^ 62) : iRange [.int j] = some (rangeL 0 1 j.toNat) := if_pos h
theorem range1N {k : Nat} (h : k < 2 ^ 60) : iRange [.int (k : Int)] = some (rangeL 0 1 k) := by rw [range1 (by omega)]; rfl
theorem range2 {i j : Int} (h : -(2 ^ 62) ≤ i ∧ i < 2 ^ 62) (h2 : -(2 ^ 62) ≤ j ∧ j < 2 ^ 62) : iRange [.int i, .int j] = some (rangeL i 1 (j - i).toNat) := if_pos ⟨h, h2⟩
/-! comprehensions -/
@[simp] theorem noX_ok2 {α : Type} (a : α) (w : Wd) : noX (Res.ok a w) = .ok a w := (rfl)
@[simp] theorem bYes_ap (ρ : Ev) (ω : Wd) : bYes ρ ω = .ok true ω := (rfl)
def kLc (g : D → Ev → Option Ev) (t : Ev → MM Bool) (d : Ev → MM D) (ρ0 : Ev) : Res (List D) → Res (List D)
  | .ok xs w => if xs.length ≤ sizeLine then lcGo g t d ρ0 xs w else .bad
  | .exc e w => .exc e w
  | .bad => .bad
@[simp] theorem lcD_ap (di : Ev → MM (List D)) (g : D → Ev → Option Ev) (t : Ev → MM Bool) (d : Ev → MM D) (vs : List Nat) (ρ : Ev) (ω : Wd) : lcD di g t d vs ρ ω = kLc g t d (wipeD ρ vs) (di ρ ω) := by unfold lcD; cases di ρ ω <;> rfl
theorem kLc_ok {g : D → Ev → Option Ev} {t : Ev → MM Bool} {d : Ev → MM D} {ρ0 : Ev} {xs : List D} {w : Wd} (h : xs.length ≤ sizeLine) : kLc g t d ρ0 (.ok xs w) = lcGo g t d ρ0 xs w := if_pos h
@[simp] theorem wipe_nil (ρ : Ev) : wipeD ρ [] = ρ := (rfl)
@[simp] theorem wipe_cons (ρ : Ev) (v : Nat) (vs : List Nat) : wipeD ρ (v :: vs) = (wipeD ρ vs).set v none := (rfl)
theorem lc_eval {α : Type} {g : D → Ev → Option Ev} {t : Ev → MM Bool} {d : Ev → MM D} {ρ0 : Ev} {w : Wd} (enc : α → D) (c : α → Bool) (f : α → D) :
    ∀ xs : List α, (∀ x ∈ xs, ∃ ρ1, g (enc x) ρ0 = some ρ1 ∧ t ρ1 w = .ok (c x) w ∧ (c x = true → d ρ1 w = .ok (f x) w)) → lcGo g t d ρ0 (xs.map enc) w = .ok ((xs.filter c).map f) w := by
  intro xs
  induction xs with
  | nil => intro _; rfl
  | cons x xs ih =>
    intro h
    obtain ⟨ρ1, h1, h2, h3⟩ := h x (by simp)
    have ih := ih fun y hy => h y (by simp [hy])
    rw [List.map_cons, lcGo, h1, ofO_some, bind_ok, h2, noX_ok, bind_ok]
    cases hc : c x with
    | true => simp [h3 hc, ih, hc]
    | false => simp [ih, hc]
theorem lc_map {α : Type} {g : D → Ev → Option Ev} {d : Ev → MM D} {ρ0 : Ev} {w : Wd} (enc : α → D) (f : α → D) (xs : List α) (h : ∀ x ∈ xs, ∃ ρ1, g (enc x) ρ0 = some ρ1 ∧ d ρ1 w = .ok (f x) w) : lcGo g bYes d ρ0 (xs.map enc) w = .ok (xs.map f) w := by
  have := lc_eval (w := w) (g := g) (t := bYes) (d := d) (ρ0 := ρ0) enc (fun _ => true) f xs fun x hx => by
    obtain ⟨ρ1, h1, h2⟩ := h x hx
    exact ⟨ρ1, h1, rfl, fun _ => h2⟩
  rwa [List.filter_eq_self.2 (by simp)] at this
def rngI (lo : Int) : Nat → List Int
  | 0 => []
  | n + 1 => lo :: rngI (lo + 1) n
theorem rangeL_eq : ∀ (n : Nat) (lo : Int), rangeL lo 1 n = (rngI lo n).map .int
  | 0, _ => rfl
  | n + 1, lo => by simp [rangeL, rngI, rangeL_eq n]
theorem rngI_len : ∀ (n : Nat) (lo : Int), (rngI lo n).length = n
  | 0, _ => rfl
  | n + 1, lo => by simp [rngI, rngI_len n]
theorem mem_rngI : ∀ (n : Nat) (lo x : Int), x ∈ rngI lo n ↔ lo ≤ x ∧ x < lo + n
  | 0, lo, x => by simp only [rngI, List.not_mem_nil, false_iff]; omega
  | n + 1, lo, x => by simp only [rngI, List.mem_cons, mem_rngI n]; omega
/-! equality of data -/
def Fl2 (n : Nat) (d : D) : Prop := PyData.canLay0 d = true ∧ PyData.depth d ≤ n
theorem fl_int (n : Nat) (i : Int) : Fl2 n (.int i) := by simp [Fl2, PyData.canLay0, PyData.depth]
theorem fl_bool (n : Nat) (i : Bool) : Fl2 n (.bool i) := by simp [Fl2, PyData.canLay0, PyData.depth]
theorem fl_none (n : Nat) : Fl2 n .none := by simp [Fl2, PyData.canLay0, PyData.depth]
theorem fl_all {n : Nat} : ∀ {xs : List D}, (∀ x ∈ xs, Fl2 n x) → PyData.canLayAll0 xs = true ∧ PyData.depthAll xs ≤ n
  | [], _ => by simp [PyData.canLayAll0, PyData.depthAll]
  | x :: xs, h => by
    have h1 := h x (by simp)
    have h2 := fl_all (xs := xs) fun y hy => h y (by simp [hy])
    simp only [PyData.canLayAll0, PyData.depthAll, Bool.and_eq_true]
    exact ⟨⟨h1.1, h2.1⟩, Nat.max_le.2 ⟨h1.2, h2.2⟩⟩
theorem fl_list {n : Nat} {xs : List D} (h : ∀ x ∈ xs, Fl2 n x) : Fl2 (n + 1) (.list xs) := by
  have := fl_all h
  simp only [Fl2, PyData.canLay0, PyData.depth]
  exact ⟨this.1, by omega⟩
theorem fl_tuple {n : Nat} {xs : List D} (h : ∀ x ∈ xs, Fl2 n x) : Fl2 (n + 1) (.tuple xs) := by
  have := fl_all h
  simp only [Fl2, PyData.canLay0, PyData.depth]
  exact ⟨this.1, by omega⟩
theorem fl_nil {n : Nat} : ∀ x ∈ ([] : List D), Fl2 n x := fun _ h => nomatch h
theorem fl_cons {n : Nat} {d : D} {ds : List D} (h : Fl2 n d) (h2 : ∀ x ∈ ds, Fl2 n x) : ∀ x ∈ d :: ds, Fl2 n x := fun x hx => by
  rcases List.mem_cons.1 hx with rfl | hx
  · exact h
  · exact h2 x hx
theorem fl_map {α : Type} {n : Nat} {f : α → D} {xs : List α} (h : ∀ x, Fl2 n (f x)) : ∀ x ∈ xs.map f, Fl2 n x := fun x hx => by
  obtain ⟨a, _, rfl⟩ := List.mem_map.1 hx
  exact h a
theorem shaped_of {n : Nat} {d : D} (h : Fl2 n d) (hn : n ≤ 64) : SeqAt.shaped d = true := by
  simp [SeqAt.shaped, h.1]; exact Nat.le_trans h.2 hn
theorem eqvAll_map {α : Type} [DecidableEq α] {f : α → D} (h : ∀ a b, PyData.eqv (f a) (f b) = decide (a = b)) : ∀ xs ys : List α, PyData.eqvAll (xs.map f) (ys.map f) = decide (xs = ys)
  | [], [] => by simp [PyData.eqvAll]
  | x :: xs, [] => by simp [PyData.eqvAll]
  | [], y :: ys => by simp [PyData.eqvAll]
  | x :: xs, y :: ys => by simp [PyData.eqvAll, h, eqvAll_map h xs ys]
theorem vEq_of {a b : D} {n : Nat} (ha : Fl2 n a) (hb : Fl2 n b) (hn : n ≤ 64) : vEq a b = some (PyData.eqv a b) := by simp [vEq, shaped_of ha hn, shaped_of hb hn]
theorem vNe_of {a b : D} {n : Nat} (ha : Fl2 n a) (hb : Fl2 n b) (hn : n ≤ 64) : vNe a b = some (!PyData.eqv a b) := by simp [vNe, shaped_of ha hn, shaped_of hb hn]
theorem eqv_int (a b : Int) : PyData.eqv (.int a) (.int b) = decide (a = b) := by simp only [PyData.eqv]; congr 1
theorem eqv_bool (a b : Bool) : PyData.eqv (.bool a) (.bool b) = decide (a = b) := by cases a <;> cases b <;> rfl
theorem fl_ints (xs : List Int) : Fl2 1 (.list (xs.map .int)) := fl_list (fl_map fun i => fl_int 0 i)
theorem eqv_ints (xs ys : List Int) : PyData.eqv (.list (xs.map .int)) (.list (ys.map .int)) = decide (xs = ys) := by
  simp only [PyData.eqv]; exact eqvAll_map eqv_int xs ys
@[simp] theorem vEq_ints (xs ys : List Int) : vEq (.list (xs.map .int)) (.list (ys.map .int)) = some (decide (xs = ys)) := by rw [vEq_of (fl_ints xs) (fl_ints ys) (by omega), eqv_ints]
@[simp] theorem vNe_ints (xs ys : List Int) : vNe (.list (xs.map .int)) (.list (ys.map .int)) = some (!decide (xs = ys)) := by rw [vNe_of (fl_ints xs) (fl_ints ys) (by omega), eqv_ints]
/-- pairs of numbers -/
def encQ (q : Nat × Nat) : D := .tuple [.int (q.1 : Int), .int (q.2 : Int)]
theorem fl_encQ (q : Nat × Nat) : Fl2 1 (encQ q) := fl_tuple (fl_cons (fl_int 0 _) (fl_cons (fl_int 0 _) fl_nil))
theorem eqv_encQ (a b : Nat × Nat) : PyData.eqv (encQ a) (encQ b) = decide (a = b) := by
  obtain ⟨a1, a2⟩ := a
  obtain ⟨b1, b2⟩ := b
  simp [encQ, PyData.eqv, PyData.eqvAll]
  by_cases h1 : a1 = b1 <;> by_cases h2 : a2 = b2 <;> simp [h1, h2] <;> omega
theorem vEq_encQ (xs ys : List (Nat × Nat)) : vEq (.tuple (xs.map encQ)) (.tuple (ys.map encQ)) = some (decide (xs = ys)) := by
  rw [vEq_of (fl_tuple (fl_map fl_encQ)) (fl_tuple (fl_map fl_encQ)) (by omega)]
  simp only [PyData.eqv]
  rw [eqvAll_map eqv_encQ]
theorem fRep_eq {d1 d2 : Ev → MM D} {ρ : Ev} {ω : Wd} {xs : List D} {k : Int} (h1 : d1 ρ ω = .ok (.list xs) ω) (h2 : d2 ρ ω = .ok (.int k) ω) (h0 : 0 ≤ k) (hk : k < 2 ^ 62) (h : xs.length * k.toNat ≤ sizeLine) : fRep d1 d2 ρ ω = .ok (List.replicate k.toNat xs).flatten ω := by
  unfold fRep
  rw [h1, bind_ok, h2, bind_ok]
  exact if_pos ⟨by omega, by omega, h⟩
/-! places -/
@[simp] theorem vIx_t0 (a0 : D) (r : List D) : vIx (.tuple (a0 :: r)) (.int 0) = some a0 := vIx_tuple (j := 0) rfl
@[simp] theorem vIx_l0 (a0 : D) (r : List D) : vIx (.list (a0 :: r)) (.int 0) = some a0 := vIx_list (j := 0) rfl
@[simp] theorem vIx_t1 (a0 a1 : D) (r : List D) : vIx (.tuple (a0 :: a1 :: r)) (.int 1) = some a1 := vIx_tuple (j := 1) rfl
@[simp] theorem vIx_l1 (a0 a1 : D) (r : List D) : vIx (.list (a0 :: a1 :: r)) (.int 1) = some a1 := vIx_list (j := 1) rfl
@[simp] theorem vIx_t2 (a0 a1 a2 : D) (r : List D) : vIx (.tuple (a0 :: a1 :: a2 :: r)) (.int 2) = some a2 := vIx_tuple (j := 2) rfl
@[simp] theorem vIx_l2 (a0 a1 a2 : D) (r : List D) : vIx (.list (a0 :: a1 :: a2 :: r)) (.int 2) = some a2 := vIx_list (j := 2) rfl
@[simp] theorem vIx_t3 (a0 a1 a2 a3 : D) (r : List D) : vIx (.tuple (a0 :: a1 :: a2 :: a3 :: r)) (.int 3) = some a3 := vIx_tuple (j := 3) rfl
@[simp] theorem vIx_l3 (a0 a1 a2 a3 : D) (r : List D) : vIx (.list (a0 :: a1 :: a2 :: a3 :: r)) (.int 3) = some a3 := vIx_list (j := 3) rfl
@[simp] theorem vIx_t4 (a0 a1 a2 a3 a4 : D) (r : List D) : vIx (.tuple (a0 :: a1 :: a2 :: a3 :: a4 :: r)) (.int 4) = some a4 := vIx_tuple (j := 4) rfl
@[simp] theorem vIx_l4 (a0 a1 a2 a3 a4 : D) (r : List D) : vIx (.list (a0 :: a1 :: a2 :: a3 :: a4 :: r)) (.int 4) = some a4 := vIx_list (j := 4) rfl
@[simp] theorem vIx_t5 (a0 a1 a2 a3 a4 a5 : D) (r : List D) : vIx (.tuple (a0 :: a1 :: a2 :: a3 :: a4 :: a5 :: r)) (.int 5) = some a5 := vIx_tuple (j := 5) rfl
@[simp] theorem vIx_l5 (a0 a1 a2 a3 a4 a5 : D) (r : List D) : vIx (.list (a0 :: a1 :: a2 :: a3 :: a4 :: a5 :: r)) (.int 5) = some a5 := vIx_list (j := 5) rfl
/-! ### what a law draws -/
noncomputable def dDraw : List D → MM D := runS 5 2
 ((sSeq (sIf (bBin vEq (eIxB (eC (.int 3))) (eC (.int 0))) (sSeq (sIf (bBin cGe (eIxB (eC (.int 1))) (eArgs fLen (aCons (eIxB (eC (.int 0))) aNil))) (sRet (eC (.int 0))) sNext)
 (sSeq (sAsg (eBin vIx (eIxB (eC (.int 0))) (eIxB (eC (.int 1)))) (gN 2))
 (sSeq (sIf (bBin cLt (eVar 2) (eC (.int 0))) (sAsg (eBin vSub (eUn vNeg (eC (.int 1))) (eVar 2)) (gN 2)) sNext)
 (sSeq (sSetB (eBin vAdd (eIxB (eC (.int 1))) (eC (.int 1))) (eC (.int 1)))
 (sSeq (sSetB (eVar 2) (eC (.int 2)))
 (sSeq (sSetB (eOfB (bBin cGe (eVar 2) (eBin vPow (eC (.int 10)) (eC (.int 18))))) (eC (.int 4)))
 (sSeq (sSetB (eC (.int 6)) (eC (.int 3)))
 (sIf (bTru (eIxB (eC (.int 4)))) (sSetB (eC (.int 60)) (eC (.int 3))) sNext)))))))) sNext)
 (sSeq (sSetB (eBin vSub (eIxB (eC (.int 3))) (eC (.int 1))) (eC (.int 3)))
 (sSeq (sIf (bTru (eIxB (eC (.int 4)))) (sSeq (sAsg (eBin vMod (eArgs fInt (aCons (eIxB (eC (.int 2))) aNil)) (eVar 1)) (gN 3))
 (sSeq (sSetB (eBin vFdiv (eIxB (eC (.int 2))) (eVar 1)) (eC (.int 2)))
 (sSeq (sIf (bBin vEq (eIxB (eC (.int 2))) (eC (.int 0))) (sSetB (eC (.int 0)) (eC (.int 3))) sNext)
 (sRet (eVar 3))))) sNext)
 (sSeq (sAsg (eBin vMod (eArgs fInt (aCons (eBin vAdd (eBin vAdd (eBin vMul (eIxB (eC (.int 2))) (eC (.int 48271))) (eBin vMul (eIxB (eC (.int 3))) (eC (.int 69621)))) (eC (.int 7))) aNil)) (eC (.int 2147483647))) (gN 4))
 (sSeq (sAsg (eBin vMod (eArgs fInt (aCons (eBin vAdd (eBin vAdd (eBin vMul (eVar 4) (eVar 4)) (eBin vMul (eIxB (eC (.int 2))) (eC (.int 31)))) (eIxB (eC (.int 3)))) aNil)) (eC (.int 1000003))) (gN 4))
 (sRet (eBin vMod (eArgs fInt (aCons (eVar 4) aNil)) (eVar 1)))))))))
def stO (ns : List Int) (i c k : Int) (b : Bool) : Wd := [.list (ns.map .int), .int i, .int c, .int k, .bool b, .int 500]
def StOk (ω : Wd) : Prop := ∃ ns i c k b, ω = stO ns i c k b ∧ 0 ≤ i ∧ 0 ≤ c ∧ 0 ≤ k ∧ k ≤ 60 ∧ (b = false → c < 10 ^ 18)
theorem stOk0 (ns : List Int) : StOk (ω0 ns) := ⟨ns, 0, 0, 0, false, rfl, by omega, by omega, by omega, by omega, by omega⟩
@[simp] theorem st0 (ns i c k b) : atI (stO ns i c k b) 0 = some (.list (ns.map .int)) := (rfl)
@[simp] theorem st1 (ns i c k b) : atI (stO ns i c k b) 1 = some (.int i) := (rfl)
@[simp] theorem st2 (ns i c k b) : atI (stO ns i c k b) 2 = some (.int c) := (rfl)
@[simp] theorem st3 (ns i c k b) : atI (stO ns i c k b) 3 = some (.int k) := (rfl)
@[simp] theorem st4 (ns i c k b) : atI (stO ns i c k b) 4 = some (.bool b) := (rfl)
@[simp] theorem stx1 (ns i c k b) : ixN (stO ns i c k b).length 1 = some 1 := (rfl)
@[simp] theorem stx2 (ns i c k b) : ixN (stO ns i c k b).length 2 = some 2 := (rfl)
@[simp] theorem stx3 (ns i c k b) : ixN (stO ns i c k b).length 3 = some 3 := (rfl)
@[simp] theorem stx4 (ns i c k b) : ixN (stO ns i c k b).length 4 = some 4 := (rfl)
@[simp] theorem sts1 (ns i c k b v) : (stO ns i c k b).set 1 (.int v) = stO ns v c k b := (rfl)
@[simp] theorem sts2 (ns i c k b v) : (stO ns i c k b).set 2 (.int v) = stO ns i v k b := (rfl)
@[simp] theorem sts3 (ns i c k b v) : (stO ns i c k b).set 3 (.int v) = stO ns i c v b := (rfl)
@[simp] theorem sts4 (ns i c k b v) : (stO ns i c k b).set 4 (.bool v) = stO ns i c k v := (rfl)
theorem pow18 : vPow (.int 10) (.int 18) = some (.int 1000000000000000000) := by rw [vPow_int (by decide)]; rfl
/-- the second half of it -/
theorem draw2 {ns : List Int} {i c k : Int} {b : Bool} {m : Int} (o : Option D) (hi : 0 ≤ i) (hc : 0 ≤ c) (hk : 1 ≤ k) (hk2 : k ≤ 60) (hb : b = false → c < 10 ^ 18) (hm : 0 < m) (hm2 : m < 2 ^ 250) :
    ∃ r ω', endF ((sSeq (sSetB (eBin vSub (eIxB (eC (.int 3))) (eC (.int 1))) (eC (.int 3)))
 (sSeq (sIf (bTru (eIxB (eC (.int 4)))) (sSeq (sAsg (eBin vMod (eArgs fInt (aCons (eIxB (eC (.int 2))) aNil)) (eVar 1)) (gN 3))
 (sSeq (sSetB (eBin vFdiv (eIxB (eC (.int 2))) (eVar 1)) (eC (.int 2)))
 (sSeq (sIf (bBin vEq (eIxB (eC (.int 2))) (eC (.int 0))) (sSetB (eC (.int 0)) (eC (.int 3))) sNext)
 (sRet (eVar 3))))) sNext)
 (sSeq (sAsg (eBin vMod (eArgs fInt (aCons (eBin vAdd (eBin vAdd (eBin vMul (eIxB (eC (.int 2))) (eC (.int 48271))) (eBin vMul (eIxB (eC (.int 3))) (eC (.int 69621)))) (eC (.int 7))) aNil)) (eC (.int 2147483647))) (gN 4))
 (sSeq (sAsg (eBin vMod (eArgs fInt (aCons (eBin vAdd (eBin vAdd (eBin vMul (eVar 4) (eVar 4)) (eBin vMul (eIxB (eC (.int 2))) (eC (.int 31)))) (eIxB (eC (.int 3)))) aNil)) (eC (.int 1000003))) (gN 4))
 (sRet (eBin vMod (eArgs fInt (aCons (eVar 4) aNil)) (eVar 1))))))) [none, some (.int m), o, none, none] (stO ns i c k b)) = .ok (.int r) ω' ∧ 0 ≤ r ∧ r < m ∧ StOk ω' := by
  cases b with
  | true =>
    refine ⟨c % m, ?_⟩
    have q : 0 ≤ c / m := Int.ediv_nonneg hc (by omega)
    by_cases z : c / m = 0
    · refine ⟨stO ns i 0 0 true, ?_, Int.emod_nonneg _ (by omega), Int.emod_lt_of_pos _ hm, ⟨ns, i, 0, 0, true, rfl, hi, by omega, by omega, by omega, by simp⟩⟩
      simp [modP hm, divSm hm hm2, z]
    · refine ⟨stO ns i (c / m) (k - 1) true, ?_, Int.emod_nonneg _ (by omega), Int.emod_lt_of_pos _ hm, ⟨ns, i, c / m, k - 1, true, rfl, hi, q, by omega, by omega, by simp⟩⟩
      simp [modP hm, divSm hm hm2, z]
  | false =>
    have hc2 := hb rfl
    have m1 : 0 ≤ (c * 48271 + (k - 1) * 69621 + 7) % 2147483647 := Int.emod_nonneg _ (by omega)
    have m2 : (c * 48271 + (k - 1) * 69621 + 7) % 2147483647 < 2147483647 := Int.emod_lt_of_pos _ (by omega)
    generalize hx : (c * 48271 + (k - 1) * 69621 + 7) % 2147483647 = x at m1 m2
    refine ⟨(x * x + c * 31 + (k - 1)) % 1000003 % m, stO ns i c (k - 1) false, ?_, Int.emod_nonneg _ (by omega), Int.emod_lt_of_pos _ hm, ⟨ns, i, c, k - 1, false, rfl, hi, hc, by omega, by omega, hb⟩⟩
    simp [modP hm, modP (b := 2147483647) (by omega), modP (b := 1000003) (by omega), mulSm (a := c) (b := 48271) (by omega) (by omega), mulSm (a := k - 1) (b := 69621) (by omega) (by omega), mulSm (a := c) (b := 31) (by omega) (by omega), hx, mulSm (a := x) (b := x) (by omega) (by omega)]
theorem draw_ok {ω : Wd} (h : StOk ω) {m : Int} (hm : 0 < m) (hm2 : m < 2 ^ 250) : ∃ r ω', dDraw [.int m] ω = .ok (.int r) ω' ∧ 0 ≤ r ∧ r < m ∧ StOk ω' := by
  obtain ⟨ns, i, c, k, b, rfl, hi, hc, hk, hk2, hb⟩ := h
  unfold dDraw
  rw [runS1]
  rw [sSeq_ap, sIf_ap]
  simp only [bBin_ap, eIxB_ap, eC_ap, kIxB_ok, ixB_int, st3, ofO_some, kBin_ok, kBin2_ok, vEq_int]
  by_cases z : k = 0
  · subst z
    simp only [decide_true, kIf_t]
    by_cases hl : (ns.length : Int) ≤ i
    · exact ⟨0, stO ns i c 0 b, by simp [hl], by omega, hm, ⟨ns, i, c, 0, b, rfl, hi, hc, by omega, by omega, hb⟩⟩
    · have hi2 : i.toNat < ns.length := by omega
      have hcell : vIx (.list (ns.map .int)) (.int i) = some (.int (ns[i.toNat])) := by
        have := vIx_list (xs := ns.map PyData.int) (j := i.toNat) (v := .int (ns[i.toNat])) (by simp [hi2])
        rwa [Int.toNat_of_nonneg hi] at this
      generalize hx : ns[i.toNat] = x at hcell
      by_cases hneg : x < 0
      · by_cases hbig : (1000000000000000000 : Int) ≤ -1 - x
        · obtain ⟨r, ω', h1, h2⟩ := draw2 (ns := ns) (i := i + 1) (c := -1 - x) (k := 60) (b := true) (some (.int (-1 - x))) (by omega) (by omega) (by omega) (by omega) (by simp) hm hm2
          refine ⟨r, ω', ?_, h2⟩
          rw [← h1]
          simp [hl, hcell, hneg, pow18, hbig]
        · obtain ⟨r, ω', h1, h2⟩ := draw2 (ns := ns) (i := i + 1) (c := -1 - x) (k := 6) (b := false) (some (.int (-1 - x))) (by omega) (by omega) (by omega) (by omega) (by omega) hm hm2
          refine ⟨r, ω', ?_, h2⟩
          rw [← h1]
          simp [hl, hcell, hneg, pow18, hbig]
      · by_cases hbig : (1000000000000000000 : Int) ≤ x
        · obtain ⟨r, ω', h1, h2⟩ := draw2 (ns := ns) (i := i + 1) (c := x) (k := 60) (b := true) (some (.int x)) (by omega) (by omega) (by omega) (by omega) (by simp) hm hm2
          refine ⟨r, ω', ?_, h2⟩
          rw [← h1]
          simp [hl, hcell, hneg, pow18, hbig]
        · obtain ⟨r, ω', h1, h2⟩ := draw2 (ns := ns) (i := i + 1) (c := x) (k := 6) (b := false) (some (.int x)) (by omega) (by omega) (by omega) (by omega) (by omega) hm hm2
          refine ⟨r, ω', ?_, h2⟩
          rw [← h1]
          simp [hl, hcell, hneg, pow18, hbig]
  · simp only [z, decide_false, kIf_f, sNext_ap, kSeq_next]
    exact draw2 none hi hc (by omega) hk2 hb hm hm2
end M

set_option Elab.async false
set_option linter.all false
set_option maxRecDepth 100000
set_option maxHeartbeats 4000000
namespace M
open PySem PySem.Spec PyProof.Rows L2
/-! ### sizes by themselves -/
class Szc (x : Int) (n : outParam Nat) : Prop where
  h : x.natAbs < 2 ^ n
theorem two_pow_le {m n : Nat} (h : m ≤ n) : 2 ^ m ≤ 2 ^ n := Nat.pow_le_pow_right (by omega) h
instance sz_mul {a b : Int} {m n : Nat} [ha : Szc a m] [hb : Szc b n] : Szc (a * b) (m + n) := ⟨by
  rw [Int.natAbs_mul, Nat.pow_add]
  have h1 := ha.h
  have h2 := hb.h
  exact Nat.mul_lt_mul'' h1 h2⟩
theorem two_pow_add {m n : Nat} : 2 ^ m + 2 ^ n ≤ 2 ^ (max m n + 1) := by
  have h1 := two_pow_le (Nat.le_max_left m n)
  have h2 := two_pow_le (Nat.le_max_right m n)
  rw [Nat.pow_succ]; omega
instance sz_add {a b : Int} {m n : Nat} [ha : Szc a m] [hb : Szc b n] : Szc (a + b) (max m n + 1) := ⟨by
  have h1 := ha.h
  have h2 := hb.h
  have := Int.natAbs_add_le a b
  have := @two_pow_add m n
  omega⟩
instance sz_neg {a : Int} {m : Nat} [ha : Szc a m] : Szc (-a) m := ⟨by rw [Int.natAbs_neg]; exact ha.h⟩
instance sz_sub {a b : Int} {m n : Nat} [ha : Szc a m] [hb : Szc b n] : Szc (a - b) (max m n + 1) := ⟨by
  have h1 := ha.h
  have h2 := hb.h
  have := Int.natAbs_sub_le a b
  have := @two_pow_add m n
  omega⟩
instance : Szc 0 0 := ⟨by decide⟩
instance : Szc 1 1 := ⟨by decide⟩
instance : Szc 2 2 := ⟨by decide⟩
instance : Szc 3 2 := ⟨by decide⟩
instance : Szc 4 3 := ⟨by decide⟩
instance : Szc 5 3 := ⟨by decide⟩
instance : Szc 6 3 := ⟨by decide⟩
instance : Szc 7 3 := ⟨by decide⟩
instance : Szc 8 4 := ⟨by decide⟩
instance : Szc 9 4 := ⟨by decide⟩
instance : Szc 10 4 := ⟨by decide⟩
instance : Szc 11 4 := ⟨by decide⟩
instance : Szc 12 4 := ⟨by decide⟩
instance : Szc 13 4 := ⟨by decide⟩
instance : Szc 14 4 := ⟨by decide⟩
instance : Szc 15 4 := ⟨by decide⟩
instance : Szc 16 5 := ⟨by decide⟩
instance : Szc 17 5 := ⟨by decide⟩
instance : Szc 18 5 := ⟨by decide⟩
instance : Szc 19 5 := ⟨by decide⟩
instance : Szc 20 5 := ⟨by decide⟩
instance : Szc 21 5 := ⟨by decide⟩
instance : Szc 22 5 := ⟨by decide⟩
instance : Szc 23 5 := ⟨by decide⟩
instance : Szc 24 5 := ⟨by decide⟩
instance : Szc 25 5 := ⟨by decide⟩
instance : Szc 26 5 := ⟨by decide⟩
instance : Szc 27 5 := ⟨by decide⟩
instance : Szc 28 5 := ⟨by decide⟩
instance : Szc 29 5 := ⟨by decide⟩
instance : Szc 30 5 := ⟨by decide⟩
instance : Szc 31 5 := ⟨by decide⟩
instance : Szc 32 6 := ⟨by decide⟩
instance : Szc 33 6 := ⟨by decide⟩
instance : Szc 34 6 := ⟨by decide⟩
instance : Szc 35 6 := ⟨by decide⟩
instance : Szc 36 6 := ⟨by decide⟩
instance : Szc 37 6 := ⟨by decide⟩
instance : Szc 38 6 := ⟨by decide⟩
instance : Szc 39 6 := ⟨by decide⟩
instance : Szc 40 6 := ⟨by decide⟩
instance : Szc 41 6 := ⟨by decide⟩
instance : Szc 42 6 := ⟨by decide⟩
instance : Szc 43 6 := ⟨by decide⟩
instance : Szc 44 6 := ⟨by decide⟩
instance : Szc 45 6 := ⟨by decide⟩
instance : Szc 46 6 := ⟨by decide⟩
instance : Szc 47 6 := ⟨by decide⟩
instance : Szc 48 6 := ⟨by decide⟩
instance : Szc 49 6 := ⟨by decide⟩
instance : Szc 50 6 := ⟨by decide⟩
instance : Szc 51 6 := ⟨by decide⟩
instance : Szc 52 6 := ⟨by decide⟩
instance : Szc 53 6 := ⟨by decide⟩
instance : Szc 54 6 := ⟨by decide⟩
instance : Szc 55 6 := ⟨by decide⟩
instance : Szc 56 6 := ⟨by decide⟩
instance : Szc 57 6 := ⟨by decide⟩
instance : Szc 58 6 := ⟨by decide⟩
instance : Szc 59 6 := ⟨by decide⟩
instance : Szc 60 6 := ⟨by decide⟩
instance : Szc 61 6 := ⟨by decide⟩
instance : Szc 62 6 := ⟨by decide⟩
instance : Szc 63 6 := ⟨by decide⟩
instance : Szc 64 7 := ⟨by decide⟩
instance : Szc 99 7 := ⟨by decide⟩
instance : Szc 100 7 := ⟨by decide⟩
instance : Szc 120 7 := ⟨by decide⟩
instance : Szc 121 7 := ⟨by decide⟩
instance : Szc 128 8 := ⟨by decide⟩
instance : Szc 200 8 := ⟨by decide⟩
instance : Szc 256 9 := ⟨by decide⟩
instance : Szc 400 9 := ⟨by decide⟩
instance : Szc 500 9 := ⟨by decide⟩
instance : Szc 512 10 := ⟨by decide⟩
instance : Szc 700 10 := ⟨by decide⟩
instance : Szc 1000 10 := ⟨by decide⟩
instance : Szc 1024 11 := ⟨by decide⟩
instance : Szc 10000 14 := ⟨by decide⟩
instance : Szc 100000 17 := ⟨by decide⟩
instance : Szc 1000000 20 := ⟨by decide⟩
instance : Szc 1000000000000 40 := ⟨by decide⟩
instance sz_div {a b : Int} {m : Nat} [ha : Szc a m] : Szc (a / b) m := ⟨Nat.lt_of_le_of_lt (Int.natAbs_ediv_le_natAbs a b) ha.h⟩
instance sz_mod {a b : Int} {m n : Nat} [ha : Szc a m] [hb : Szc b n] : Szc (a % b) (max m n) := ⟨by
  have h1 := ha.h
  have h2 := hb.h
  by_cases z : b = 0
  · subst z
    rw [Int.emod_zero]
    exact Nat.lt_of_lt_of_le h1 (two_pow_le (Nat.le_max_left m n))
  · have e1 := Int.emod_nonneg a z
    have e2 := Int.emod_lt a z
    have e3 := two_pow_le (Nat.le_max_right m n)
    omega⟩
theorem log2_lt_of {x n : Nat} (h : x < 2 ^ n) : x.log2 ≤ n := by
  by_cases z : x = 0
  · subst z; simp
  · exact Nat.le_of_lt ((Nat.log2_lt z).2 h)
theorem mulOk_c {a b : Int} {m n : Nat} [ha : Szc a m] [hb : Szc b n] (h : m + n < 1000000) : mulOk a b := by
  have h1 := log2_lt_of ha.h
  have h2 := log2_lt_of hb.h
  unfold mulOk
  omega
@[simp] theorem vMul_c {a b : Int} {m n : Nat} [ha : Szc a m] [hb : Szc b n] (h : m + n < 1000000) : vMul (.int a) (.int b) = some (.int (a * b)) := vMul_int (mulOk_c h)
@[simp] theorem vMulI_c {a b : Int} {m n : Nat} [ha : Szc a m] [hb : Szc b n] (h : m + n < 1000000) : vMulI (.int a) (.int b) = some (.int (a * b)) := vMulI_int (mulOk_c h)
theorem vFdiv_c {a b : Int} {n : Nat} [hb : Szc b n] (h : n < 9000) (h0 : b ≠ 0) : vFdiv (.int a) (.int b) = some (.int (a.fdiv b)) := vFdiv_int ⟨h0, by have := log2_lt_of hb.h; omega⟩
theorem sz_of {x : Int} {n : Nat} (h : -(2 ^ n : Nat) < x) (h2 : x < (2 ^ n : Nat)) : Szc x n := ⟨by omega⟩
theorem tst (a b c : Int) (ha : 0 ≤ a ∧ a < 121) (hb : 0 ≤ b ∧ b < 121) : vMul (.int (a * a - 4 * b)) (.int (a * 20 - 7 * b * b)) = some (.int ((a * a - 4 * b) * (a * 20 - 7 * b * b))) := by
  haveI : Szc a 7 := sz_of (by omega) (by omega)
  haveI : Szc b 7 := sz_of (by omega) (by omega)
  simp
end M

set_option Elab.async false
set_option linter.all false
set_option maxRecDepth 100000
set_option maxHeartbeats 4000000
namespace M
open PySem PySem.Spec PyProof.Rows L2
/-! ### more equalities -/
theorem vEq_ti (xs ys : List Int) : vEq (.tuple (xs.map .int)) (.tuple (ys.map .int)) = some (decide (xs = ys)) := by
  rw [vEq_of (fl_tuple (fl_map fun i => fl_int 0 i)) (fl_tuple (fl_map fun i => fl_int 0 i)) (by omega)]
  exact congrArg some (eqvAll_map eqv_int xs ys)
theorem vNe_ti (xs ys : List Int) : vNe (.tuple (xs.map .int)) (.tuple (ys.map .int)) = some (!decide (xs = ys)) := by
  rw [vNe_of (fl_tuple (fl_map fun i => fl_int 0 i)) (fl_tuple (fl_map fun i => fl_int 0 i)) (by omega)]
  exact congrArg (fun z => some (!z)) (eqvAll_map eqv_int xs ys)
@[simp] theorem vEq_t1 (a0 b0 : Int) : vEq (.tuple [.int a0]) (.tuple [.int b0]) = some (decide ([a0] = [b0])) := vEq_ti [a0] [b0]
@[simp] theorem vNe_t1 (a0 b0 : Int) : vNe (.tuple [.int a0]) (.tuple [.int b0]) = some (!decide ([a0] = [b0])) := vNe_ti [a0] [b0]
@[simp] theorem vEq_l1 (a0 b0 : Int) : vEq (.list [.int a0]) (.list [.int b0]) = some (decide ([a0] = [b0])) := vEq_ints [a0] [b0]
@[simp] theorem vNe_l1 (a0 b0 : Int) : vNe (.list [.int a0]) (.list [.int b0]) = some (!decide ([a0] = [b0])) := vNe_ints [a0] [b0]
@[simp] theorem vEq_t2 (a0 a1 b0 b1 : Int) : vEq (.tuple [.int a0, .int a1]) (.tuple [.int b0, .int b1]) = some (decide ([a0, a1] = [b0, b1])) := vEq_ti [a0, a1] [b0, b1]
@[simp] theorem vNe_t2 (a0 a1 b0 b1 : Int) : vNe (.tuple [.int a0, .int a1]) (.tuple [.int b0, .int b1]) = some (!decide ([a0, a1] = [b0, b1])) := vNe_ti [a0, a1] [b0, b1]
@[simp] theorem vEq_l2 (a0 a1 b0 b1 : Int) : vEq (.list [.int a0, .int a1]) (.list [.int b0, .int b1]) = some (decide ([a0, a1] = [b0, b1])) := vEq_ints [a0, a1] [b0, b1]
@[simp] theorem vNe_l2 (a0 a1 b0 b1 : Int) : vNe (.list [.int a0, .int a1]) (.list [.int b0, .int b1]) = some (!decide ([a0, a1] = [b0, b1])) := vNe_ints [a0, a1] [b0, b1]
@[simp] theorem vEq_t3 (a0 a1 a2 b0 b1 b2 : Int) : vEq (.tuple [.int a0, .int a1, .int a2]) (.tuple [.int b0, .int b1, .int b2]) = some (decide ([a0, a1, a2] = [b0, b1, b2])) := vEq_ti [a0, a1, a2] [b0, b1, b2]
@[simp] theorem vNe_t3 (a0 a1 a2 b0 b1 b2 : Int) : vNe (.tuple [.int a0, .int a1, .int a2]) (.tuple [.int b0, .int b1, .int b2]) = some (!decide ([a0, a1, a2] = [b0, b1, b2])) := vNe_ti [a0, a1, a2] [b0, b1, b2]
@[simp] theorem vEq_l3 (a0 a1 a2 b0 b1 b2 : Int) : vEq (.list [.int a0, .int a1, .int a2]) (.list [.int b0, .int b1, .int b2]) = some (decide ([a0, a1, a2] = [b0, b1, b2])) := vEq_ints [a0, a1, a2] [b0, b1, b2]
@[simp] theorem vNe_l3 (a0 a1 a2 b0 b1 b2 : Int) : vNe (.list [.int a0, .int a1, .int a2]) (.list [.int b0, .int b1, .int b2]) = some (!decide ([a0, a1, a2] = [b0, b1, b2])) := vNe_ints [a0, a1, a2] [b0, b1, b2]
@[simp] theorem vEq_t4 (a0 a1 a2 a3 b0 b1 b2 b3 : Int) : vEq (.tuple [.int a0, .int a1, .int a2, .int a3]) (.tuple [.int b0, .int b1, .int b2, .int b3]) = some (decide ([a0, a1, a2, a3] = [b0, b1, b2, b3])) := vEq_ti [a0, a1, a2, a3] [b0, b1, b2, b3]
@[simp] theorem vNe_t4 (a0 a1 a2 a3 b0 b1 b2 b3 : Int) : vNe (.tuple [.int a0, .int a1, .int a2, .int a3]) (.tuple [.int b0, .int b1, .int b2, .int b3]) = some (!decide ([a0, a1, a2, a3] = [b0, b1, b2, b3])) := vNe_ti [a0, a1, a2, a3] [b0, b1, b2, b3]
@[simp] theorem vEq_l4 (a0 a1 a2 a3 b0 b1 b2 b3 : Int) : vEq (.list [.int a0, .int a1, .int a2, .int a3]) (.list [.int b0, .int b1, .int b2, .int b3]) = some (decide ([a0, a1, a2, a3] = [b0, b1, b2, b3])) := vEq_ints [a0, a1, a2, a3] [b0, b1, b2, b3]
@[simp] theorem vNe_l4 (a0 a1 a2 a3 b0 b1 b2 b3 : Int) : vNe (.list [.int a0, .int a1, .int a2, .int a3]) (.list [.int b0, .int b1, .int b2, .int b3]) = some (!decide ([a0, a1, a2, a3] = [b0, b1, b2, b3])) := vNe_ints [a0, a1, a2, a3] [b0, b1, b2, b3]
@[simp] theorem vEq_t5 (a0 a1 a2 a3 a4 b0 b1 b2 b3 b4 : Int) : vEq (.tuple [.int a0, .int a1, .int a2, .int a3, .int a4]) (.tuple [.int b0, .int b1, .int b2, .int b3, .int b4]) = some (decide ([a0, a1, a2, a3, a4] = [b0, b1, b2, b3, b4])) := vEq_ti [a0, a1, a2, a3, a4] [b0, b1, b2, b3, b4]
@[simp] theorem vNe_t5 (a0 a1 a2 a3 a4 b0 b1 b2 b3 b4 : Int) : vNe (.tuple [.int a0, .int a1, .int a2, .int a3, .int a4]) (.tuple [.int b0, .int b1, .int b2, .int b3, .int b4]) = some (!decide ([a0, a1, a2, a3, a4] = [b0, b1, b2, b3, b4])) := vNe_ti [a0, a1, a2, a3, a4] [b0, b1, b2, b3, b4]
@[simp] theorem vEq_l5 (a0 a1 a2 a3 a4 b0 b1 b2 b3 b4 : Int) : vEq (.list [.int a0, .int a1, .int a2, .int a3, .int a4]) (.list [.int b0, .int b1, .int b2, .int b3, .int b4]) = some (decide ([a0, a1, a2, a3, a4] = [b0, b1, b2, b3, b4])) := vEq_ints [a0, a1, a2, a3, a4] [b0, b1, b2, b3, b4]
@[simp] theorem vNe_l5 (a0 a1 a2 a3 a4 b0 b1 b2 b3 b4 : Int) : vNe (.list [.int a0, .int a1, .int a2, .int a3, .int a4]) (.list [.int b0, .int b1, .int b2, .int b3, .int b4]) = some (!decide ([a0, a1, a2, a3, a4] = [b0, b1, b2, b3, b4])) := vNe_ints [a0, a1, a2, a3, a4] [b0, b1, b2, b3, b4]
@[simp] theorem vNe_nn : vNe .none .none = some false := (rfl)
@[simp] theorem vEq_nn : vEq .none .none = some true := (rfl)
@[simp] theorem vEq_ni (i : Int) : vEq .none (.int i) = some false := by simp [vEq, PyData.eqv]
@[simp] theorem vEq_in (i : Int) : vEq (.int i) .none = some false := by simp [vEq, PyData.eqv]
@[simp] theorem vNe_ni (i : Int) : vNe .none (.int i) = some true := by simp [vNe, PyData.eqv]
@[simp] theorem vNe_in (i : Int) : vNe (.int i) .none = some true := by simp [vNe, PyData.eqv]
@[simp] theorem vEq_b (a b : Bool) : vEq (.bool a) (.bool b) = some (decide (a = b)) := by simp [vEq, eqv_bool]
@[simp] theorem vNe_b (a b : Bool) : vNe (.bool a) (.bool b) = some (!decide (a = b)) := by simp [vNe, eqv_bool]
theorem fAll_bools0 (bs : List Bool) : fAll [.list (bs.map .bool)] = some (.bool (bs.all id)) := by simp [fAll]
theorem fAll_cons1 (b : Bool) (bs : List Bool) : fAll [.list ((b :: bs).map .bool)] = some (.bool ((b :: bs).all id)) := fAll_bools0 (b :: bs)
theorem lcGo_nil (g : D → Ev → Option Ev) (t : Ev → MM Bool) (d : Ev → MM D) (ρ0 : Ev) (w : Wd) : lcGo g t d ρ0 [] w = .ok [] w := (rfl)
def kLg3 (v : D) : Res (List D) → Res (List D)
  | .ok ys w => .ok (v :: ys) w
  | .exc e w => .exc e w
  | .bad => .bad
def kLg2 (g : D → Ev → Option Ev) (t : Ev → MM Bool) (d : Ev → MM D) (ρ0 : Ev) (xs : List D) : Res D → Res (List D)
  | .ok v w => kLg3 v (lcGo g t d ρ0 xs w)
  | _ => .bad
def kLg1 (g : D → Ev → Option Ev) (t : Ev → MM Bool) (d : Ev → MM D) (ρ0 ρ1 : Ev) (xs : List D) : Res Bool → Res (List D)
  | .ok true w => kLg2 g t d ρ0 xs (d ρ1 w)
  | .ok false w => lcGo g t d ρ0 xs w
  | _ => .bad
def kLg (g : D → Ev → Option Ev) (t : Ev → MM Bool) (d : Ev → MM D) (ρ0 : Ev) (xs : List D) (w : Wd) : Option Ev → Res (List D)
  | some ρ1 => kLg1 g t d ρ0 ρ1 xs (t ρ1 w)
  | none => .bad
theorem lcGo_cons (g : D → Ev → Option Ev) (t : Ev → MM Bool) (d : Ev → MM D) (ρ0 : Ev) (x : D) (xs : List D) (w : Wd) : lcGo g t d ρ0 (x :: xs) w = kLg g t d ρ0 xs w (g x ρ0) := by
  rw [lcGo]
  cases g x ρ0 with
  | none => rfl
  | some ρ1 =>
    simp only [ofO_some, bind_ok, kLg]
    cases t ρ1 w with
    | ok b w2 =>
      cases b with
      | false => rfl
      | true =>
        simp only [noX_ok, bind_ok, kLg1]
        cases d ρ1 w2 with
        | ok v w3 =>
          simp only [noX_ok, bind_ok, kLg2]
          cases lcGo g t d ρ0 xs w3 <;> rfl
        | _ => rfl
    | _ => rfl
@[simp] theorem kLg_some (g : D → Ev → Option Ev) (t : Ev → MM Bool) (d : Ev → MM D) (ρ0 ρ1 : Ev) (xs : List D) (w : Wd) : kLg g t d ρ0 xs w (some ρ1) = kLg1 g t d ρ0 ρ1 xs (t ρ1 w) := (rfl)
@[simp] theorem kLg1_t (g : D → Ev → Option Ev) (t : Ev → MM Bool) (d : Ev → MM D) (ρ0 ρ1 : Ev) (xs : List D) (w : Wd) : kLg1 g t d ρ0 ρ1 xs (.ok true w) = kLg2 g t d ρ0 xs (d ρ1 w) := (rfl)
@[simp] theorem kLg1_f (g : D → Ev → Option Ev) (t : Ev → MM Bool) (d : Ev → MM D) (ρ0 ρ1 : Ev) (xs : List D) (w : Wd) : kLg1 g t d ρ0 ρ1 xs (.ok false w) = lcGo g t d ρ0 xs w := (rfl)
@[simp] theorem kLg2_ok (g : D → Ev → Option Ev) (t : Ev → MM Bool) (d : Ev → MM D) (ρ0 : Ev) (xs : List D) (v : D) (w : Wd) : kLg2 g t d ρ0 xs (.ok v w) = kLg3 v (lcGo g t d ρ0 xs w) := (rfl)
@[simp] theorem kLg3_ok (v : D) (ys : List D) (w : Wd) : kLg3 v (.ok ys w) = .ok (v :: ys) w := (rfl)
/-! slices -/
def kOp : Res D → Res (Option Int)
  | .ok (.int i) w => .ok (some i) w
  | .ok _ _ => .bad
  | .exc e w => .exc e w
  | .bad => .bad
@[simp] theorem kOp_int (i : Int) (w : Wd) : kOp (.ok (.int i) w) = .ok (some i) w := (rfl)
@[simp] theorem oPart_ap (d : Ev → MM D) (ρ : Ev) (ω : Wd) : oPart d ρ ω = kOp (d ρ ω) := by
  unfold oPart
  cases d ρ ω with
  | ok a w => cases a <;> rfl
  | _ => rfl
@[simp] theorem oNone_ap (ρ : Ev) (ω : Wd) : oNone ρ ω = .ok none ω := (rfl)
def kSl3 (a : D) (l : Option Int) : Res (Option Int) → Res D
  | .ok h w => ofO (vSl a l h) w
  | .exc e w => .exc e w
  | .bad => .bad
def kSl2 (dh : Ev → MM (Option Int)) (ρ : Ev) (a : D) : Res (Option Int) → Res D
  | .ok l w => kSl3 a l (dh ρ w)
  | .exc e w => .exc e w
  | .bad => .bad
def kSl (dl dh : Ev → MM (Option Int)) (ρ : Ev) : Res D → Res D
  | .ok a w => kSl2 dh ρ a (dl ρ w)
  | .exc e w => .exc e w
  | .bad => .bad
@[simp] theorem kSl3_ok (a : D) (l h : Option Int) (w : Wd) : kSl3 a l (.ok h w) = ofO (vSl a l h) w := (rfl)
@[simp] theorem kSl2_ok (dh : Ev → MM (Option Int)) (ρ : Ev) (a : D) (l : Option Int) (w : Wd) : kSl2 dh ρ a (.ok l w) = kSl3 a l (dh ρ w) := (rfl)
@[simp] theorem kSl_ok (dl dh : Ev → MM (Option Int)) (ρ : Ev) (a : D) (w : Wd) : kSl dl dh ρ (.ok a w) = kSl2 dh ρ a (dl ρ w) := (rfl)
@[simp] theorem eSl_ap (d : Ev → MM D) (dl dh : Ev → MM (Option Int)) (ρ : Ev) (ω : Wd) : eSl d dl dh ρ ω = kSl dl dh ρ (d ρ ω) := by
  unfold eSl
  cases d ρ ω with
  | ok a w =>
    simp only [bind_ok, kSl_ok]
    cases dl ρ w with
    | ok l w =>
      simp only [bind_ok, kSl2_ok]
      cases dh ρ w <;> rfl
    | _ => rfl
  | _ => rfl
@[simp] theorem vSl_tuple (xs : List D) (lo hi : Option Int) : vSl (.tuple xs) lo hi = some (.tuple (cutD xs lo hi)) := (rfl)
@[simp] theorem vSl_list (xs : List D) (lo hi : Option Int) : vSl (.list xs) lo hi = some (.list (cutD xs lo hi)) := (rfl)
@[simp] theorem cut_h2 (x y : D) : cutD [x, y] none (some 2) = [x, y] := (rfl)
@[simp] theorem cut_h23 (x y z : D) : cutD [x, y, z] none (some 2) = [x, y] := (rfl)
@[simp] theorem cut_h24 (x y z u : D) : cutD [x, y, z, u] none (some 2) = [x, y] := (rfl)
@[simp] theorem cut_h34 (x y z u : D) : cutD [x, y, z, u] none (some 3) = [x, y, z] := (rfl)
theorem shaped_str {x : PySem.Str} : SeqAt.shaped (.str x) = PyData.canLay0 (.str x) := by simp [SeqAt.shaped, PyData.depth]
@[simp] theorem kLc_l0 (g : D → Ev → Option Ev) (t : Ev → MM Bool) (d : Ev → MM D) (ρ0 : Ev) (w : Wd) : kLc g t d ρ0 (.ok [] w) = lcGo g t d ρ0 [] w := kLc_ok (by show 0 ≤ 16777216; omega)
@[simp] theorem kLc_l1 (g : D → Ev → Option Ev) (t : Ev → MM Bool) (d : Ev → MM D) (ρ0 : Ev) (a0 : D) (w : Wd) : kLc g t d ρ0 (.ok [a0] w) = lcGo g t d ρ0 [a0] w := kLc_ok (by show 1 ≤ 16777216; omega)
@[simp] theorem kLc_l2 (g : D → Ev → Option Ev) (t : Ev → MM Bool) (d : Ev → MM D) (ρ0 : Ev) (a0 a1 : D) (w : Wd) : kLc g t d ρ0 (.ok [a0, a1] w) = lcGo g t d ρ0 [a0, a1] w := kLc_ok (by show 2 ≤ 16777216; omega)
@[simp] theorem kLc_l3 (g : D → Ev → Option Ev) (t : Ev → MM Bool) (d : Ev → MM D) (ρ0 : Ev) (a0 a1 a2 : D) (w : Wd) : kLc g t d ρ0 (.ok [a0, a1, a2] w) = lcGo g t d ρ0 [a0, a1, a2] w := kLc_ok (by show 3 ≤ 16777216; omega)
@[simp] theorem kLc_l4 (g : D → Ev → Option Ev) (t : Ev → MM Bool) (d : Ev → MM D) (ρ0 : Ev) (a0 a1 a2 a3 : D) (w : Wd) : kLc g t d ρ0 (.ok [a0, a1, a2, a3] w) = lcGo g t d ρ0 [a0, a1, a2, a3] w := kLc_ok (by show 4 ≤ 16777216; omega)
@[simp] theorem kLc_l5 (g : D → Ev → Option Ev) (t : Ev → MM Bool) (d : Ev → MM D) (ρ0 : Ev) (a0 a1 a2 a3 a4 : D) (w : Wd) : kLc g t d ρ0 (.ok [a0, a1, a2, a3, a4] w) = lcGo g t d ρ0 [a0, a1, a2, a3, a4] w := kLc_ok (by show 5 ≤ 16777216; omega)
@[simp] theorem kLc_l6 (g : D → Ev → Option Ev) (t : Ev → MM Bool) (d : Ev → MM D) (ρ0 : Ev) (a0 a1 a2 a3 a4 a5 : D) (w : Wd) : kLc g t d ρ0 (.ok [a0, a1, a2, a3, a4, a5] w) = lcGo g t d ρ0 [a0, a1, a2, a3, a4, a5] w := kLc_ok (by show 6 ≤ 16777216; omega)
@[simp] theorem kLc_l7 (g : D → Ev → Option Ev) (t : Ev → MM Bool) (d : Ev → MM D) (ρ0 : Ev) (a0 a1 a2 a3 a4 a5 a6 : D) (w : Wd) : kLc g t d ρ0 (.ok [a0, a1, a2, a3, a4, a5, a6] w) = lcGo g t d ρ0 [a0, a1, a2, a3, a4, a5, a6] w := kLc_ok (by show 7 ≤ 16777216; omega)
@[simp] theorem kLc_l8 (g : D → Ev → Option Ev) (t : Ev → MM Bool) (d : Ev → MM D) (ρ0 : Ev) (a0 a1 a2 a3 a4 a5 a6 a7 : D) (w : Wd) : kLc g t d ρ0 (.ok [a0, a1, a2, a3, a4, a5, a6, a7] w) = lcGo g t d ρ0 [a0, a1, a2, a3, a4, a5, a6, a7] w := kLc_ok (by show 8 ≤ 16777216; omega)
@[simp] theorem kLc_l9 (g : D → Ev → Option Ev) (t : Ev → MM Bool) (d : Ev → MM D) (ρ0 : Ev) (a0 a1 a2 a3 a4 a5 a6 a7 a8 : D) (w : Wd) : kLc g t d ρ0 (.ok [a0, a1, a2, a3, a4, a5, a6, a7, a8] w) = lcGo g t d ρ0 [a0, a1, a2, a3, a4, a5, a6, a7, a8] w := kLc_ok (by show 9 ≤ 16777216; omega)
@[simp] theorem kLc_l10 (g : D → Ev → Option Ev) (t : Ev → MM Bool) (d : Ev → MM D) (ρ0 : Ev) (a0 a1 a2 a3 a4 a5 a6 a7 a8 a9 : D) (w : Wd) : kLc g t d ρ0 (.ok [a0, a1, a2, a3, a4, a5, a6, a7, a8, a9] w) = lcGo g t d ρ0 [a0, a1, a2, a3, a4, a5, a6, a7, a8, a9] w := kLc_ok (by show 10 ≤ 16777216; omega)
end M

set_option Elab.async false
set_option linter.all false
set_option maxRecDepth 100000
set_option maxHeartbeats 4000000
namespace M
open PySem PySem.Spec PyProof.Rows L2
def topS (i : Nat) : Stmt := PySem.Challenge.pw_rootsooth_k04_matrices_and_their_words.main.body.getD i (.Pass ⟨0, 0, 0, 0⟩)
/-- what the top has written -/
structure Txt (K : PySem.W.Frag) (mg : PySem.Str → Option Value) : Prop where
  f_is_integer : Def K mg "is_integer" (topS 1) ["value"]
  f_is_row : Def K mg "is_row" (topS 2) ["value", "size"]
  f_is_twist : Def K mg "is_twist" (topS 6) ["value"]
  f_after_twist : Def K mg "after_twist" (topS 7) ["one", "other"]
  f_undone_twist : Def K mg "undone_twist" (topS 8) ["one"]
  f_shift : Def K mg "shift" (topS 9) ["count"]
  f_twist_power : Def K mg "twist_power" (topS 10) ["one", "count"]
  f_word_of_twist : Def K mg "word_of_twist" (topS 11) ["one"]
  f_twist_of_word : Def K mg "twist_of_word" (topS 12) ["sign", "counts"]
  f_moved_point : Def K mg "moved_point" (topS 13) ["one", "point"]
  f_trace_of_twist : Def K mg "trace_of_twist" (topS 14) ["one"]
  f_period_of_twist : Def K mg "period_of_twist" (topS 15) ["one"]
  f_with_first_column : Def K mg "with_first_column" (topS 16) ["x", "y", "factors"]
  f_L_state : Def K mg "_law_state" (topS 18) ["script"]
  f_L_draw : Def K mg "_law_draw" (topS 19) ["state", "limit"]
  f_L_truth : Def K mg "_law_truth" (topS 20) ["told", "due"]
  f_L_twist : Def K mg "_law_twist" (topS 21) ["state"]
  f_L_product : Def K mg "_law_product" (topS 22) ["one", "two"]
  f_L_word : Def K mg "_law_word" (topS 23) ["one"]
  f_L_of_word : Def K mg "_law_of_word" (topS 24) ["sign", "counts"]
  f_law : Def K mg "law" (topS 25) ["script"]
  b_abs : mg "abs" = none
  b_all : mg "all" = none
  b_bool : mg "bool" = none
  b_enumerate : mg "enumerate" = none
  b_int : mg "int" = none
  b_isinstance : mg "isinstance" = none
  b_len : mg "len" = none
  b_list : mg "list" = none
  b_range : mg "range" = none
  b_tuple : mg "tuple" = none
  c_STRAIGHT : CTup K mg "STRAIGHT" [1, 0, 0, 1]
  c_TURN : CTup K mg "TURN" [0, -1, 1, 0]
section
variable {P : Program} {w : World} {K : PySem.W.Frag} {mg : PySem.Str → Option Value} {base : Heap}
/-! ### is_integer -/
abbrev s_is_integer : Stmt := topS 1
abbrev N_is_integer : List PySem.Str := ["value"]
theorem sc_is_integer : FnScope N_is_integer ["value"] (defScope s_is_integer) := ⟨rfl, rfl, rfl, by decide +kernel, rfl, by decide +kernel, by decide +kernel⟩
noncomputable def d_is_integer : List D → Res D := runF 1 1
 ((sRet (eAnd (eUn (fIsi "int") (eVar 0)) (eOfB (bNot (bOfE (eUn (fIsi "bool") (eVar 0))))))))
theorem ok_is_integer (T : Txt K mg) : FnD P w K mg base "is_integer" 1 1 d_is_integer :=
 own_P (mn := ⟨[], none⟩) (mb := ⟨[], none⟩) (mc := ⟨[], none⟩) T.f_is_integer sc_is_integer rfl fun f F0 cdv A outer s H E hr =>
 (ss_one (s_ret (e_and (e_isi tyOk_int rfl rfl T.b_isinstance rfl T.b_int (by decide +kernel) (e_var (by decide) (pv 0))) (e_one (e_not (e_isi tyOk_bool rfl rfl T.b_isinstance rfl T.b_bool (by decide +kernel) (e_var (by decide) (pv 0))))))))
/-! ### is_row -/
abbrev s_is_row : Stmt := topS 2
abbrev N_is_row : List PySem.Str := ["value", "size", "part"]
theorem sc_is_row : FnScope N_is_row ["value", "size"] (defScope s_is_row) := ⟨rfl, rfl, rfl, by decide +kernel, rfl, by decide +kernel, by decide +kernel⟩
noncomputable def d_is_row : List D → Res D := runF 3 2
 ((sSeq (sIf (bOr (bNot (bTru (eUn (fIsi "tuple") (eVar 0)))) (bBin vNe (eArgs fLen (aCons (eVar 0) aNil)) (eVar 1))) (sRet (eC (.bool false))) sNext)
 (sRet (eArgs fAll (aCons (eOfF (lcD (iSeq (eVar 0)) (gN 2) bYes (eCall d_is_integer (aCons (eVar 2) aNil)) [2])) aNil)))))
theorem ok_is_row (T : Txt K mg) : FnD P w K mg base "is_row" 2 2 d_is_row :=
 own_P (mn := ⟨[], none⟩) (mb := ⟨[], none⟩) (mc := ⟨[], none⟩) T.f_is_row sc_is_row rfl fun f F0 cdv A outer s H E hr =>
 (ss_cons (m1 := ⟨[], none⟩) (s_if (b_w (bw_or (b_not (b_tru (e_isi tyOk_tuple rfl rfl T.b_isinstance rfl T.b_tuple (by decide +kernel) (e_var (by decide) (pv 0))) rfl)) (bw_or1 (b_cmp (op_neD hr.units) (v_ne rfl) (e_callB call_len (v_len rfl) rfl T.b_len (by decide +kernel) (a_cons (e_var (by decide) (pv 0)) a_nil)) (e_var (by decide) (pv 1)) (nomark _))))) (ss_one (s_ret e_bl)) ss_nil)
 (ss_one (s_ret (e_callB (cr_all rfl) (v_all rfl) rfl T.b_all (by decide +kernel) (a_cons (e_ofF (f_lc rfl sc_is_row.nd  (i_seq rfl (e_var (by decide) (pv 0))) (blkOk_by (own := [("part", 2)]) (N := N_is_row) (sc := defScope s_is_row) (by decide +kernel)) (fun _ _ _ _ _ => (g_name (pg_name (i := 2) sc_is_row.nd rfl (.inl rfl)))) (fun _ _ _ _ _ => t_nil) (fun _ _ _ _ _ => (e_call (ok_is_integer T) hr rfl rfl takes0 (a_cons (e_var (by decide) (pv 2)) a_nil) rfl)))) a_nil)))))
/-! ### is_twist -/
abbrev s_is_twist : Stmt := topS 6
abbrev N_is_twist : List PySem.Str := ["value"]
theorem sc_is_twist : FnScope N_is_twist ["value"] (defScope s_is_twist) := ⟨rfl, rfl, rfl, by decide +kernel, rfl, by decide +kernel, by decide +kernel⟩
noncomputable def d_is_twist : List D → Res D := runF 1 1
 ((sRet (eAnd (eCall d_is_row (aCons (eVar 0) (aCons (eC (.int 4)) aNil))) (eOfB (bBin vEq (eBin vSub (eBin vMul (eBin vIx (eVar 0) (eC (.int 0))) (eBin vIx (eVar 0) (eC (.int 3)))) (eBin vMul (eBin vIx (eVar 0) (eC (.int 1))) (eBin vIx (eVar 0) (eC (.int 2))))) (eC (.int 1)))))))
theorem ok_is_twist (T : Txt K mg) : FnD P w K mg base "is_twist" 3 1 d_is_twist :=
 own_P (mn := ⟨[], none⟩) (mb := ⟨[], none⟩) (mc := ⟨[], none⟩) T.f_is_twist sc_is_twist rfl fun f F0 cdv A outer s H E hr =>
 (ss_one (s_ret (e_and (e_call (ok_is_row T) hr rfl rfl takes_ok (a_cons (e_var (by decide) (pv 0)) (a_cons e_int a_nil)) rfl) (e_one (e_cmp (op_eqD hr.units) (v_eq rfl) (e_bin op_sub v_sub (e_bin op_mulX v_mul (e_ix ix_seq (v_ix rfl) (e_var (by decide) (pv 0)) e_int (fun _ _ => rfl)) (e_ix ix_seq (v_ix rfl) (e_var (by decide) (pv 0)) e_int (fun _ _ => rfl))) (e_bin op_mulX v_mul (e_ix ix_seq (v_ix rfl) (e_var (by decide) (pv 0)) e_int (fun _ _ => rfl)) (e_ix ix_seq (v_ix rfl) (e_var (by decide) (pv 0)) e_int (fun _ _ => rfl)))) e_int (nomark _))))))
/-! ### after_twist -/
abbrev s_after_twist : Stmt := topS 7
abbrev N_after_twist : List PySem.Str := ["one", "other", "a", "b", "c", "d", "p", "q", "r", "s"]
theorem sc_after_twist : FnScope N_after_twist ["one", "other"] (defScope s_after_twist) := ⟨rfl, rfl, rfl, by decide +kernel, rfl, by decide +kernel, by decide +kernel⟩
noncomputable def d_after_twist : List D → Res D := runF 10 2
 ((sSeq (sAsg (eVar 0) (gT (gsCons (gN 2) (gsCons (gN 3) (gsCons (gN 4) (gsCons (gN 5) gsNil))))))
 (sSeq (sAsg (eVar 1) (gT (gsCons (gN 6) (gsCons (gN 7) (gsCons (gN 8) (gsCons (gN 9) gsNil))))))
 (sRet (eTup (aCons (eBin vAdd (eBin vMul (eVar 2) (eVar 6)) (eBin vMul (eVar 3) (eVar 8))) (aCons (eBin vAdd (eBin vMul (eVar 2) (eVar 7)) (eBin vMul (eVar 3) (eVar 9))) (aCons (eBin vAdd (eBin vMul (eVar 4) (eVar 6)) (eBin vMul (eVar 5) (eVar 8))) (aCons (eBin vAdd (eBin vMul (eVar 4) (eVar 7)) (eBin vMul (eVar 5) (eVar 9))) aNil)))))))))
theorem ok_after_twist (T : Txt K mg) : FnD P w K mg base "after_twist" 1 2 d_after_twist :=
 own_P (mn := ⟨[], none⟩) (mb := ⟨[], none⟩) (mc := ⟨[], none⟩) T.f_after_twist sc_after_twist rfl fun f F0 cdv A outer s H E hr =>
 (ss_cons (m1 := ⟨[], none⟩) (s_asg (e_var (by decide) (pv 0)) (g_tup rfl rfl (gs_cons (g_name (pg_name (i := 2) sc_after_twist.nd rfl (.inl rfl))) (gs_cons (g_name (pg_name (i := 3) sc_after_twist.nd rfl (.inl rfl))) (gs_cons (g_name (pg_name (i := 4) sc_after_twist.nd rfl (.inl rfl))) (gs_cons (g_name (pg_name (i := 5) sc_after_twist.nd rfl (.inl rfl))) gs_nil)))) (gl_cons (gl_cons (gl_cons (gl_cons gl_nil))))))
 (ss_cons (m1 := ⟨[], none⟩) (s_asg (e_var (by decide) (pv 1)) (g_tup rfl rfl (gs_cons (g_name (pg_name (i := 6) sc_after_twist.nd rfl (.inl rfl))) (gs_cons (g_name (pg_name (i := 7) sc_after_twist.nd rfl (.inl rfl))) (gs_cons (g_name (pg_name (i := 8) sc_after_twist.nd rfl (.inl rfl))) (gs_cons (g_name (pg_name (i := 9) sc_after_twist.nd rfl (.inl rfl))) gs_nil)))) (gl_cons (gl_cons (gl_cons (gl_cons gl_nil))))))
 (ss_one (s_ret (e_tup (a_cons (e_bin op_addX (v_add rfl) (e_bin op_mulX v_mul (e_var (by decide) (pv 2)) (e_var (by decide) (pv 6))) (e_bin op_mulX v_mul (e_var (by decide) (pv 3)) (e_var (by decide) (pv 8)))) (a_cons (e_bin op_addX (v_add rfl) (e_bin op_mulX v_mul (e_var (by decide) (pv 2)) (e_var (by decide) (pv 7))) (e_bin op_mulX v_mul (e_var (by decide) (pv 3)) (e_var (by decide) (pv 9)))) (a_cons (e_bin op_addX (v_add rfl) (e_bin op_mulX v_mul (e_var (by decide) (pv 4)) (e_var (by decide) (pv 6))) (e_bin op_mulX v_mul (e_var (by decide) (pv 5)) (e_var (by decide) (pv 8)))) (a_cons (e_bin op_addX (v_add rfl) (e_bin op_mulX v_mul (e_var (by decide) (pv 4)) (e_var (by decide) (pv 7))) (e_bin op_mulX v_mul (e_var (by decide) (pv 5)) (e_var (by decide) (pv 9)))) a_nil)))))))))
/-! ### undone_twist -/
abbrev s_undone_twist : Stmt := topS 8
abbrev N_undone_twist : List PySem.Str := ["one", "a", "b", "c", "d"]
theorem sc_undone_twist : FnScope N_undone_twist ["one"] (defScope s_undone_twist) := ⟨rfl, rfl, rfl, by decide +kernel, rfl, by decide +kernel, by decide +kernel⟩
noncomputable def d_undone_twist : List D → Res D := runF 5 1
 ((sSeq (sAsg (eVar 0) (gT (gsCons (gN 1) (gsCons (gN 2) (gsCons (gN 3) (gsCons (gN 4) gsNil))))))
 (sRet (eTup (aCons (eVar 4) (aCons (eUn vNeg (eVar 2)) (aCons (eUn vNeg (eVar 3)) (aCons (eVar 1) aNil))))))))
theorem ok_undone_twist (T : Txt K mg) : FnD P w K mg base "undone_twist" 1 1 d_undone_twist :=
 own_P (mn := ⟨[], none⟩) (mb := ⟨[], none⟩) (mc := ⟨[], none⟩) T.f_undone_twist sc_undone_twist rfl fun f F0 cdv A outer s H E hr =>
 (ss_cons (m1 := ⟨[], none⟩) (s_asg (e_var (by decide) (pv 0)) (g_tup rfl rfl (gs_cons (g_name (pg_name (i := 1) sc_undone_twist.nd rfl (.inl rfl))) (gs_cons (g_name (pg_name (i := 2) sc_undone_twist.nd rfl (.inl rfl))) (gs_cons (g_name (pg_name (i := 3) sc_undone_twist.nd rfl (.inl rfl))) (gs_cons (g_name (pg_name (i := 4) sc_undone_twist.nd rfl (.inl rfl))) gs_nil)))) (gl_cons (gl_cons (gl_cons (gl_cons gl_nil))))))
 (ss_one (s_ret (e_tup (a_cons (e_var (by decide) (pv 4)) (a_cons (e_un un_neg v_neg (e_var (by decide) (pv 2))) (a_cons (e_un un_neg v_neg (e_var (by decide) (pv 3))) (a_cons (e_var (by decide) (pv 1)) a_nil))))))))
/-! ### shift -/
abbrev s_shift : Stmt := topS 9
abbrev N_shift : List PySem.Str := ["count"]
theorem sc_shift : FnScope N_shift ["count"] (defScope s_shift) := ⟨rfl, rfl, rfl, by decide +kernel, rfl, by decide +kernel, by decide +kernel⟩
noncomputable def d_shift : List D → Res D := runF 1 1
 ((sRet (eTup (aCons (eC (.int 1)) (aCons (eVar 0) (aCons (eC (.int 0)) (aCons (eC (.int 1)) aNil)))))))
theorem ok_shift (T : Txt K mg) : FnD P w K mg base "shift" 1 1 d_shift :=
 own_P (mn := ⟨[], none⟩) (mb := ⟨[], none⟩) (mc := ⟨[], none⟩) T.f_shift sc_shift rfl fun f F0 cdv A outer s H E hr =>
 (ss_one (s_ret (e_tup (a_cons e_int (a_cons (e_var (by decide) (pv 0)) (a_cons e_int (a_cons e_int a_nil)))))))
/-! ### twist_power -/
abbrev s_twist_power : Stmt := topS 10
abbrev N_twist_power : List PySem.Str := ["one", "count", "found"]
theorem sc_twist_power : FnScope N_twist_power ["one", "count"] (defScope s_twist_power) := ⟨rfl, rfl, rfl, by decide +kernel, rfl, by decide +kernel, by decide +kernel⟩
noncomputable def d_twist_power : List D → Res D := runF 3 2
 ((sSeq (sIf (bBin cLt (eVar 1) (eC (.int 0))) (sPar 0 1 (eCall d_undone_twist (aCons (eVar 0) aNil)) (eUn vNeg (eVar 1))) sNext)
 (sSeq (sAsg (eC (.tuple (List.map .int [1, 0, 0, 1]))) (gN 2))
 (sSeq (sWhile (bBin cGt (eVar 1) (eC (.int 0))) (sSeq (sIf (bBin vEq (eBin vMod (eVar 1) (eC (.int 2))) (eC (.int 1))) (sAsg (eCall d_after_twist (aCons (eVar 2) (aCons (eVar 0) aNil))) (gN 2)) sNext)
 (sSeq (sAsg (eCall d_after_twist (aCons (eVar 0) (aCons (eVar 0) aNil))) (gN 0))
 (sAug 1 vFdiv (eC (.int 2))))))
 (sRet (eVar 2))))))
theorem ok_twist_power (T : Txt K mg) : FnD P w K mg base "twist_power" 2 2 d_twist_power :=
 own_P (mn := ⟨[], none⟩) (mb := ⟨[], none⟩) (mc := ⟨[], none⟩) T.f_twist_power sc_twist_power rfl fun f F0 cdv A outer s H E hr =>
 (ss_cons (m1 := ⟨[], none⟩) (s_if (b_cmp op_lt v_lt (e_var (by decide) (pv 1)) e_int (nomark _)) (ss_one (s_par (i := 0) (j := 1) (a_cons (e_call (ok_undone_twist T) hr rfl rfl takes_ok (a_cons (e_var (by decide) (pv 0)) a_nil) rfl) (a_cons (e_un un_neg v_neg (e_var (by decide) (pv 1))) a_nil)) rfl sc_twist_power.nd rfl rfl (by decide) rfl rfl (by rfl))) ss_nil)
 (ss_cons (m1 := ⟨[], none⟩) (s_set (e_ctup rfl T.c_STRAIGHT rfl) (fun h => ps_set (i := 2) sc_twist_power.nd rfl (.inl rfl) h))
 (ss_cons (m1 := ⟨[], none⟩) (s_while pass_ok (b_cmp op_gt v_gt (e_var (by decide) (pv 1)) e_int (nomark _)) (ss_cons (m1 := ⟨[], none⟩) (s_if (b_cmp (op_eqD hr.units) (v_eq rfl) (e_bin op_modN v_mod (e_var (by decide) (pv 1)) e_int) e_int (nomark _)) (ss_one (s_set (e_call (ok_after_twist T) hr rfl rfl takes_ok (a_cons (e_var (by decide) (pv 2)) (a_cons (e_var (by decide) (pv 0)) a_nil)) rfl) (fun h => ps_set (i := 2) sc_twist_power.nd rfl (.inl rfl) h))) ss_nil)
 (ss_cons (m1 := ⟨[], none⟩) (s_set (e_call (ok_after_twist T) hr rfl rfl takes_ok (a_cons (e_var (by decide) (pv 0)) (a_cons (e_var (by decide) (pv 0)) a_nil)) rfl) (fun h => ps_set (i := 0) sc_twist_power.nd rfl (.inl rfl) h))
 (ss_one (s_aug v_fdiv (by decide) e_int (fun h => ps_aug (i := 1) sc_twist_power.nd rfl (.inl rfl) h iop_fdivG))))))
 (ss_one (s_ret (e_var (by decide) (pv 2)))))))
/-! ### word_of_twist -/
abbrev s_word_of_twist : Stmt := topS 11
abbrev N_word_of_twist : List PySem.Str := ["one", "counts", "a", "b", "c", "d", "count"]
theorem sc_word_of_twist : FnScope N_word_of_twist ["one"] (defScope s_word_of_twist) := ⟨rfl, rfl, rfl, by decide +kernel, rfl, by decide +kernel, by decide +kernel⟩
noncomputable def d_word_of_twist : List D → Res D := runF 7 1
 ((sSeq (sOwn 1 aNil)
 (sSeq (sAsg (eVar 0) (gT (gsCons (gN 2) (gsCons (gN 3) (gsCons (gN 4) (gsCons (gN 5) gsNil))))))
 (sSeq (sWhile (bBin vNe (eVar 4) (eC (.int 0))) (sSeq (sAsg (eBin vFdiv (eVar 2) (eVar 4)) (gN 6))
 (sSeq (sApp 1 (eVar 6))
 (sAsg (eTup (aCons (eVar 4) (aCons (eVar 5) (aCons (eBin vSub (eBin vMul (eVar 6) (eVar 4)) (eVar 2)) (aCons (eBin vSub (eBin vMul (eVar 6) (eVar 5)) (eVar 3)) aNil))))) (gT (gsCons (gN 2) (gsCons (gN 3) (gsCons (gN 4) (gsCons (gN 5) gsNil)))))))))
 (sSeq (sApp 1 (eBin vMul (eVar 2) (eVar 3)))
 (sRet (eTup (aCons (eVar 2) (aCons (eArgs fTuple (aCons (eVar 1) aNil)) aNil)))))))))
theorem ok_word_of_twist (T : Txt K mg) : FnD P w K mg base "word_of_twist" 1 1 d_word_of_twist :=
 own_P (mn := ⟨[], none⟩) (mb := ⟨[], none⟩) (mc := ⟨[], none⟩) T.f_word_of_twist sc_word_of_twist rfl fun f F0 cdv A outer s H E hr =>
 (ss_cons (m1 := ⟨[1], none⟩) (s_own (f_lst a_nil) (fun h => ps_set (i := 1) sc_word_of_twist.nd rfl (.inl rfl) h))
 (ss_cons (m1 := ⟨[1], none⟩) (s_asg (e_var (by decide) (pv 0)) (g_tup rfl rfl (gs_cons (g_name (pg_name (i := 2) sc_word_of_twist.nd rfl (.inl rfl))) (gs_cons (g_name (pg_name (i := 3) sc_word_of_twist.nd rfl (.inl rfl))) (gs_cons (g_name (pg_name (i := 4) sc_word_of_twist.nd rfl (.inl rfl))) (gs_cons (g_name (pg_name (i := 5) sc_word_of_twist.nd rfl (.inl rfl))) gs_nil)))) (gl_cons (gl_cons (gl_cons (gl_cons gl_nil))))))
 (ss_cons (m1 := ⟨[1], none⟩) (s_while pass_ok (b_cmp (op_neD hr.units) (v_ne rfl) (e_var (by decide) (pv 4)) e_int (nomark _)) (ss_cons (m1 := ⟨[1], none⟩) (s_set (e_bin op_fdivG v_fdiv (e_var (by decide) (pv 2)) (e_var (by decide) (pv 4))) (fun h => ps_set (i := 6) sc_word_of_twist.nd rfl (.inl rfl) h))
 (ss_cons (m1 := ⟨[1], none⟩) (s_app (by decide) (e_var (by decide) (pv 6)) (fun h => ps_expr (pe_bm PySem.F.plainAttrs_list PySem.F.slot_list_append PySem.F.type_list_append mt_append (pv 1) (pa_cons h pa_nil))))
 (ss_one (s_asg (e_tup (a_cons (e_var (by decide) (pv 4)) (a_cons (e_var (by decide) (pv 5)) (a_cons (e_bin op_sub v_sub (e_bin op_mulX v_mul (e_var (by decide) (pv 6)) (e_var (by decide) (pv 4))) (e_var (by decide) (pv 2))) (a_cons (e_bin op_sub v_sub (e_bin op_mulX v_mul (e_var (by decide) (pv 6)) (e_var (by decide) (pv 5))) (e_var (by decide) (pv 3))) a_nil))))) (g_tup rfl rfl (gs_cons (g_name (pg_name (i := 2) sc_word_of_twist.nd rfl (.inl rfl))) (gs_cons (g_name (pg_name (i := 3) sc_word_of_twist.nd rfl (.inl rfl))) (gs_cons (g_name (pg_name (i := 4) sc_word_of_twist.nd rfl (.inl rfl))) (gs_cons (g_name (pg_name (i := 5) sc_word_of_twist.nd rfl (.inl rfl))) gs_nil)))) (gl_cons (gl_cons (gl_cons (gl_cons gl_nil))))))))))
 (ss_cons (m1 := ⟨[1], none⟩) (s_app (by decide) (e_bin op_mulX v_mul (e_var (by decide) (pv 2)) (e_var (by decide) (pv 3))) (fun h => ps_expr (pe_bm PySem.F.plainAttrs_list PySem.F.slot_list_append PySem.F.type_list_append mt_append (pv 1) (pa_cons h pa_nil))))
 (ss_frz 1 (ss_one (s_ret (e_tup (a_cons (e_var (by decide) (pv 2)) (a_cons (e_callTy call_tuple_of (v_tuple rfl) rfl T.b_tuple (by decide +kernel) (a_cons (e_var (by decide) (pv 1)) a_nil)) a_nil))))))))))
/-! ### twist_of_word -/
abbrev s_twist_of_word : Stmt := topS 12
abbrev N_twist_of_word : List PySem.Str := ["sign", "counts", "found", "place", "count"]
theorem sc_twist_of_word : FnScope N_twist_of_word ["sign", "counts"] (defScope s_twist_of_word) := ⟨rfl, rfl, rfl, by decide +kernel, rfl, by decide +kernel, by decide +kernel⟩
noncomputable def d_twist_of_word : List D → Res D := runF 5 2
 ((sSeq (sAsg (eTup (aCons (eVar 0) (aCons (eC (.int 0)) (aCons (eC (.int 0)) (aCons (eVar 0) aNil))))) (gN 2))
 (sSeq (sFor (iArgs iEnumTF (aCons (eVar 1) aNil)) (gT (gsCons (gN 3) (gsCons (gN 4) gsNil))) (sSeq (sIf (bBin cGt (eVar 3) (eC (.int 0))) (sAsg (eCall d_after_twist (aCons (eVar 2) (aCons (eC (.tuple (List.map .int [0, -1, 1, 0]))) aNil))) (gN 2)) sNext)
 (sAsg (eCall d_after_twist (aCons (eVar 2) (aCons (eCall d_shift (aCons (eVar 4) aNil)) aNil))) (gN 2))))
 (sRet (eVar 2)))))
theorem ok_twist_of_word (T : Txt K mg) : FnD P w K mg base "twist_of_word" 2 2 d_twist_of_word :=
 own_P (mn := ⟨[], none⟩) (mb := ⟨[], none⟩) (mc := ⟨[], none⟩) T.f_twist_of_word sc_twist_of_word rfl fun f F0 cdv A outer s H E hr =>
 (ss_cons (m1 := ⟨[], none⟩) (s_set (e_tup (a_cons (e_var (by decide) (pv 0)) (a_cons e_int (a_cons e_int (a_cons (e_var (by decide) (pv 0)) a_nil))))) (fun h => ps_set (i := 2) sc_twist_of_word.nd rfl (.inl rfl) h))
 (ss_cons (m1 := ⟨[], none⟩) (s_for pass_ok rfl (i_enumT rfl rfl T.b_enumerate (a_cons (e_var (by decide) (pv 1)) a_nil)) (g_tup rfl rfl (gs_cons (g_name (pg_name (i := 3) sc_twist_of_word.nd rfl (.inl rfl))) (gs_cons (g_name (pg_name (i := 4) sc_twist_of_word.nd rfl (.inl rfl))) gs_nil)) (gl_cons (gl_cons gl_nil))) (ss_cons (m1 := ⟨[], none⟩) (s_if (b_cmp op_gt v_gt (e_var (by decide) (pv 3)) e_int (nomark _)) (ss_one (s_set (e_call (ok_after_twist T) hr rfl rfl takes_ok (a_cons (e_var (by decide) (pv 2)) (a_cons (e_ctup rfl T.c_TURN rfl) a_nil)) rfl) (fun h => ps_set (i := 2) sc_twist_of_word.nd rfl (.inl rfl) h))) ss_nil)
 (ss_one (s_set (e_call (ok_after_twist T) hr rfl rfl takes_ok (a_cons (e_var (by decide) (pv 2)) (a_cons (e_call (ok_shift T) hr rfl rfl takes_ok (a_cons (e_var (by decide) (pv 4)) a_nil) rfl) a_nil)) rfl) (fun h => ps_set (i := 2) sc_twist_of_word.nd rfl (.inl rfl) h)))))
 (ss_one (s_ret (e_var (by decide) (pv 2))))))
/-! ### moved_point -/
abbrev s_moved_point : Stmt := topS 13
abbrev N_moved_point : List PySem.Str := ["one", "point", "a", "b", "c", "d", "x", "y"]
theorem sc_moved_point : FnScope N_moved_point ["one", "point"] (defScope s_moved_point) := ⟨rfl, rfl, rfl, by decide +kernel, rfl, by decide +kernel, by decide +kernel⟩
noncomputable def d_moved_point : List D → Res D := runF 8 2
 ((sSeq (sAsg (eVar 0) (gT (gsCons (gN 2) (gsCons (gN 3) (gsCons (gN 4) (gsCons (gN 5) gsNil))))))
 (sSeq (sAsg (eVar 1) (gT (gsCons (gN 6) (gsCons (gN 7) gsNil))))
 (sRet (eTup (aCons (eBin vAdd (eBin vMul (eVar 2) (eVar 6)) (eBin vMul (eVar 3) (eVar 7))) (aCons (eBin vAdd (eBin vMul (eVar 4) (eVar 6)) (eBin vMul (eVar 5) (eVar 7))) aNil)))))))
theorem ok_moved_point (T : Txt K mg) : FnD P w K mg base "moved_point" 1 2 d_moved_point :=
 own_P (mn := ⟨[], none⟩) (mb := ⟨[], none⟩) (mc := ⟨[], none⟩) T.f_moved_point sc_moved_point rfl fun f F0 cdv A outer s H E hr =>
 (ss_cons (m1 := ⟨[], none⟩) (s_asg (e_var (by decide) (pv 0)) (g_tup rfl rfl (gs_cons (g_name (pg_name (i := 2) sc_moved_point.nd rfl (.inl rfl))) (gs_cons (g_name (pg_name (i := 3) sc_moved_point.nd rfl (.inl rfl))) (gs_cons (g_name (pg_name (i := 4) sc_moved_point.nd rfl (.inl rfl))) (gs_cons (g_name (pg_name (i := 5) sc_moved_point.nd rfl (.inl rfl))) gs_nil)))) (gl_cons (gl_cons (gl_cons (gl_cons gl_nil))))))
 (ss_cons (m1 := ⟨[], none⟩) (s_asg (e_var (by decide) (pv 1)) (g_tup rfl rfl (gs_cons (g_name (pg_name (i := 6) sc_moved_point.nd rfl (.inl rfl))) (gs_cons (g_name (pg_name (i := 7) sc_moved_point.nd rfl (.inl rfl))) gs_nil)) (gl_cons (gl_cons gl_nil))))
 (ss_one (s_ret (e_tup (a_cons (e_bin op_addX (v_add rfl) (e_bin op_mulX v_mul (e_var (by decide) (pv 2)) (e_var (by decide) (pv 6))) (e_bin op_mulX v_mul (e_var (by decide) (pv 3)) (e_var (by decide) (pv 7)))) (a_cons (e_bin op_addX (v_add rfl) (e_bin op_mulX v_mul (e_var (by decide) (pv 4)) (e_var (by decide) (pv 6))) (e_bin op_mulX v_mul (e_var (by decide) (pv 5)) (e_var (by decide) (pv 7)))) a_nil)))))))
/-! ### trace_of_twist -/
abbrev s_trace_of_twist : Stmt := topS 14
abbrev N_trace_of_twist : List PySem.Str := ["one"]
theorem sc_trace_of_twist : FnScope N_trace_of_twist ["one"] (defScope s_trace_of_twist) := ⟨rfl, rfl, rfl, by decide +kernel, rfl, by decide +kernel, by decide +kernel⟩
noncomputable def d_trace_of_twist : List D → Res D := runF 1 1
 ((sRet (eBin vAdd (eBin vIx (eVar 0) (eC (.int 0))) (eBin vIx (eVar 0) (eC (.int 3))))))
theorem ok_trace_of_twist (T : Txt K mg) : FnD P w K mg base "trace_of_twist" 1 1 d_trace_of_twist :=
 own_P (mn := ⟨[], none⟩) (mb := ⟨[], none⟩) (mc := ⟨[], none⟩) T.f_trace_of_twist sc_trace_of_twist rfl fun f F0 cdv A outer s H E hr =>
 (ss_one (s_ret (e_bin op_addX (v_add rfl) (e_ix ix_seq (v_ix rfl) (e_var (by decide) (pv 0)) e_int (fun _ _ => rfl)) (e_ix ix_seq (v_ix rfl) (e_var (by decide) (pv 0)) e_int (fun _ _ => rfl)))))
/-! ### period_of_twist -/
abbrev s_period_of_twist : Stmt := topS 15
abbrev N_period_of_twist : List PySem.Str := ["one", "power", "count"]
theorem sc_period_of_twist : FnScope N_period_of_twist ["one"] (defScope s_period_of_twist) := ⟨rfl, rfl, rfl, by decide +kernel, rfl, by decide +kernel, by decide +kernel⟩
noncomputable def d_period_of_twist : List D → Res D := runF 3 1
 ((sSeq (sAsg (eVar 0) (gN 1))
 (sSeq (sFor (iArgs iRange (aCons (eC (.int 1)) (aCons (eC (.int 7)) aNil))) (gN 2) (sSeq (sIf (bBin vEq (eVar 1) (eC (.tuple (List.map .int [1, 0, 0, 1])))) (sRet (eVar 2)) sNext)
 (sAsg (eCall d_after_twist (aCons (eVar 1) (aCons (eVar 0) aNil))) (gN 1))))
 (sRet (eC .none)))))
theorem ok_period_of_twist (T : Txt K mg) : FnD P w K mg base "period_of_twist" 2 1 d_period_of_twist :=
 own_P (mn := ⟨[], none⟩) (mb := ⟨[], none⟩) (mc := ⟨[], none⟩) T.f_period_of_twist sc_period_of_twist rfl fun f F0 cdv A outer s H E hr =>
 (ss_cons (m1 := ⟨[], none⟩) (s_set (e_var (by decide) (pv 0)) (fun h => ps_set (i := 1) sc_period_of_twist.nd rfl (.inl rfl) h))
 (ss_cons (m1 := ⟨[], none⟩) (s_for pass_ok rfl (i_range2 rfl T.b_range (a_cons e_int (a_cons e_int a_nil))) (g_name (pg_name (i := 2) sc_period_of_twist.nd rfl (.inl rfl))) (ss_cons (m1 := ⟨[], none⟩) (s_if (b_cmp (op_eqD hr.units) (v_eq rfl) (e_var (by decide) (pv 1)) (e_ctup rfl T.c_STRAIGHT rfl) (nomark _)) (ss_one (s_ret (e_var (by decide) (pv 2)))) ss_nil)
 (ss_one (s_set (e_call (ok_after_twist T) hr rfl rfl takes_ok (a_cons (e_var (by decide) (pv 1)) (a_cons (e_var (by decide) (pv 0)) a_nil)) rfl) (fun h => ps_set (i := 1) sc_period_of_twist.nd rfl (.inl rfl) h)))))
 (ss_one (s_ret e_non))))
/-! ### with_first_column -/
abbrev s_with_first_column : Stmt := topS 16
abbrev N_with_first_column : List PySem.Str := ["x", "y", "factors", "first", "second"]
theorem sc_with_first_column : FnScope N_with_first_column ["x", "y", "factors"] (defScope s_with_first_column) := ⟨rfl, rfl, rfl, by decide +kernel, rfl, by decide +kernel, by decide +kernel⟩
noncomputable def d_with_first_column : List D → Res D := runF 5 3
 ((sSeq (sAsg (eVar 2) (gT (gsCons (gN 3) (gsCons (gN 4) gsNil))))
 (sRet (eTup (aCons (eVar 0) (aCons (eUn vNeg (eVar 4)) (aCons (eVar 1) (aCons (eVar 3) aNil))))))))
theorem ok_with_first_column (T : Txt K mg) : FnD P w K mg base "with_first_column" 1 3 d_with_first_column :=
 own_P (mn := ⟨[], none⟩) (mb := ⟨[], none⟩) (mc := ⟨[], none⟩) T.f_with_first_column sc_with_first_column rfl fun f F0 cdv A outer s H E hr =>
 (ss_cons (m1 := ⟨[], none⟩) (s_asg (e_var (by decide) (pv 2)) (g_tup rfl rfl (gs_cons (g_name (pg_name (i := 3) sc_with_first_column.nd rfl (.inl rfl))) (gs_cons (g_name (pg_name (i := 4) sc_with_first_column.nd rfl (.inl rfl))) gs_nil)) (gl_cons (gl_cons gl_nil))))
 (ss_one (s_ret (e_tup (a_cons (e_var (by decide) (pv 0)) (a_cons (e_un un_neg v_neg (e_var (by decide) (pv 4))) (a_cons (e_var (by decide) (pv 1)) (a_cons (e_var (by decide) (pv 3)) a_nil))))))))
/-! ### _law_state -/
abbrev s_L_state : Stmt := topS 18
abbrev N_L_state : List PySem.Str := ["script"]
theorem sc_L_state : FnScope N_L_state ["script"] (defScope s_L_state) := ⟨rfl, rfl, rfl, by decide +kernel, rfl, by decide +kernel, by decide +kernel⟩
theorem ok_L_state (T : Txt K mg) : Own P w K mg base "_law_state" 1 (spI K) :=
  own_I T.f_L_state sc_L_state fun f cdv A outer s H E => pss_one (ps_ret (pe_lst (pa_cons (pe_callTy call_list_of rfl T.b_list (by decide +kernel) (pa_cons (pv 0) pa_nil)) (pa_cons pe_int (pa_cons pe_int (pa_cons pe_int (pa_cons pe_bl (pa_cons pe_int pa_nil))))))))
/-! ### _law_draw -/
abbrev s_L_draw : Stmt := topS 19
abbrev N_L_draw : List PySem.Str := ["state", "limit", "cell", "digit", "mixed"]
theorem sc_L_draw : FnScope N_L_draw ["state", "limit"] (defScope s_L_draw) := ⟨rfl, rfl, rfl, by decide +kernel, rfl, by decide +kernel, by decide +kernel⟩
noncomputable def d_L_draw : List D → MM D := runS 5 2
 ((sSeq (sIf (bBin vEq (eIxB (eC (.int 3))) (eC (.int 0))) (sSeq (sIf (bBin cGe (eIxB (eC (.int 1))) (eArgs fLen (aCons (eIxB (eC (.int 0))) aNil))) (sRet (eC (.int 0))) sNext)
 (sSeq (sAsg (eBin vIx (eIxB (eC (.int 0))) (eIxB (eC (.int 1)))) (gN 2))
 (sSeq (sIf (bBin cLt (eVar 2) (eC (.int 0))) (sAsg (eBin vSub (eUn vNeg (eC (.int 1))) (eVar 2)) (gN 2)) sNext)
 (sSeq (sSetB (eBin vAdd (eIxB (eC (.int 1))) (eC (.int 1))) (eC (.int 1)))
 (sSeq (sSetB (eVar 2) (eC (.int 2)))
 (sSeq (sSetB (eOfB (bBin cGe (eVar 2) (eBin vPow (eC (.int 10)) (eC (.int 18))))) (eC (.int 4)))
 (sSeq (sSetB (eC (.int 6)) (eC (.int 3)))
 (sIf (bTru (eIxB (eC (.int 4)))) (sSetB (eC (.int 60)) (eC (.int 3))) sNext)))))))) sNext)
 (sSeq (sSetB (eBin vSub (eIxB (eC (.int 3))) (eC (.int 1))) (eC (.int 3)))
 (sSeq (sIf (bTru (eIxB (eC (.int 4)))) (sSeq (sAsg (eBin vMod (eArgs fInt (aCons (eIxB (eC (.int 2))) aNil)) (eVar 1)) (gN 3))
 (sSeq (sSetB (eBin vFdiv (eIxB (eC (.int 2))) (eVar 1)) (eC (.int 2)))
 (sSeq (sIf (bBin vEq (eIxB (eC (.int 2))) (eC (.int 0))) (sSetB (eC (.int 0)) (eC (.int 3))) sNext)
 (sRet (eVar 3))))) sNext)
 (sSeq (sAsg (eBin vMod (eArgs fInt (aCons (eBin vAdd (eBin vAdd (eBin vMul (eIxB (eC (.int 2))) (eC (.int 48271))) (eBin vMul (eIxB (eC (.int 3))) (eC (.int 69621)))) (eC (.int 7))) aNil)) (eC (.int 2147483647))) (gN 4))
 (sSeq (sAsg (eBin vMod (eArgs fInt (aCons (eBin vAdd (eBin vAdd (eBin vMul (eVar 4) (eVar 4)) (eBin vMul (eIxB (eC (.int 2))) (eC (.int 31)))) (eIxB (eC (.int 3)))) aNil)) (eC (.int 1000003))) (gN 4))
 (sRet (eBin vMod (eArgs fInt (aCons (eVar 4) aNil)) (eVar 1)))))))))
theorem ok_L_draw (T : Txt K mg) : FnS P w K mg base "_law_draw" 1 2 d_L_draw :=
 own_S (mn := ⟨[], some 0⟩) (mb := ⟨[], none⟩) (mc := ⟨[], none⟩) T.f_L_draw sc_L_draw rfl fun f F0 b cdv A outer s H E hr =>
 (ss_cons (m1 := ⟨[], some 0⟩) (s_if (b_cmp (op_eqD hr.units) (v_eq rfl) (e_ixB rfl e_int (fun h => pe_ix ix_list (pv 0) h (fun _ _ => rfl))) e_int (nomark _)) (ss_cons (m1 := ⟨[], some 0⟩) (s_if (b_cmp op_ge v_ge (e_ixB rfl e_int (fun h => pe_ix ix_list (pv 0) h (fun _ _ => rfl))) (e_callB call_len (v_len rfl) rfl T.b_len (by decide +kernel) (a_cons (e_ixB rfl e_int (fun h => pe_ix ix_list (pv 0) h (fun _ _ => rfl))) a_nil)) (nomark _)) (ss_one (s_ret e_int)) ss_nil)
 (ss_cons (m1 := ⟨[], some 0⟩) (s_set (e_ix ix_seq (v_ix rfl) (e_ixB rfl e_int (fun h => pe_ix ix_list (pv 0) h (fun _ _ => rfl))) (e_ixB rfl e_int (fun h => pe_ix ix_list (pv 0) h (fun _ _ => rfl))) (fun _ _ => rfl)) (fun h => ps_set (i := 2) sc_L_draw.nd rfl (.inl rfl) h))
 (ss_cons (m1 := ⟨[], some 0⟩) (s_if (b_cmp op_lt v_lt (e_var (by decide) (pv 2)) e_int (nomark _)) (ss_one (s_set (e_bin op_sub v_sub (e_un un_neg v_neg e_int) (e_var (by decide) (pv 2))) (fun h => ps_set (i := 2) sc_L_draw.nd rfl (.inl rfl) h))) ss_nil)
 (ss_cons (m1 := ⟨[], some 0⟩) (s_setB rfl (e_bin op_addX (v_add rfl) (e_ixB rfl e_int (fun h => pe_ix ix_list (pv 0) h (fun _ _ => rfl))) e_int) e_int (fun h g => ps_asg h (pg_sub (pv 0) g set_list)))
 (ss_cons (m1 := ⟨[], some 0⟩) (s_setB rfl (e_var (by decide) (pv 2)) e_int (fun h g => ps_asg h (pg_sub (pv 0) g set_list)))
 (ss_cons (m1 := ⟨[], some 0⟩) (s_setB rfl (e_cmp op_ge v_ge (e_var (by decide) (pv 2)) (e_bin op_pow v_pow e_int e_int) (nomark _)) e_int (fun h g => ps_asg h (pg_sub (pv 0) g set_list)))
 (ss_cons (m1 := ⟨[], some 0⟩) (s_setB rfl e_int e_int (fun h g => ps_asg h (pg_sub (pv 0) g set_list)))
 (ss_one (s_if (b_tru (e_ixB rfl e_int (fun h => pe_ix ix_list (pv 0) h (fun _ _ => rfl))) rfl) (ss_one (s_setB rfl e_int e_int (fun h g => ps_asg h (pg_sub (pv 0) g set_list)))) ss_nil))))))))) ss_nil)
 (ss_cons (m1 := ⟨[], some 0⟩) (s_setB rfl (e_bin op_sub v_sub (e_ixB rfl e_int (fun h => pe_ix ix_list (pv 0) h (fun _ _ => rfl))) e_int) e_int (fun h g => ps_asg h (pg_sub (pv 0) g set_list)))
 (ss_cons (m1 := ⟨[], some 0⟩) (s_if (b_tru (e_ixB rfl e_int (fun h => pe_ix ix_list (pv 0) h (fun _ _ => rfl))) rfl) (ss_cons (m1 := ⟨[], some 0⟩) (s_set (e_bin op_modN v_mod (e_callTy call_int1 v_int1 rfl T.b_int (by decide +kernel) (a_cons (e_ixB rfl e_int (fun h => pe_ix ix_list (pv 0) h (fun _ _ => rfl))) a_nil)) (e_var (by decide) (pv 1))) (fun h => ps_set (i := 3) sc_L_draw.nd rfl (.inl rfl) h))
 (ss_cons (m1 := ⟨[], some 0⟩) (s_setB rfl (e_bin op_fdivG v_fdiv (e_ixB rfl e_int (fun h => pe_ix ix_list (pv 0) h (fun _ _ => rfl))) (e_var (by decide) (pv 1))) e_int (fun h g => ps_asg h (pg_sub (pv 0) g set_list)))
 (ss_cons (m1 := ⟨[], some 0⟩) (s_if (b_cmp (op_eqD hr.units) (v_eq rfl) (e_ixB rfl e_int (fun h => pe_ix ix_list (pv 0) h (fun _ _ => rfl))) e_int (nomark _)) (ss_one (s_setB rfl e_int e_int (fun h g => ps_asg h (pg_sub (pv 0) g set_list)))) ss_nil)
 (ss_one (s_ret (e_var (by decide) (pv 3))))))) ss_nil)
 (ss_cons (m1 := ⟨[], some 0⟩) (s_set (e_bin op_modN v_mod (e_callTy call_int1 v_int1 rfl T.b_int (by decide +kernel) (a_cons (e_bin op_addX (v_add rfl) (e_bin op_addX (v_add rfl) (e_bin op_mulX v_mul (e_ixB rfl e_int (fun h => pe_ix ix_list (pv 0) h (fun _ _ => rfl))) e_int) (e_bin op_mulX v_mul (e_ixB rfl e_int (fun h => pe_ix ix_list (pv 0) h (fun _ _ => rfl))) e_int)) e_int) a_nil)) e_int) (fun h => ps_set (i := 4) sc_L_draw.nd rfl (.inl rfl) h))
 (ss_cons (m1 := ⟨[], some 0⟩) (s_set (e_bin op_modN v_mod (e_callTy call_int1 v_int1 rfl T.b_int (by decide +kernel) (a_cons (e_bin op_addX (v_add rfl) (e_bin op_addX (v_add rfl) (e_bin op_mulX v_mul (e_var (by decide) (pv 4)) (e_var (by decide) (pv 4))) (e_bin op_mulX v_mul (e_ixB rfl e_int (fun h => pe_ix ix_list (pv 0) h (fun _ _ => rfl))) e_int)) (e_ixB rfl e_int (fun h => pe_ix ix_list (pv 0) h (fun _ _ => rfl)))) a_nil)) e_int) (fun h => ps_set (i := 4) sc_L_draw.nd rfl (.inl rfl) h))
 (ss_one (s_ret (e_bin op_modN v_mod (e_callTy call_int1 v_int1 rfl T.b_int (by decide +kernel) (a_cons (e_var (by decide) (pv 4)) a_nil)) (e_var (by decide) (pv 1))))))))))
/-! ### _law_truth -/
abbrev s_L_truth : Stmt := topS 20
abbrev N_L_truth : List PySem.Str := ["told", "due"]
theorem sc_L_truth : FnScope N_L_truth ["told", "due"] (defScope s_L_truth) := ⟨rfl, rfl, rfl, by decide +kernel, rfl, by decide +kernel, by decide +kernel⟩
noncomputable def d_L_truth : List D → Res D := runF 2 2
 ((sSeq (sIf (bTru (eVar 1)) (sRet (eOfB (bBin vIsB (eVar 0) (eC (.bool true))))) sNext)
 (sRet (eOfB (bBin vIsB (eVar 0) (eC (.bool false)))))))
theorem ok_L_truth (T : Txt K mg) : FnD P w K mg base "_law_truth" 1 2 d_L_truth :=
 own_P (mn := ⟨[], none⟩) (mb := ⟨[], none⟩) (mc := ⟨[], none⟩) T.f_L_truth sc_L_truth rfl fun f F0 cdv A outer s H E hr =>
 (ss_cons (m1 := ⟨[], none⟩) (s_if (b_tru (e_var (by decide) (pv 1)) rfl) (ss_one (s_ret (e_cmp op_isBl v_isB (e_var (by decide) (pv 0)) e_bl (nomark _)))) ss_nil)
 (ss_one (s_ret (e_cmp op_isBl v_isB (e_var (by decide) (pv 0)) e_bl (nomark _)))))
/-! ### _law_twist -/
abbrev s_L_twist : Stmt := topS 21
abbrev N_L_twist : List PySem.Str := ["state", "matrix", "k", "count", "p", "q", "r", "s"]
theorem sc_L_twist : FnScope N_L_twist ["state"] (defScope s_L_twist) := ⟨rfl, rfl, rfl, by decide +kernel, rfl, by decide +kernel, by decide +kernel⟩
noncomputable def d_L_twist : List D → MM D := runS 8 1
 ((sSeq (sAsg (eTup (aCons (eC (.int 1)) (aCons (eC (.int 0)) (aCons (eC (.int 0)) (aCons (eC (.int 1)) aNil))))) (gN 1))
 (sSeq (sFor (iArgs iRange (aCons (eCallS d_L_draw (aCons (eC (.int 5)) aNil)) aNil)) (gN 2) (sSeq (sAsg (eBin vSub (eCallS d_L_draw (aCons (eC (.int 7)) aNil)) (eC (.int 3))) (gN 3))
 (sSeq (sAsg (eVar 1) (gT (gsCons (gN 4) (gsCons (gN 5) (gsCons (gN 6) (gsCons (gN 7) gsNil))))))
 (sAsg (eTup (aCons (eBin vAdd (eBin vMul (eVar 4) (eVar 3)) (eVar 5)) (aCons (eBin vSub (eC (.int 0)) (eVar 4)) (aCons (eBin vAdd (eBin vMul (eVar 6) (eVar 3)) (eVar 7)) (aCons (eBin vSub (eC (.int 0)) (eVar 6)) aNil))))) (gN 1)))))
 (sRet (eVar 1)))))
theorem ok_L_twist (T : Txt K mg) : FnS P w K mg base "_law_twist" 2 1 d_L_twist :=
 own_S (mn := ⟨[], some 0⟩) (mb := ⟨[], none⟩) (mc := ⟨[], none⟩) T.f_L_twist sc_L_twist rfl fun f F0 b cdv A outer s H E hr =>
 (ss_cons (m1 := ⟨[], some 0⟩) (s_set (e_tup (a_cons e_int (a_cons e_int (a_cons e_int (a_cons e_int a_nil))))) (fun h => ps_set (i := 1) sc_L_twist.nd rfl (.inl rfl) h))
 (ss_cons (m1 := ⟨[], some 0⟩) (s_for pass_ok rfl (i_range1 rfl T.b_range (a_cons (e_callS (ok_L_draw T) hr rfl rfl takes_ok rfl (pv 0) (a_cons e_int a_nil) rfl) a_nil)) (g_name (pg_name (i := 2) sc_L_twist.nd rfl (.inl rfl))) (ss_cons (m1 := ⟨[], some 0⟩) (s_set (e_bin op_sub v_sub (e_callS (ok_L_draw T) hr rfl rfl takes_ok rfl (pv 0) (a_cons e_int a_nil) rfl) e_int) (fun h => ps_set (i := 3) sc_L_twist.nd rfl (.inl rfl) h))
 (ss_cons (m1 := ⟨[], some 0⟩) (s_asg (e_var (by decide) (pv 1)) (g_tup rfl rfl (gs_cons (g_name (pg_name (i := 4) sc_L_twist.nd rfl (.inl rfl))) (gs_cons (g_name (pg_name (i := 5) sc_L_twist.nd rfl (.inl rfl))) (gs_cons (g_name (pg_name (i := 6) sc_L_twist.nd rfl (.inl rfl))) (gs_cons (g_name (pg_name (i := 7) sc_L_twist.nd rfl (.inl rfl))) gs_nil)))) (gl_cons (gl_cons (gl_cons (gl_cons gl_nil))))))
 (ss_one (s_set (e_tup (a_cons (e_bin op_addX (v_add rfl) (e_bin op_mulX v_mul (e_var (by decide) (pv 4)) (e_var (by decide) (pv 3))) (e_var (by decide) (pv 5))) (a_cons (e_bin op_sub v_sub e_int (e_var (by decide) (pv 4))) (a_cons (e_bin op_addX (v_add rfl) (e_bin op_mulX v_mul (e_var (by decide) (pv 6)) (e_var (by decide) (pv 3))) (e_var (by decide) (pv 7))) (a_cons (e_bin op_sub v_sub e_int (e_var (by decide) (pv 6))) a_nil))))) (fun h => ps_set (i := 1) sc_L_twist.nd rfl (.inl rfl) h))))))
 (ss_one (s_ret (e_var (by decide) (pv 1))))))
/-! ### _law_product -/
abbrev s_L_product : Stmt := topS 22
abbrev N_L_product : List PySem.Str := ["one", "two", "a", "b", "c", "d", "p", "q", "r", "s"]
theorem sc_L_product : FnScope N_L_product ["one", "two"] (defScope s_L_product) := ⟨rfl, rfl, rfl, by decide +kernel, rfl, by decide +kernel, by decide +kernel⟩
noncomputable def d_L_product : List D → Res D := runF 10 2
 ((sSeq (sAsg (eVar 0) (gT (gsCons (gN 2) (gsCons (gN 3) (gsCons (gN 4) (gsCons (gN 5) gsNil))))))
 (sSeq (sAsg (eVar 1) (gT (gsCons (gN 6) (gsCons (gN 7) (gsCons (gN 8) (gsCons (gN 9) gsNil))))))
 (sRet (eTup (aCons (eBin vAdd (eBin vMul (eVar 2) (eVar 6)) (eBin vMul (eVar 3) (eVar 8))) (aCons (eBin vAdd (eBin vMul (eVar 2) (eVar 7)) (eBin vMul (eVar 3) (eVar 9))) (aCons (eBin vAdd (eBin vMul (eVar 4) (eVar 6)) (eBin vMul (eVar 5) (eVar 8))) (aCons (eBin vAdd (eBin vMul (eVar 4) (eVar 7)) (eBin vMul (eVar 5) (eVar 9))) aNil)))))))))
theorem ok_L_product (T : Txt K mg) : FnD P w K mg base "_law_product" 1 2 d_L_product :=
 own_P (mn := ⟨[], none⟩) (mb := ⟨[], none⟩) (mc := ⟨[], none⟩) T.f_L_product sc_L_product rfl fun f F0 cdv A outer s H E hr =>
 (ss_cons (m1 := ⟨[], none⟩) (s_asg (e_var (by decide) (pv 0)) (g_tup rfl rfl (gs_cons (g_name (pg_name (i := 2) sc_L_product.nd rfl (.inl rfl))) (gs_cons (g_name (pg_name (i := 3) sc_L_product.nd rfl (.inl rfl))) (gs_cons (g_name (pg_name (i := 4) sc_L_product.nd rfl (.inl rfl))) (gs_cons (g_name (pg_name (i := 5) sc_L_product.nd rfl (.inl rfl))) gs_nil)))) (gl_cons (gl_cons (gl_cons (gl_cons gl_nil))))))
 (ss_cons (m1 := ⟨[], none⟩) (s_asg (e_var (by decide) (pv 1)) (g_tup rfl rfl (gs_cons (g_name (pg_name (i := 6) sc_L_product.nd rfl (.inl rfl))) (gs_cons (g_name (pg_name (i := 7) sc_L_product.nd rfl (.inl rfl))) (gs_cons (g_name (pg_name (i := 8) sc_L_product.nd rfl (.inl rfl))) (gs_cons (g_name (pg_name (i := 9) sc_L_product.nd rfl (.inl rfl))) gs_nil)))) (gl_cons (gl_cons (gl_cons (gl_cons gl_nil))))))
 (ss_one (s_ret (e_tup (a_cons (e_bin op_addX (v_add rfl) (e_bin op_mulX v_mul (e_var (by decide) (pv 2)) (e_var (by decide) (pv 6))) (e_bin op_mulX v_mul (e_var (by decide) (pv 3)) (e_var (by decide) (pv 8)))) (a_cons (e_bin op_addX (v_add rfl) (e_bin op_mulX v_mul (e_var (by decide) (pv 2)) (e_var (by decide) (pv 7))) (e_bin op_mulX v_mul (e_var (by decide) (pv 3)) (e_var (by decide) (pv 9)))) (a_cons (e_bin op_addX (v_add rfl) (e_bin op_mulX v_mul (e_var (by decide) (pv 4)) (e_var (by decide) (pv 6))) (e_bin op_mulX v_mul (e_var (by decide) (pv 5)) (e_var (by decide) (pv 8)))) (a_cons (e_bin op_addX (v_add rfl) (e_bin op_mulX v_mul (e_var (by decide) (pv 4)) (e_var (by decide) (pv 7))) (e_bin op_mulX v_mul (e_var (by decide) (pv 5)) (e_var (by decide) (pv 9)))) a_nil)))))))))
/-! ### _law_word -/
abbrev s_L_word : Stmt := topS 23
abbrev N_L_word : List PySem.Str := ["one", "a", "b", "c", "d", "counts", "k", "count"]
theorem sc_L_word : FnScope N_L_word ["one"] (defScope s_L_word) := ⟨rfl, rfl, rfl, by decide +kernel, rfl, by decide +kernel, by decide +kernel⟩
noncomputable def d_L_word : List D → Res D := runF 8 1
 ((sSeq (sAsg (eVar 0) (gT (gsCons (gN 1) (gsCons (gN 2) (gsCons (gN 3) (gsCons (gN 4) gsNil))))))
 (sSeq (sOwn 5 aNil)
 (sSeq (sFor (iArgs iRange (aCons (eC (.int 200)) aNil)) (gN 6) (sSeq (sIf (bBin vEq (eVar 3) (eC (.int 0))) sBrk sNext)
 (sSeq (sAsg (eBin vFdiv (eVar 1) (eVar 3)) (gN 7))
 (sSeq (sApp 5 (eVar 7))
 (sAsg (eTup (aCons (eVar 3) (aCons (eVar 4) (aCons (eBin vSub (eBin vMul (eVar 7) (eVar 3)) (eVar 1)) (aCons (eBin vSub (eBin vMul (eVar 7) (eVar 4)) (eVar 2)) aNil))))) (gT (gsCons (gN 1) (gsCons (gN 2) (gsCons (gN 3) (gsCons (gN 4) gsNil))))))))))
 (sRet (eTup (aCons (eVar 1) (aCons (eArgs fTuple (aCons (eBin vAdd (eVar 5) (eLst (aCons (eBin vMul (eVar 1) (eVar 2)) aNil))) aNil)) aNil))))))))
theorem ok_L_word (T : Txt K mg) : FnD P w K mg base "_law_word" 1 1 d_L_word :=
 own_P (mn := ⟨[], none⟩) (mb := ⟨[], none⟩) (mc := ⟨[], none⟩) T.f_L_word sc_L_word rfl fun f F0 cdv A outer s H E hr =>
 (ss_cons (m1 := ⟨[], none⟩) (s_asg (e_var (by decide) (pv 0)) (g_tup rfl rfl (gs_cons (g_name (pg_name (i := 1) sc_L_word.nd rfl (.inl rfl))) (gs_cons (g_name (pg_name (i := 2) sc_L_word.nd rfl (.inl rfl))) (gs_cons (g_name (pg_name (i := 3) sc_L_word.nd rfl (.inl rfl))) (gs_cons (g_name (pg_name (i := 4) sc_L_word.nd rfl (.inl rfl))) gs_nil)))) (gl_cons (gl_cons (gl_cons (gl_cons gl_nil))))))
 (ss_cons (m1 := ⟨[5], none⟩) (s_own (f_lst a_nil) (fun h => ps_set (i := 5) sc_L_word.nd rfl (.inl rfl) h))
 (ss_cons (m1 := ⟨[5], none⟩) (s_for pass_ok rfl (i_range1 rfl T.b_range (a_cons e_int a_nil)) (g_name (pg_name (i := 6) sc_L_word.nd rfl (.inl rfl))) (ss_cons (m1 := ⟨[5], none⟩) (s_if (b_cmp (op_eqD hr.units) (v_eq rfl) (e_var (by decide) (pv 3)) e_int (nomark _)) (ss_one s_brk) ss_nil)
 (ss_cons (m1 := ⟨[5], none⟩) (s_set (e_bin op_fdivG v_fdiv (e_var (by decide) (pv 1)) (e_var (by decide) (pv 3))) (fun h => ps_set (i := 7) sc_L_word.nd rfl (.inl rfl) h))
 (ss_cons (m1 := ⟨[5], none⟩) (s_app (by decide) (e_var (by decide) (pv 7)) (fun h => ps_expr (pe_bm PySem.F.plainAttrs_list PySem.F.slot_list_append PySem.F.type_list_append mt_append (pv 5) (pa_cons h pa_nil))))
 (ss_one (s_asg (e_tup (a_cons (e_var (by decide) (pv 3)) (a_cons (e_var (by decide) (pv 4)) (a_cons (e_bin op_sub v_sub (e_bin op_mulX v_mul (e_var (by decide) (pv 7)) (e_var (by decide) (pv 3))) (e_var (by decide) (pv 1))) (a_cons (e_bin op_sub v_sub (e_bin op_mulX v_mul (e_var (by decide) (pv 7)) (e_var (by decide) (pv 4))) (e_var (by decide) (pv 2))) a_nil))))) (g_tup rfl rfl (gs_cons (g_name (pg_name (i := 1) sc_L_word.nd rfl (.inl rfl))) (gs_cons (g_name (pg_name (i := 2) sc_L_word.nd rfl (.inl rfl))) (gs_cons (g_name (pg_name (i := 3) sc_L_word.nd rfl (.inl rfl))) (gs_cons (g_name (pg_name (i := 4) sc_L_word.nd rfl (.inl rfl))) gs_nil)))) (gl_cons (gl_cons (gl_cons (gl_cons gl_nil)))))))))))
 (ss_frz 5 (ss_one (s_ret (e_tup (a_cons (e_var (by decide) (pv 1)) (a_cons (e_callTy call_tuple_of (v_tuple rfl) rfl T.b_tuple (by decide +kernel) (a_cons (e_bin op_addX (v_add rfl) (e_var (by decide) (pv 5)) (e_lst (a_cons (e_bin op_mulX v_mul (e_var (by decide) (pv 1)) (e_var (by decide) (pv 2))) a_nil))) a_nil)) a_nil)))))))))
/-! ### _law_of_word -/
abbrev s_L_of_word : Stmt := topS 24
abbrev N_L_of_word : List PySem.Str := ["sign", "counts", "made", "k"]
theorem sc_L_of_word : FnScope N_L_of_word ["sign", "counts"] (defScope s_L_of_word) := ⟨rfl, rfl, rfl, by decide +kernel, rfl, by decide +kernel, by decide +kernel⟩
noncomputable def d_L_of_word : List D → Res D := runF 4 2
 ((sSeq (sAsg (eTup (aCons (eVar 0) (aCons (eC (.int 0)) (aCons (eC (.int 0)) (aCons (eVar 0) aNil))))) (gN 2))
 (sSeq (sFor (iArgs iRange (aCons (eArgs fLen (aCons (eVar 1) aNil)) aNil)) (gN 3) (sSeq (sIf (bBin cGt (eVar 3) (eC (.int 0))) (sAsg (eCall d_L_product (aCons (eVar 2) (aCons (eTup (aCons (eC (.int 0)) (aCons (eUn vNeg (eC (.int 1))) (aCons (eC (.int 1)) (aCons (eC (.int 0)) aNil))))) aNil))) (gN 2)) sNext)
 (sAsg (eCall d_L_product (aCons (eVar 2) (aCons (eTup (aCons (eC (.int 1)) (aCons (eBin vIx (eVar 1) (eVar 3)) (aCons (eC (.int 0)) (aCons (eC (.int 1)) aNil))))) aNil))) (gN 2))))
 (sRet (eVar 2)))))
theorem ok_L_of_word (T : Txt K mg) : FnD P w K mg base "_law_of_word" 2 2 d_L_of_word :=
 own_P (mn := ⟨[], none⟩) (mb := ⟨[], none⟩) (mc := ⟨[], none⟩) T.f_L_of_word sc_L_of_word rfl fun f F0 cdv A outer s H E hr =>
 (ss_cons (m1 := ⟨[], none⟩) (s_set (e_tup (a_cons (e_var (by decide) (pv 0)) (a_cons e_int (a_cons e_int (a_cons (e_var (by decide) (pv 0)) a_nil))))) (fun h => ps_set (i := 2) sc_L_of_word.nd rfl (.inl rfl) h))
 (ss_cons (m1 := ⟨[], none⟩) (s_for pass_ok rfl (i_range1 rfl T.b_range (a_cons (e_callB call_len (v_len rfl) rfl T.b_len (by decide +kernel) (a_cons (e_var (by decide) (pv 1)) a_nil)) a_nil)) (g_name (pg_name (i := 3) sc_L_of_word.nd rfl (.inl rfl))) (ss_cons (m1 := ⟨[], none⟩) (s_if (b_cmp op_gt v_gt (e_var (by decide) (pv 3)) e_int (nomark _)) (ss_one (s_set (e_call (ok_L_product T) hr rfl rfl takes_ok (a_cons (e_var (by decide) (pv 2)) (a_cons (e_tup (a_cons e_int (a_cons (e_un un_neg v_neg e_int) (a_cons e_int (a_cons e_int a_nil))))) a_nil)) rfl) (fun h => ps_set (i := 2) sc_L_of_word.nd rfl (.inl rfl) h))) ss_nil)
 (ss_one (s_set (e_call (ok_L_product T) hr rfl rfl takes_ok (a_cons (e_var (by decide) (pv 2)) (a_cons (e_tup (a_cons e_int (a_cons (e_ix ix_seq (v_ix rfl) (e_var (by decide) (pv 1)) (e_var (by decide) (pv 3)) (fun _ _ => rfl)) (a_cons e_int (a_cons e_int a_nil))))) a_nil)) rfl) (fun h => ps_set (i := 2) sc_L_of_word.nd rfl (.inl rfl) h)))))
 (ss_one (s_ret (e_var (by decide) (pv 2))))))
/-! ### law -/
abbrev s_law : Stmt := topS 25
abbrev N_law : List PySem.Str := ["script", "state", "one", "two", "straight", "count", "power", "k", "x", "y", "word", "counts", "sign", "made", "due", "p", "q", "r", "s", "wrong", "spoiled", "part"]
theorem sc_law : FnScope N_law ["script"] (defScope s_law) := ⟨rfl, rfl, rfl, by decide +kernel, rfl, by decide +kernel, by decide +kernel⟩
noncomputable def db_law : Ev → MM Fl := (sSeq (sAsg (eCallS d_L_twist aNil) (gN 2))
 (sSeq (sAsg (eCallS d_L_twist aNil) (gN 3))
 (sSeq (sAsg (eTup (aCons (eC (.int 1)) (aCons (eC (.int 0)) (aCons (eC (.int 0)) (aCons (eC (.int 1)) aNil))))) (gN 4))
 (sSeq (sIf (bOr (bBin vNe (eCall d_after_twist (aCons (eVar 2) (aCons (eVar 3) aNil))) (eCall d_L_product (aCons (eVar 2) (aCons (eVar 3) aNil)))) (bBin vNe (eCall d_after_twist (aCons (eVar 2) (aCons (eCall d_undone_twist (aCons (eVar 2) aNil)) aNil))) (eVar 4))) (sRet (eC (.bool false))) sNext)
 (sSeq (sAsg (eBin vSub (eCallS d_L_draw (aCons (eC (.int 9)) aNil)) (eC (.int 4))) (gN 5))
 (sSeq (sAsg (eVar 4) (gN 6))
 (sSeq (sFor (iArgs iRange (aCons (eArgs fAbs (aCons (eVar 5) aNil)) aNil)) (gN 7) (sAsg (eCall d_L_product (aCons (eVar 6) (aCons (eBin vIx (eLst (aCons (eVar 2) (aCons (eCall d_undone_twist (aCons (eVar 2) aNil)) aNil))) (eArgs fInt (aCons (eOfB (bBin cLt (eVar 5) (eC (.int 0)))) aNil))) aNil))) (gN 6)))
 (sSeq (sIf (bOr (bBin vNe (eCall d_twist_power (aCons (eVar 2) (aCons (eVar 5) aNil))) (eVar 6)) (bOr (bBin vNe (eCall d_trace_of_twist (aCons (eVar 2) aNil)) (eBin vAdd (eBin vIx (eVar 2) (eC (.int 0))) (eBin vIx (eVar 2) (eC (.int 3))))) (bBin vNe (eCall d_shift (aCons (eVar 5) aNil)) (eTup (aCons (eC (.int 1)) (aCons (eVar 5) (aCons (eC (.int 0)) (aCons (eC (.int 1)) aNil)))))))) (sRet (eC (.bool false))) sNext)
 (sSeq (sAsg (eBin vSub (eCallS d_L_draw (aCons (eC (.int 99)) aNil)) (eC (.int 50))) (gN 8))
 (sSeq (sAsg (eBin vSub (eCallS d_L_draw (aCons (eC (.int 99)) aNil)) (eC (.int 50))) (gN 9))
 (sSeq (sIf (bBin vNe (eCall d_moved_point (aCons (eVar 2) (aCons (eTup (aCons (eVar 8) (aCons (eVar 9) aNil))) aNil))) (eTup (aCons (eBin vAdd (eBin vMul (eBin vIx (eVar 2) (eC (.int 0))) (eVar 8)) (eBin vMul (eBin vIx (eVar 2) (eC (.int 1))) (eVar 9))) (aCons (eBin vAdd (eBin vMul (eBin vIx (eVar 2) (eC (.int 2))) (eVar 8)) (eBin vMul (eBin vIx (eVar 2) (eC (.int 3))) (eVar 9))) aNil)))) (sRet (eC (.bool false))) sNext)
 (sSeq (sAsg (eCall d_word_of_twist (aCons (eVar 2) aNil)) (gN 10))
 (sSeq (sIf (bOr (bBin vNe (eVar 10) (eCall d_L_word (aCons (eVar 2) aNil))) (bOr (bBin vNe (eCall d_L_of_word (aCons (eBin vIx (eVar 10) (eC (.int 0))) (aCons (eBin vIx (eVar 10) (eC (.int 1))) aNil))) (eVar 2)) (bBin vNe (eCall d_twist_of_word (aCons (eBin vIx (eVar 10) (eC (.int 0))) (aCons (eBin vIx (eVar 10) (eC (.int 1))) aNil))) (eVar 2)))) (sRet (eC (.bool false))) sNext)
 (sSeq (sAsg (eArgs fTuple (aCons (eOfF (lcD (iArgs iRange (aCons (eBin vAdd (eC (.int 1)) (eCallS d_L_draw (aCons (eC (.int 6)) aNil))) aNil)) (gN 7) bYes (eBin vSub (eCallS d_L_draw (aCons (eC (.int 9)) aNil)) (eC (.int 4))) [7])) aNil)) (gN 11))
 (sSeq (sAsg (eBin vSub (eC (.int 1)) (eBin vMul (eC (.int 2)) (eCallS d_L_draw (aCons (eC (.int 2)) aNil)))) (gN 12))
 (sSeq (sIf (bBin vNe (eCall d_twist_of_word (aCons (eVar 12) (aCons (eVar 11) aNil))) (eCall d_L_of_word (aCons (eVar 12) (aCons (eVar 11) aNil)))) (sRet (eC (.bool false))) sNext)
 (sSeq (sFor (iSeq (eLst (aCons (eVar 2) (aCons (eTup (aCons (eC (.int 0)) (aCons (eUn vNeg (eC (.int 1))) (aCons (eC (.int 1)) (aCons (eC (.int 0)) aNil))))) (aCons (eTup (aCons (eC (.int 1)) (aCons (eC (.int 1)) (aCons (eUn vNeg (eC (.int 1))) (aCons (eC (.int 0)) aNil))))) (aCons (eTup (aCons (eUn vNeg (eC (.int 1))) (aCons (eC (.int 0)) (aCons (eC (.int 0)) (aCons (eUn vNeg (eC (.int 1))) aNil))))) (aCons (eTup (aCons (eC (.int 0)) (aCons (eC (.int 1)) (aCons (eUn vNeg (eC (.int 1))) (aCons (eUn vNeg (eC (.int 1))) aNil))))) (aCons (eVar 4) aNil)))))))) (gN 13) (sSeq (sAsg (eC .none) (gN 14))
 (sSeq (sAsg (eVar 13) (gN 6))
 (sSeq (sFor (iArgs iRange (aCons (eC (.int 1)) (aCons (eC (.int 7)) aNil))) (gN 7) (sSeq (sIf (bAnd (bBin vEq (eVar 6) (eVar 4)) (bBin vIsN (eVar 14) (eC .none))) (sAsg (eVar 7) (gN 14)) sNext)
 (sAsg (eCall d_L_product (aCons (eVar 6) (aCons (eVar 13) aNil))) (gN 6))))
 (sIf (bBin vNe (eCall d_period_of_twist (aCons (eVar 13) aNil)) (eVar 14)) (sRet (eC (.bool false))) sNext)))))
 (sSeq (sAsg (eVar 2) (gT (gsCons (gN 15) (gsCons (gN 16) (gsCons (gN 17) (gsCons (gN 18) gsNil))))))
 (sSeq (sAsg (eCall d_with_first_column (aCons (eVar 15) (aCons (eVar 17) (aCons (eTup (aCons (eVar 18) (aCons (eBin vSub (eC (.int 0)) (eVar 16)) aNil))) aNil)))) (gN 13))
 (sSeq (sIf (bBin vNe (eVar 13) (eTup (aCons (eVar 15) (aCons (eVar 16) (aCons (eVar 17) (aCons (eVar 18) aNil)))))) (sRet (eC (.bool false))) sNext)
 (sSeq (sAsg (eLst (aCons (eC .none) (aCons (eBin vAdd (eVar 2) (eTup (aCons (eC (.int 0)) aNil))) (aCons (eTup (aCons (eVar 15) (aCons (eVar 16) (aCons (eVar 17) aNil)))) (aCons (eTup (aCons (eVar 15) (aCons (eVar 16) (aCons (eVar 17) (aCons (eBin vAdd (eVar 18) (eC (.int 1))) aNil))))) (aCons (eTup (aCons (eC (.bool true)) (aCons (eC (.int 0)) (aCons (eC (.int 0)) (aCons (eC (.int 1)) aNil))))) (aCons (eArgs fList (aCons (eVar 2) aNil)) (aCons (eTup (aCons (eVar 15) (aCons (eVar 17) (aCons (eVar 16) (aCons (eVar 18) aNil))))) (aCons (eC (.str "1001")) (aCons (eTup (aCons (eC (.int 2)) (aCons (eC (.int 0)) (aCons (eC (.int 0)) (aCons (eC (.int 2)) aNil))))) (aCons (eTup (aCons (eC (.int 0)) (aCons (eC (.int 1)) (aCons (eC (.int 1)) (aCons (eC (.int 0)) aNil))))) aNil))))))))))) (gN 19))
 (sSeq (sAsg (eBin vIx (eVar 19) (eCallS d_L_draw (aCons (eArgs fLen (aCons (eVar 19) aNil)) aNil))) (gN 20))
 (sSeq (sAsg (eAnd (eUn (fIsi "tuple") (eVar 20)) (eOfB (bBin vEq (eArgs fLen (aCons (eVar 20) aNil)) (eC (.int 4))))) (gN 14))
 (sSeq (sIf (bTru (eVar 14)) (sAsg (eOfB (bBin vEq (eArgs fLen (aCons (eOfF (lcD (iSeq (eVar 20)) (gN 21) (bOr (bNot (bTru (eUn (fIsi "int") (eVar 21)))) (bTru (eUn (fIsi "bool") (eVar 21)))) (eVar 21) [21])) aNil)) (eC (.int 0)))) (gN 14)) sNext)
 (sSeq (sIf (bTru (eVar 14)) (sAsg (eOfB (bBin vEq (eBin vSub (eBin vMul (eBin vIx (eVar 20) (eC (.int 0))) (eBin vIx (eVar 20) (eC (.int 3)))) (eBin vMul (eBin vIx (eVar 20) (eC (.int 1))) (eBin vIx (eVar 20) (eC (.int 2))))) (eC (.int 1)))) (gN 14)) sNext)
 (sRet (eAnd (eCall d_L_truth (aCons (eCall d_is_twist (aCons (eVar 20) aNil)) (aCons (eVar 14) aNil))) (eOfB (bBin vIsB (eCall d_is_twist (aCons (eVar 2) aNil)) (eC (.bool true)))))))))))))))))))))))))))))))
theorem der_law (T : Txt K mg) (f : Addr) (H0 F0 : Hp) (b : Addr) (cdv : Value) (A : Around) (outer : List Env) (s : Shared) (H : Hp) (E : XK) (hr : Room 3 (A.deeper (envOfC "law" (defScope s_law) s.heap.objs.size f cdv))) :
  PSs (cxOf (L2.CX P w) P w K mg base N_law "law" (defScope s_law) f cdv A outer s H E) (defBody s_law).tail (TSD ⟨K, mg, H0, F0, some b⟩ (fun cls d _ H => E cls d H) ⟨[], some 1⟩ ⟨[], some 1⟩ ⟨[], none⟩ ⟨[], none⟩ db_law) :=
 (ss_cons (m1 := ⟨[], some 1⟩) (s_set (e_callS (ok_L_twist T) hr rfl rfl takes_ok rfl (pv 1) a_nil rfl) (fun h => ps_set (i := 2) sc_law.nd rfl (.inl rfl) h))
 (ss_cons (m1 := ⟨[], some 1⟩) (s_set (e_callS (ok_L_twist T) hr rfl rfl takes_ok rfl (pv 1) a_nil rfl) (fun h => ps_set (i := 3) sc_law.nd rfl (.inl rfl) h))
 (ss_cons (m1 := ⟨[], some 1⟩) (s_set (e_tup (a_cons e_int (a_cons e_int (a_cons e_int (a_cons e_int a_nil))))) (fun h => ps_set (i := 4) sc_law.nd rfl (.inl rfl) h))
 (ss_cons (m1 := ⟨[], some 1⟩) (s_if (b_w (bw_or (b_cmp (op_neD hr.units) (v_ne rfl) (e_call (ok_after_twist T) hr rfl rfl takes_ok (a_cons (e_var (by decide) (pv 2)) (a_cons (e_var (by decide) (pv 3)) a_nil)) rfl) (e_call (ok_L_product T) hr rfl rfl takes_ok (a_cons (e_var (by decide) (pv 2)) (a_cons (e_var (by decide) (pv 3)) a_nil)) rfl) (nomark _)) (bw_or1 (b_cmp (op_neD hr.units) (v_ne rfl) (e_call (ok_after_twist T) hr rfl rfl takes_ok (a_cons (e_var (by decide) (pv 2)) (a_cons (e_call (ok_undone_twist T) hr rfl rfl takes_ok (a_cons (e_var (by decide) (pv 2)) a_nil) rfl) a_nil)) rfl) (e_var (by decide) (pv 4)) (nomark _))))) (ss_one (s_ret e_bl)) ss_nil)
 (ss_cons (m1 := ⟨[], some 1⟩) (s_set (e_bin op_sub v_sub (e_callS (ok_L_draw T) hr rfl rfl takes_ok rfl (pv 1) (a_cons e_int a_nil) rfl) e_int) (fun h => ps_set (i := 5) sc_law.nd rfl (.inl rfl) h))
 (ss_cons (m1 := ⟨[], some 1⟩) (s_set (e_var (by decide) (pv 4)) (fun h => ps_set (i := 6) sc_law.nd rfl (.inl rfl) h))
 (ss_cons (m1 := ⟨[], some 1⟩) (s_for pass_ok rfl (i_range1 rfl T.b_range (a_cons (e_callB call_abs v_abs rfl T.b_abs (by decide +kernel) (a_cons (e_var (by decide) (pv 5)) a_nil)) a_nil)) (g_name (pg_name (i := 7) sc_law.nd rfl (.inl rfl))) (ss_one (s_set (e_call (ok_L_product T) hr rfl rfl takes_ok (a_cons (e_var (by decide) (pv 6)) (a_cons (e_ix ix_seq (v_ix rfl) (e_lst (a_cons (e_var (by decide) (pv 2)) (a_cons (e_call (ok_undone_twist T) hr rfl rfl takes_ok (a_cons (e_var (by decide) (pv 2)) a_nil) rfl) a_nil))) (e_callTy call_int1 v_int1 rfl T.b_int (by decide +kernel) (a_cons (e_cmp op_lt v_lt (e_var (by decide) (pv 5)) e_int (nomark _)) a_nil)) (fun _ _ => rfl)) a_nil)) rfl) (fun h => ps_set (i := 6) sc_law.nd rfl (.inl rfl) h))))
 (ss_cons (m1 := ⟨[], some 1⟩) (s_if (b_w (bw_or (b_cmp (op_neD hr.units) (v_ne rfl) (e_call (ok_twist_power T) hr rfl rfl takes_ok (a_cons (e_var (by decide) (pv 2)) (a_cons (e_var (by decide) (pv 5)) a_nil)) rfl) (e_var (by decide) (pv 6)) (nomark _)) (bw_or (b_cmp (op_neD hr.units) (v_ne rfl) (e_call (ok_trace_of_twist T) hr rfl rfl takes_ok (a_cons (e_var (by decide) (pv 2)) a_nil) rfl) (e_bin op_addX (v_add rfl) (e_ix ix_seq (v_ix rfl) (e_var (by decide) (pv 2)) e_int (fun _ _ => rfl)) (e_ix ix_seq (v_ix rfl) (e_var (by decide) (pv 2)) e_int (fun _ _ => rfl))) (nomark _)) (bw_or1 (b_cmp (op_neD hr.units) (v_ne rfl) (e_call (ok_shift T) hr rfl rfl takes_ok (a_cons (e_var (by decide) (pv 5)) a_nil) rfl) (e_tup (a_cons e_int (a_cons (e_var (by decide) (pv 5)) (a_cons e_int (a_cons e_int a_nil))))) (nomark _)))))) (ss_one (s_ret e_bl)) ss_nil)
 (ss_cons (m1 := ⟨[], some 1⟩) (s_set (e_bin op_sub v_sub (e_callS (ok_L_draw T) hr rfl rfl takes_ok rfl (pv 1) (a_cons e_int a_nil) rfl) e_int) (fun h => ps_set (i := 8) sc_law.nd rfl (.inl rfl) h))
 (ss_cons (m1 := ⟨[], some 1⟩) (s_set (e_bin op_sub v_sub (e_callS (ok_L_draw T) hr rfl rfl takes_ok rfl (pv 1) (a_cons e_int a_nil) rfl) e_int) (fun h => ps_set (i := 9) sc_law.nd rfl (.inl rfl) h))
 (ss_cons (m1 := ⟨[], some 1⟩) (s_if (b_cmp (op_neD hr.units) (v_ne rfl) (e_call (ok_moved_point T) hr rfl rfl takes_ok (a_cons (e_var (by decide) (pv 2)) (a_cons (e_tup (a_cons (e_var (by decide) (pv 8)) (a_cons (e_var (by decide) (pv 9)) a_nil))) a_nil)) rfl) (e_tup (a_cons (e_bin op_addX (v_add rfl) (e_bin op_mulX v_mul (e_ix ix_seq (v_ix rfl) (e_var (by decide) (pv 2)) e_int (fun _ _ => rfl)) (e_var (by decide) (pv 8))) (e_bin op_mulX v_mul (e_ix ix_seq (v_ix rfl) (e_var (by decide) (pv 2)) e_int (fun _ _ => rfl)) (e_var (by decide) (pv 9)))) (a_cons (e_bin op_addX (v_add rfl) (e_bin op_mulX v_mul (e_ix ix_seq (v_ix rfl) (e_var (by decide) (pv 2)) e_int (fun _ _ => rfl)) (e_var (by decide) (pv 8))) (e_bin op_mulX v_mul (e_ix ix_seq (v_ix rfl) (e_var (by decide) (pv 2)) e_int (fun _ _ => rfl)) (e_var (by decide) (pv 9)))) a_nil))) (nomark _)) (ss_one (s_ret e_bl)) ss_nil)
 (ss_cons (m1 := ⟨[], some 1⟩) (s_set (e_call (ok_word_of_twist T) hr rfl rfl takes_ok (a_cons (e_var (by decide) (pv 2)) a_nil) rfl) (fun h => ps_set (i := 10) sc_law.nd rfl (.inl rfl) h))
 (ss_cons (m1 := ⟨[], some 1⟩) (s_if (b_w (bw_or (b_cmp (op_neD hr.units) (v_ne rfl) (e_var (by decide) (pv 10)) (e_call (ok_L_word T) hr rfl rfl takes_ok (a_cons (e_var (by decide) (pv 2)) a_nil) rfl) (nomark _)) (bw_or (b_cmp (op_neD hr.units) (v_ne rfl) (e_call (ok_L_of_word T) hr rfl rfl takes_ok (a_cons (e_ix ix_seq (v_ix rfl) (e_var (by decide) (pv 10)) e_int (fun _ _ => rfl)) (a_cons (e_ix ix_seq (v_ix rfl) (e_var (by decide) (pv 10)) e_int (fun _ _ => rfl)) a_nil)) rfl) (e_var (by decide) (pv 2)) (nomark _)) (bw_or1 (b_cmp (op_neD hr.units) (v_ne rfl) (e_call (ok_twist_of_word T) hr rfl rfl takes_ok (a_cons (e_ix ix_seq (v_ix rfl) (e_var (by decide) (pv 10)) e_int (fun _ _ => rfl)) (a_cons (e_ix ix_seq (v_ix rfl) (e_var (by decide) (pv 10)) e_int (fun _ _ => rfl)) a_nil)) rfl) (e_var (by decide) (pv 2)) (nomark _)))))) (ss_one (s_ret e_bl)) ss_nil)
 (ss_cons (m1 := ⟨[], some 1⟩) (s_set (e_callTy call_tuple_of (v_tuple rfl) rfl T.b_tuple (by decide +kernel) (a_cons (e_ofF (f_lc rfl sc_law.nd  (i_range1 rfl T.b_range (a_cons (e_bin op_addX (v_add rfl) e_int (e_callS (ok_L_draw T) hr rfl rfl takes_ok rfl (pv 1) (a_cons e_int a_nil) rfl)) a_nil)) (blkOk_by (own := [("k", 7)]) (N := N_law) (sc := defScope s_law) (by decide +kernel)) (fun _ _ _ _ _ => (g_name (pg_name (i := 7) sc_law.nd rfl (.inl rfl)))) (fun _ _ _ _ _ => t_nil) (fun _ _ _ _ _ => (e_bin op_sub v_sub (e_callS (ok_L_draw T) hr rfl rfl takes0 rfl (pv 1) (a_cons e_int a_nil) rfl) e_int)))) a_nil)) (fun h => ps_set (i := 11) sc_law.nd rfl (.inl rfl) h))
 (ss_cons (m1 := ⟨[], some 1⟩) (s_set (e_bin op_sub v_sub e_int (e_bin op_mulX v_mul e_int (e_callS (ok_L_draw T) hr rfl rfl takes_ok rfl (pv 1) (a_cons e_int a_nil) rfl))) (fun h => ps_set (i := 12) sc_law.nd rfl (.inl rfl) h))
 (ss_cons (m1 := ⟨[], some 1⟩) (s_if (b_cmp (op_neD hr.units) (v_ne rfl) (e_call (ok_twist_of_word T) hr rfl rfl takes_ok (a_cons (e_var (by decide) (pv 12)) (a_cons (e_var (by decide) (pv 11)) a_nil)) rfl) (e_call (ok_L_of_word T) hr rfl rfl takes_ok (a_cons (e_var (by decide) (pv 12)) (a_cons (e_var (by decide) (pv 11)) a_nil)) rfl) (nomark _)) (ss_one (s_ret e_bl)) ss_nil)
 (ss_cons (m1 := ⟨[], some 1⟩) (s_for pass_ok rfl (i_seq rfl (e_lst (a_cons (e_var (by decide) (pv 2)) (a_cons (e_tup (a_cons e_int (a_cons (e_un un_neg v_neg e_int) (a_cons e_int (a_cons e_int a_nil))))) (a_cons (e_tup (a_cons e_int (a_cons e_int (a_cons (e_un un_neg v_neg e_int) (a_cons e_int a_nil))))) (a_cons (e_tup (a_cons (e_un un_neg v_neg e_int) (a_cons e_int (a_cons e_int (a_cons (e_un un_neg v_neg e_int) a_nil))))) (a_cons (e_tup (a_cons e_int (a_cons e_int (a_cons (e_un un_neg v_neg e_int) (a_cons (e_un un_neg v_neg e_int) a_nil))))) (a_cons (e_var (by decide) (pv 4)) a_nil)))))))) (g_name (pg_name (i := 13) sc_law.nd rfl (.inl rfl))) (ss_cons (m1 := ⟨[], some 1⟩) (s_set e_non (fun h => ps_set (i := 14) sc_law.nd rfl (.inl rfl) h))
 (ss_cons (m1 := ⟨[], some 1⟩) (s_set (e_var (by decide) (pv 13)) (fun h => ps_set (i := 6) sc_law.nd rfl (.inl rfl) h))
 (ss_cons (m1 := ⟨[], some 1⟩) (s_for pass_ok rfl (i_range2 rfl T.b_range (a_cons e_int (a_cons e_int a_nil))) (g_name (pg_name (i := 7) sc_law.nd rfl (.inl rfl))) (ss_cons (m1 := ⟨[], some 1⟩) (s_if (b_w (bw_and (b_cmp (op_eqD hr.units) (v_eq rfl) (e_var (by decide) (pv 6)) (e_var (by decide) (pv 4)) (nomark _)) (bw_and1 (b_cmp op_isN v_isN (e_var (by decide) (pv 14)) e_non (nomark _))))) (ss_one (s_set (e_var (by decide) (pv 7)) (fun h => ps_set (i := 14) sc_law.nd rfl (.inl rfl) h))) ss_nil)
 (ss_one (s_set (e_call (ok_L_product T) hr rfl rfl takes_ok (a_cons (e_var (by decide) (pv 6)) (a_cons (e_var (by decide) (pv 13)) a_nil)) rfl) (fun h => ps_set (i := 6) sc_law.nd rfl (.inl rfl) h)))))
 (ss_one (s_if (b_cmp (op_neD hr.units) (v_ne rfl) (e_call (ok_period_of_twist T) hr rfl rfl takes_ok (a_cons (e_var (by decide) (pv 13)) a_nil) rfl) (e_var (by decide) (pv 14)) (nomark _)) (ss_one (s_ret e_bl)) ss_nil))))))
 (ss_cons (m1 := ⟨[], some 1⟩) (s_asg (e_var (by decide) (pv 2)) (g_tup rfl rfl (gs_cons (g_name (pg_name (i := 15) sc_law.nd rfl (.inl rfl))) (gs_cons (g_name (pg_name (i := 16) sc_law.nd rfl (.inl rfl))) (gs_cons (g_name (pg_name (i := 17) sc_law.nd rfl (.inl rfl))) (gs_cons (g_name (pg_name (i := 18) sc_law.nd rfl (.inl rfl))) gs_nil)))) (gl_cons (gl_cons (gl_cons (gl_cons gl_nil))))))
 (ss_cons (m1 := ⟨[], some 1⟩) (s_set (e_call (ok_with_first_column T) hr rfl rfl takes_ok (a_cons (e_var (by decide) (pv 15)) (a_cons (e_var (by decide) (pv 17)) (a_cons (e_tup (a_cons (e_var (by decide) (pv 18)) (a_cons (e_bin op_sub v_sub e_int (e_var (by decide) (pv 16))) a_nil))) a_nil))) rfl) (fun h => ps_set (i := 13) sc_law.nd rfl (.inl rfl) h))
 (ss_cons (m1 := ⟨[], some 1⟩) (s_if (b_cmp (op_neD hr.units) (v_ne rfl) (e_var (by decide) (pv 13)) (e_tup (a_cons (e_var (by decide) (pv 15)) (a_cons (e_var (by decide) (pv 16)) (a_cons (e_var (by decide) (pv 17)) (a_cons (e_var (by decide) (pv 18)) a_nil))))) (nomark _)) (ss_one (s_ret e_bl)) ss_nil)
 (ss_cons (m1 := ⟨[], some 1⟩) (s_set (e_lst (a_cons e_non (a_cons (e_bin op_addX (v_add rfl) (e_var (by decide) (pv 2)) (e_tup (a_cons e_int a_nil))) (a_cons (e_tup (a_cons (e_var (by decide) (pv 15)) (a_cons (e_var (by decide) (pv 16)) (a_cons (e_var (by decide) (pv 17)) a_nil)))) (a_cons (e_tup (a_cons (e_var (by decide) (pv 15)) (a_cons (e_var (by decide) (pv 16)) (a_cons (e_var (by decide) (pv 17)) (a_cons (e_bin op_addX (v_add rfl) (e_var (by decide) (pv 18)) e_int) a_nil))))) (a_cons (e_tup (a_cons e_bl (a_cons e_int (a_cons e_int (a_cons e_int a_nil))))) (a_cons (e_callTy call_list_of (v_list rfl) rfl T.b_list (by decide +kernel) (a_cons (e_var (by decide) (pv 2)) a_nil)) (a_cons (e_tup (a_cons (e_var (by decide) (pv 15)) (a_cons (e_var (by decide) (pv 17)) (a_cons (e_var (by decide) (pv 16)) (a_cons (e_var (by decide) (pv 18)) a_nil))))) (a_cons e_str (a_cons (e_tup (a_cons e_int (a_cons e_int (a_cons e_int (a_cons e_int a_nil))))) (a_cons (e_tup (a_cons e_int (a_cons e_int (a_cons e_int (a_cons e_int a_nil))))) a_nil))))))))))) (fun h => ps_set (i := 19) sc_law.nd rfl (.inl rfl) h))
 (ss_cons (m1 := ⟨[], some 1⟩) (s_set (e_ix ix_seq (v_ix rfl) (e_var (by decide) (pv 19)) (e_callS (ok_L_draw T) hr rfl rfl takes_ok rfl (pv 1) (a_cons (e_callB call_len (v_len rfl) rfl T.b_len (by decide +kernel) (a_cons (e_var (by decide) (pv 19)) a_nil)) a_nil) rfl) (fun _ _ => rfl)) (fun h => ps_set (i := 20) sc_law.nd rfl (.inl rfl) h))
 (ss_cons (m1 := ⟨[], some 1⟩) (s_set (e_and (e_isi tyOk_tuple rfl rfl T.b_isinstance rfl T.b_tuple (by decide +kernel) (e_var (by decide) (pv 20))) (e_one (e_cmp (op_eqD hr.units) (v_eq rfl) (e_callB call_len (v_len rfl) rfl T.b_len (by decide +kernel) (a_cons (e_var (by decide) (pv 20)) a_nil)) e_int (nomark _)))) (fun h => ps_set (i := 14) sc_law.nd rfl (.inl rfl) h))
 (ss_cons (m1 := ⟨[], some 1⟩) (s_if (b_tru (e_var (by decide) (pv 14)) rfl) (ss_one (s_set (e_cmp (op_eqD hr.units) (v_eq rfl) (e_callB call_len (v_len rfl) rfl T.b_len (by decide +kernel) (a_cons (e_ofF (f_lc rfl sc_law.nd  (i_seq rfl (e_var (by decide) (pv 20))) (blkOk_by (own := [("part", 21)]) (N := N_law) (sc := defScope s_law) (by decide +kernel)) (fun _ _ _ _ _ => (g_name (pg_name (i := 21) sc_law.nd rfl (.inl rfl)))) (fun _ _ _ _ _ => (t_one (b_w (bw_or (b_not (b_tru (e_isi tyOk_int rfl rfl T.b_isinstance rfl T.b_int (by decide +kernel) (e_var (by decide) (pv 21))) rfl)) (bw_or1 (b_tru (e_isi tyOk_bool rfl rfl T.b_isinstance rfl T.b_bool (by decide +kernel) (e_var (by decide) (pv 21))) rfl)))))) (fun _ _ _ _ _ => (e_var (by decide) (pv 21))))) a_nil)) e_int (nomark _)) (fun h => ps_set (i := 14) sc_law.nd rfl (.inl rfl) h))) ss_nil)
 (ss_cons (m1 := ⟨[], some 1⟩) (s_if (b_tru (e_var (by decide) (pv 14)) rfl) (ss_one (s_set (e_cmp (op_eqD hr.units) (v_eq rfl) (e_bin op_sub v_sub (e_bin op_mulX v_mul (e_ix ix_seq (v_ix rfl) (e_var (by decide) (pv 20)) e_int (fun _ _ => rfl)) (e_ix ix_seq (v_ix rfl) (e_var (by decide) (pv 20)) e_int (fun _ _ => rfl))) (e_bin op_mulX v_mul (e_ix ix_seq (v_ix rfl) (e_var (by decide) (pv 20)) e_int (fun _ _ => rfl)) (e_ix ix_seq (v_ix rfl) (e_var (by decide) (pv 20)) e_int (fun _ _ => rfl)))) e_int (nomark _)) (fun h => ps_set (i := 14) sc_law.nd rfl (.inl rfl) h))) ss_nil)
 (ss_one (s_ret (e_and (e_call (ok_L_truth T) hr rfl rfl takes_ok (a_cons (e_call (ok_is_twist T) hr rfl rfl takes_ok (a_cons (e_var (by decide) (pv 20)) a_nil) rfl) (a_cons (e_var (by decide) (pv 14)) a_nil)) rfl) (e_one (e_cmp op_isBl v_isB (e_call (ok_is_twist T) hr rfl rfl takes_ok (a_cons (e_var (by decide) (pv 2)) a_nil) rfl) e_bl (nomark _)))))))))))))))))))))))))))))))
theorem der_law0 (T : Txt K mg) (f : Addr) (cdv : Value) (A : Around) (outer : List Env) (s : Shared) (H : Hp) (E : XK) (hr : Room 3 (A.deeper (envOfC "law" (defScope s_law) s.heap.objs.size f cdv))) :
  PS (cxOf (L2.CX P w) P w K mg base N_law "law" (defScope s_law) f cdv A outer s H E) ((defBody s_law).headD (.Pass ⟨0, 0, 0, 0⟩)) (tAsg (tCallS (spI K) (fun _ => E0) (tCons (tVar 0) tNil)) (gName 1)) :=
 law_first (ok_L_state T) (hr.mono (by decide)) sc_law.nd rfl (.inr rfl) (pv 0) rfl
end
end M

set_option Elab.async false
set_option linter.all false
set_option maxRecDepth 100000
set_option maxHeartbeats 4000000
namespace M
open PySem PySem.Spec PyProof.Rows L2
theorem abs_if (a : Int) : (if a < 0 then -a else a) = (a.natAbs : Int) := by omega
theorem L_truth_t (b : Bool) : d_L_truth [.bool b, .bool b] = .ok (.bool true) [] := by
  unfold d_L_truth
  cases b <;> simp
theorem draw_eq : d_L_draw = dDraw := rfl
end M

set_option Elab.async false
set_option linter.all false
set_option maxRecDepth 100000
set_option maxHeartbeats 4000000
namespace M
open PySem PySem.Spec PyProof.Rows L2
/-! ### two by two -/
@[ext] structure Mx where
  a : Int
  b : Int
  c : Int
  d : Int
deriving DecidableEq
def Mx.enc (x : Mx) : D := .tuple [.int x.a, .int x.b, .int x.c, .int x.d]
def Mx.mul (x y : Mx) : Mx := ⟨x.a * y.a + x.b * y.c, x.a * y.b + x.b * y.d, x.c * y.a + x.d * y.c, x.c * y.b + x.d * y.d⟩
def Mx.one : Mx := ⟨1, 0, 0, 1⟩
def Mx.inv (x : Mx) : Mx := ⟨x.d, -x.b, -x.c, x.a⟩
def Mx.det (x : Mx) : Int := x.a * x.d - x.b * x.c
theorem Mx.mul_assoc (x y z : Mx) : (x.mul y).mul z = x.mul (y.mul z) := by
  ext <;> simp only [Mx.mul] <;> grind
theorem Mx.one_mul (x : Mx) : Mx.one.mul x = x := by ext <;> simp [Mx.mul, Mx.one]
theorem Mx.mul_one (x : Mx) : x.mul Mx.one = x := by ext <;> simp [Mx.mul, Mx.one]
theorem Mx.mul_inv {x : Mx} (h : x.det = 1) : x.mul x.inv = Mx.one := by
  unfold Mx.det at h
  ext <;> simp only [Mx.mul, Mx.inv, Mx.one] <;> grind
def Mx.pow (x : Mx) : Nat → Mx
  | 0 => Mx.one
  | n + 1 => (x.pow n).mul x
theorem Mx.pow_add (x : Mx) (m : Nat) : ∀ n, x.pow (m + n) = (x.pow m).mul (x.pow n)
  | 0 => by rw [Nat.add_zero, Mx.pow, Mx.mul_one]
  | n + 1 => by rw [← Nat.add_assoc, Mx.pow, Mx.pow_add x m n, Mx.pow, Mx.mul_assoc]
theorem Mx.pow_sq (x : Mx) : ∀ n, (x.mul x).pow n = x.pow (2 * n)
  | 0 => rfl
  | n + 1 => by
    rw [Mx.pow, Mx.pow_sq x n, show 2 * (n + 1) = 2 * n + 1 + 1 by omega, Mx.pow, Mx.pow, Mx.mul_assoc]
/-- sizes -/
structure Bd (n : Nat) (x : Mx) : Prop where
  a : Szc x.a n
  b : Szc x.b n
  c : Szc x.c n
  d : Szc x.d n
theorem szc_mono {x : Int} {m n : Nat} (h : Szc x m) (hn : m ≤ n) : Szc x n := ⟨Nat.lt_of_lt_of_le h.h (two_pow_le hn)⟩
theorem Bd.mono {x : Mx} {m n : Nat} (h : Bd m x) (hn : m ≤ n) : Bd n x := ⟨szc_mono h.a hn, szc_mono h.b hn, szc_mono h.c hn, szc_mono h.d hn⟩
theorem szc_dot {a b c d : Int} {m n : Nat} (ha : Szc a m) (hb : Szc b n) (hc : Szc c m) (hd : Szc d n) : Szc (a * b + c * d) (m + n + 1) :=
  szc_mono (inferInstance : Szc (a * b + c * d) _) (by omega)
theorem Bd.mul {x y : Mx} {m n : Nat} (h : Bd m x) (k : Bd n y) : Bd (m + n + 1) (x.mul y) :=
  ⟨szc_dot h.a k.a h.b k.c, szc_dot h.a k.b h.b k.d, szc_dot h.c k.a h.d k.c, szc_dot h.c k.b h.d k.d⟩
theorem Bd.inv {x : Mx} {m : Nat} (h : Bd m x) : Bd m x.inv := by
  haveI := h.b
  haveI := h.c
  exact ⟨h.d, (inferInstance : Szc (-x.b) m), (inferInstance : Szc (-x.c) m), h.a⟩
theorem Bd.one : Bd 1 Mx.one := ⟨⟨by decide⟩, ⟨by decide⟩, ⟨by decide⟩, ⟨by decide⟩⟩
theorem after_ok {x y : Mx} {m n : Nat} (h : Bd m x) (k : Bd n y) (hs : m + n < 1000000) : d_after_twist [x.enc, y.enc] = .ok (x.mul y).enc [] := by
  have mm : ∀ {a b : Int}, Szc a m → Szc b n → vMul (.int a) (.int b) = some (.int (a * b)) := fun ha hb => vMul_int (mulOk_c (ha := ha) (hb := hb) hs)
  unfold d_after_twist
  simp [Mx.enc, Mx.mul, mm h.a k.a, mm h.a k.b, mm h.b k.c, mm h.b k.d, mm h.c k.a, mm h.c k.b, mm h.d k.c, mm h.d k.d]
theorem product_ok {x y : Mx} {m n : Nat} (h : Bd m x) (k : Bd n y) (hs : m + n < 1000000) : d_L_product [x.enc, y.enc] = .ok (x.mul y).enc [] := by
  have mm : ∀ {a b : Int}, Szc a m → Szc b n → vMul (.int a) (.int b) = some (.int (a * b)) := fun ha hb => vMul_int (mulOk_c (ha := ha) (hb := hb) hs)
  unfold d_L_product
  simp [Mx.enc, Mx.mul, mm h.a k.a, mm h.a k.b, mm h.b k.c, mm h.b k.d, mm h.c k.a, mm h.c k.b, mm h.d k.c, mm h.d k.d]
theorem undone_ok (x : Mx) : d_undone_twist [x.enc] = .ok x.inv.enc [] := by
  unfold d_undone_twist
  simp [Mx.enc, Mx.inv]
theorem vNe_mx (x y : Mx) : vNe x.enc y.enc = some (!decide (x = y)) := by
  unfold Mx.enc
  rw [vNe_t4]
  congr 2
  rw [decide_eq_decide, Mx.ext_iff]
  simp
theorem vEq_mx (x y : Mx) : vEq x.enc y.enc = some (decide (x = y)) := by
  unfold Mx.enc
  rw [vEq_t4]
  congr 1
  rw [decide_eq_decide, Mx.ext_iff]
  simp
/-! ### the drawn matrix -/
def uv : Nat → Nat × Nat → Nat × Nat
  | 0, p => p
  | n + 1, p => uv n (3 * p.1 + p.2, p.1)
structure TwOk (k : Nat) (x : Mx) : Prop where
  det : x.det = 1
  a : x.a.natAbs ≤ (uv k (1, 0)).1
  b : x.b.natAbs ≤ (uv k (1, 0)).2
  c : x.c.natAbs ≤ (uv k (0, 1)).1
  d : x.d.natAbs ≤ (uv k (0, 1)).2
theorem uv_succ : ∀ (k : Nat) (p : Nat × Nat), uv (k + 1) p = (3 * (uv k p).1 + (uv k p).2, (uv k p).1)
  | 0, _ => rfl
  | k + 1, p => by rw [uv, uv_succ k, uv]
theorem abs_step {p q t : Int} {u v : Nat} (hp : p.natAbs ≤ u) (hq : q.natAbs ≤ v) (ht : t.natAbs ≤ 3) : (p * t + q).natAbs ≤ 3 * u + v := by
  have h1 : (p * t).natAbs ≤ u * 3 := by rw [Int.natAbs_mul]; exact Nat.mul_le_mul hp ht
  have := Int.natAbs_add_le (p * t) q
  omega
theorem TwOk.step {k : Nat} {x : Mx} (h : TwOk k x) {t : Int} (ht : t.natAbs ≤ 3) : TwOk (k + 1) ⟨x.a * t + x.b, -x.a, x.c * t + x.d, -x.c⟩ := by
  obtain ⟨h0, h1, h2, h3, h4⟩ := h
  refine ⟨?_, ?_, ?_, ?_, ?_⟩
  · unfold Mx.det at *; simp only; grind
  · rw [uv_succ]; exact abs_step h1 h2 ht
  · rw [uv_succ]; simp only [Int.natAbs_neg]; exact h1
  · rw [uv_succ]; exact abs_step h3 h4 ht
  · rw [uv_succ]; simp only [Int.natAbs_neg]; exact h3
structure Good4 (x : Mx) : Prop where
  det : x.det = 1
  bd : Bd 8 x
  c : x.c.natAbs ≤ 33
theorem TwOk.good {k : Nat} {x : Mx} (h : TwOk k x) (hk : k ≤ 4) : Good4 x := by
  obtain ⟨h0, h1, h2, h3, h4⟩ := h
  have e : k = 0 ∨ k = 1 ∨ k = 2 ∨ k = 3 ∨ k = 4 := by omega
  have sz : ∀ y : Int, y.natAbs ≤ 200 → Szc y 8 := fun y hy => ⟨by omega⟩
  rcases e with rfl | rfl | rfl | rfl | rfl <;> simp [uv] at h1 h2 h3 h4 <;> exact ⟨h0, ⟨sz _ (by omega), sz _ (by omega), sz _ (by omega), sz _ (by omega)⟩, by omega⟩
theorem twist_ok {ω : Wd} (h : StOk ω) : ∃ (x : Mx) (ω' : Wd), d_L_twist [] ω = .ok x.enc ω' ∧ Good4 x ∧ StOk ω' := by
  obtain ⟨n, ω1, h1, n1, n2, s1⟩ := draw_ok h (m := 5) (by omega) (by omega)
  have run := for_st (g := gN 2) (db := sSeq (sAsg (eBin vSub (eCallS dDraw (aCons (eC (.int 7)) aNil)) (eC (.int 3))) (gN 3))
 (sSeq (sAsg (eVar 1) (gT (gsCons (gN 4) (gsCons (gN 5) (gsCons (gN 6) (gsCons (gN 7) gsNil))))))
 (sAsg (eTup (aCons (eBin vAdd (eBin vMul (eVar 4) (eVar 3)) (eVar 5)) (aCons (eBin vSub (eC (.int 0)) (eVar 4)) (aCons (eBin vAdd (eBin vMul (eVar 6) (eVar 3)) (eVar 7)) (aCons (eBin vSub (eC (.int 0)) (eVar 6)) aNil))))) (gN 1))))
    (fun s : Mx × Option D × Option D × Option D × Option D × Option D × Option D => [none, some s.1.enc, s.2.1, s.2.2.1, s.2.2.2.1, s.2.2.2.2.1, s.2.2.2.2.2.1, s.2.2.2.2.2.2])
    (fun ds s w => (∃ k, k + ds.length ≤ 4 ∧ TwOk k s.1) ∧ StOk w)
    (fun d ds s w p => by
      obtain ⟨x, o2, o3, o4, o5, o6, o7⟩ := s
      obtain ⟨⟨k, k1, k2⟩, sw⟩ := p
      simp only [List.length_cons] at k1 k2 ⊢
      obtain ⟨t, w1, ht, t1, t2, sw1⟩ := draw_ok sw (m := 7) (by omega) (by omega)
      have g := (k2.good (by omega)).bd
      haveI := g.a
      haveI := g.c
      haveI : Szc (t - 3) 3 := sz_of (by omega) (by omega)
      refine ⟨(⟨x.a * (t - 3) + x.b, -x.a, x.c * (t - 3) + x.d, -x.c⟩, some d, some (.int (t - 3)), some (.int x.a), some (.int x.b), some (.int x.c), some (.int x.d)), w1, _, rfl, ?_, ⟨k + 1, by omega, k2.step (by omega)⟩, sw1⟩
      generalize hT : t - 3 = T at *
      simp [ht, hT, Mx.enc])
    (rangeL 0 1 n.toNat) (Mx.one, none, none, none, none, none, none) ω1 ⟨⟨0, by rw [rangeL_len]; omega, ⟨rfl, by decide, by decide, by decide, by decide⟩⟩, s1⟩
  obtain ⟨⟨x, o2, o3, o4, o5, o6, o7⟩, w2, ⟨⟨k, k1, k2⟩, sw⟩, hr⟩ := run
  refine ⟨x, w2, ?_, k2.good (by simpa using k1), sw⟩
  unfold d_L_twist
  simp only [Mx.enc, Mx.one] at hr
  simp [draw_eq, h1, range1 (j := n) (by omega), hr, Mx.enc]
end M

set_option Elab.async false
set_option linter.all false
set_option maxRecDepth 100000
set_option maxHeartbeats 4000000
namespace M
open PySem PySem.Spec PyProof.Rows L2
/-! ### powers -/
noncomputable abbrev tpT : Ev → MM Bool := bBin cGt (eVar 1) (eC (.int 0))
noncomputable abbrev tpB : Ev → MM Fl := sSeq (sIf (bBin vEq (eBin vMod (eVar 1) (eC (.int 2))) (eC (.int 1))) (sAsg (eCall d_after_twist (aCons (eVar 2) (aCons (eVar 0) aNil))) (gN 2)) sNext)
 (sSeq (sAsg (eCall d_after_twist (aCons (eVar 0) (aCons (eVar 0) aNil))) (gN 0))
 (sAug 1 vFdiv (eC (.int 2))))
theorem tp_loop (x : Mx) (hx : Bd 8 x) (n : Nat) (hn : n < 8) : ∃ o1 o2 : Option D, sWhile tpT tpB [some x.enc, some (.int n), some Mx.one.enc] [] = .ok (.next [o1, o2, some (x.pow n).enc]) [] := by
  obtain ⟨⟨y, f, k⟩, ⟨j, j1, j2, j3, j4, j5⟩, pc, pw⟩ := while_by (w := []) (t := tpT) (db := tpB) (fun s : Mx × Mx × Nat => [some s.1.enc, some (.int (s.2.2 : Int)), some s.2.1.enc])
    (fun s => ∃ j, j ≤ 3 ∧ s.2.2 * 2 ^ j < 8 ∧ Bd (2 ^ j * 9 - 1) s.1 ∧ Bd (2 ^ j * 9) s.2.1 ∧ s.2.1.mul (s.1.pow s.2.2) = x.pow n) (fun s => decide (0 < (s.2.2 : Int)))
    (fun s => (s.1.mul s.1, if s.2.2 % 2 = 1 then s.2.1.mul s.1 else s.2.1, s.2.2 / 2)) (fun s => s.2.2)
    (fun s _ => by
      obtain ⟨y, f, k⟩ := s
      simp only
      generalize (k : Int) = K
      simp)
    (fun s p c => by
      obtain ⟨y, f, k⟩ := s
      obtain ⟨j, j1, j2, j3, j4, j5⟩ := p
      have c := of_decide_eq_true c
      simp only at j2 j3 j4 j5 c ⊢
      have jb : j = 0 ∨ j = 1 ∨ j = 2 ∨ j = 3 := by omega
      have hj : j < 3 := by rcases jb with rfl | rfl | rfl | rfl <;> simp at j2 <;> omega
      have szs : 2 ^ j * 9 - 1 + (2 ^ j * 9 - 1) < 1000000 := by rcases jb with rfl | rfl | rfl | rfl <;> decide
      have szs2 : 2 ^ j * 9 + (2 ^ j * 9 - 1) < 1000000 := by rcases jb with rfl | rfl | rfl | rfl <;> decide
      have a1 := after_ok j3 j3 szs
      have a2 := after_ok j4 j3 szs2
      have e1 : 2 ^ (j + 1) * 9 = 2 * (2 ^ j * 9) := by rw [Nat.pow_succ]; omega
      have p1 : 1 ≤ 2 ^ j := Nat.one_le_two_pow
      refine ⟨?_, ⟨j + 1, by omega, ?_, (j3.mul j3).mono (by omega), ?_, ?_⟩, by omega⟩
      · have hm : ((k : Int)) % 2 = 1 ↔ k % 2 = 1 := by omega
        have hd : ((k : Int)) / 2 = ((k / 2 : Nat) : Int) := by omega
        have d2 : vFdiv (.int (k : Int)) (.int 2) = some (.int ((k / 2 : Nat) : Int)) := by rw [divSm (b := 2) (by omega) (by omega), hd]
        have m2 : vMod (.int (k : Int)) (.int 2) = some (.int ((k : Int) % 2)) := modP (by omega)
        generalize hk2 : ((k / 2 : Nat) : Int) = K2 at *
        generalize (k : Int) = K at *
        by_cases o : k % 2 = 1
        · have o2 : K % 2 = 1 := hm.2 o
          unfold tpB
          simp [m2, o2, a2, a1, d2, o]
        · have o2 : ¬ K % 2 = 1 := fun z => o (hm.1 z)
          unfold tpB
          simp [m2, o2, a1, d2, o]
      · rw [Nat.pow_succ]
        have : k / 2 * (2 ^ j * 2) = 2 ^ j * (k / 2 * 2) := by grind
        rw [this]
        have : k / 2 * 2 ≤ k := by omega
        have := Nat.mul_le_mul_left (2 ^ j) this
        rw [Nat.mul_comm] at j2
        omega
      · split
        · exact (j4.mul j3).mono (by omega)
        · exact j4.mono (by omega)
      · rw [Mx.pow_sq]
        split
        · rename_i o
          rw [Mx.mul_assoc, ← j5]
          congr 1
          have : y.mul (y.pow (2 * (k / 2))) = y.pow (2 * (k / 2) + 1) := by
            rw [show 2 * (k / 2) + 1 = 1 + 2 * (k / 2) by omega, Mx.pow_add, Mx.pow, Mx.pow, Mx.one_mul]
          rw [this]; congr 1; omega
        · rw [← j5]; congr 2; omega)
    (x, Mx.one, n) ⟨0, by omega, by simpa using hn, hx, Bd.one.mono (by omega), by rw [Mx.one_mul]⟩
  have k0 : k = 0 := by have := of_decide_eq_false pc; simp only at this; omega
  subst k0
  simp only [Mx.pow, Mx.mul_one] at j5
  simp only at pw
  rw [j5] at pw
  exact ⟨_, _, pw⟩
theorem tp_frame {x : D} {y r : D} {K : Int} {o1 o2 : Option D} (h : (K < 0 ∧ d_undone_twist [x] = .ok y [] ∧ sWhile tpT tpB [some y, some (.int (-K)), some Mx.one.enc] [] = .ok (.next [o1, o2, some r]) []) ∨ (¬ K < 0 ∧ sWhile tpT tpB [some x, some (.int K), some Mx.one.enc] [] = .ok (.next [o1, o2, some r]) [])) : d_twist_power [x, .int K] = .ok r [] := by
  unfold d_twist_power
  rcases h with ⟨h1, h2, h3⟩ | ⟨h1, h3⟩
  · simp [Mx.enc, Mx.one] at h3
    simp [h1, h2, h3]
  · simp [Mx.enc, Mx.one] at h3
    simp [h1, h3]
theorem power_ok4 {x : Mx} (hx : Bd 8 x) {K : Int} (hK : -4 ≤ K ∧ K ≤ 4) : d_twist_power [x.enc, .int K] = .ok ((if K < 0 then x.inv else x).pow K.natAbs).enc [] := by
  by_cases h : K < 0
  · obtain ⟨o1, o2, r⟩ := tp_loop x.inv hx.inv K.natAbs (by omega)
    rw [show ((K.natAbs : Nat) : Int) = -K by omega] at r
    rw [if_pos h]
    exact tp_frame (.inl ⟨h, undone_ok x, r⟩)
  · obtain ⟨o1, o2, r⟩ := tp_loop x hx K.natAbs (by omega)
    rw [show ((K.natAbs : Nat) : Int) = K by omega] at r
    rw [if_neg h]
    exact tp_frame (y := .none) (.inr ⟨h, r⟩)
/-- times the same again and again -/
theorem Bd.pow {x : Mx} {m : Nat} (h : Bd m x) : ∀ n, Bd (n * (m + 1) + 1) (x.pow n)
  | 0 => Bd.one.mono (by omega)
  | n + 1 => ((Bd.pow h n).mul h).mono (by rw [Nat.succ_mul]; omega)
/-! ### words -/
def Tq (q : Int) : Mx := ⟨1, q, 0, 1⟩
def Ss : Mx := ⟨0, -1, 1, 0⟩
def ofR (acc : Mx) : List Int → Mx
  | [] => acc
  | q :: qs => ofR ((acc.mul Ss).mul (Tq q)) qs
def ofW (acc : Mx) : List Int → Mx
  | [] => acc
  | q :: qs => ofR (acc.mul (Tq q)) qs
def lpM : List Int → Mx
  | [] => Mx.one
  | q :: qs => ((Tq q).mul Ss).mul (lpM qs)
theorem ofR_snoc (acc : Mx) (l : List Int) (q : Int) : ofR acc (l ++ [q]) = ofW (acc.mul Ss) (l ++ [q]) := by
  cases l <;> rfl
theorem ofW_snoc : ∀ (l : List Int) (acc : Mx) (q : Int), ofW acc (l ++ [q]) = (acc.mul (lpM l)).mul (Tq q)
  | [], acc, q => by show acc.mul (Tq q) = _; rw [lpM, Mx.mul_one]
  | p :: l, acc, q => by
    show ofR (acc.mul (Tq p)) (l ++ [q]) = _
    rw [ofR_snoc, ofW_snoc l, lpM]
    simp only [Mx.mul_assoc]
theorem lpM_snoc (l : List Int) (q : Int) : lpM (l ++ [q]) = (lpM l).mul ((Tq q).mul Ss) := by
  induction l with
  | nil => show ((Tq q).mul Ss).mul Mx.one = _; rw [lpM, Mx.mul_one, Mx.one_mul]
  | cons p l ih => rw [List.cons_append, lpM, ih, lpM]; simp only [Mx.mul_assoc]
def Ws (s : Int) : Mx := ⟨s, 0, 0, s⟩
end M

set_option Elab.async false
set_option linter.all false
set_option maxRecDepth 100000
set_option maxHeartbeats 4000000
namespace M
open PySem PySem.Spec PyProof.Rows L2
/-! ### the word of a matrix -/
structure Wd4 where
  l : List Int
  m : Mx
def Wd4.step (s : Wd4) : Wd4 := ⟨s.l ++ [s.m.a.fdiv s.m.c], ⟨s.m.c, s.m.d, s.m.a.fdiv s.m.c * s.m.c - s.m.a, s.m.a.fdiv s.m.c * s.m.d - s.m.b⟩⟩
def Wd4.go (s : Wd4) : Bool := !decide (s.m.c = 0)
structure WOk (x : Mx) (s : Wd4) : Prop where
  iv : (lpM s.l).mul s.m = x
  det : s.m.det = 1
  a : s.m.a.natAbs ≤ 300
  b : s.m.b.natAbs ≤ 300
  c : s.m.c.natAbs ≤ 300
  d : s.m.d.natAbs ≤ 300
  len : s.l.length + s.m.c.natAbs ≤ 33
theorem fdiv_abs (a c : Int) (hc : c ≠ 0) : (a.fdiv c * c - a).natAbs < c.natAbs ∧ (a.fdiv c).natAbs ≤ a.natAbs := by
  have e := Int.mul_fdiv_add_fmod a c
  have e2 : a.fdiv c * c - a = -(a.fmod c) := by rw [Int.mul_comm]; omega
  have q : (a.fdiv c).natAbs ≤ a.natAbs := by
    rcases Int.lt_or_gt_of_ne hc with h | h
    · rw [← Int.neg_fdiv_neg, Int.fdiv_eq_ediv_of_nonneg _ (by omega)]
      have := Int.natAbs_ediv_le_natAbs (-a) (-c)
      omega
    · rw [Int.fdiv_eq_ediv_of_nonneg _ (by omega)]
      exact Int.natAbs_ediv_le_natAbs a c
  refine ⟨?_, q⟩
  rw [e2]
  rcases Int.lt_or_gt_of_ne hc with h | h
  · have h1 := Int.fmod_nonneg_of_pos (-a) (show 0 < -c by omega)
    have h2 := Int.fmod_lt_of_pos (-a) (show 0 < -c by omega)
    rw [Int.neg_fmod_neg] at h1 h2
    omega
  · have h1 := Int.fmod_nonneg_of_pos a h
    have h2 := Int.fmod_lt_of_pos a h
    omega
theorem WOk.step {x : Mx} {s : Wd4} (h : WOk x s) (hc : s.m.c ≠ 0) : WOk x s.step ∧ s.step.m.c.natAbs < s.m.c.natAbs := by
  obtain ⟨iv, det, a, b, c, d, len⟩ := h
  obtain ⟨f1, f2⟩ := fdiv_abs s.m.a s.m.c hc
  have det2 : s.step.m.det = 1 := by
    simp only [Wd4.step, Mx.det] at det ⊢
    grind
  refine ⟨⟨?_, det2, c, d, ?_, ?_, ?_⟩, f1⟩
  · rw [← iv]
    show (lpM (s.l ++ [_])).mul s.step.m = _
    rw [lpM_snoc, Mx.mul_assoc]
    congr 1
    ext <;> simp only [Mx.mul, Tq, Ss, Wd4.step] <;> grind
  · exact Nat.le_trans (Nat.le_of_lt f1) c
  · show (s.m.a.fdiv s.m.c * s.m.d - s.m.b).natAbs ≤ 300
    have hd := det2
    simp only [Wd4.step, Mx.det] at hd
    generalize s.m.a.fdiv s.m.c * s.m.d - s.m.b = d2 at hd ⊢
    generalize s.m.a.fdiv s.m.c * s.m.c - s.m.a = c2 at hd f1
    have e : s.m.c * d2 = 1 + s.m.d * c2 := by omega
    have e2 : s.m.c.natAbs * d2.natAbs ≤ 1 + s.m.d.natAbs * c2.natAbs := by
      rw [← Int.natAbs_mul, e, ← Int.natAbs_mul]
      exact Int.natAbs_add_le 1 _
    have e3 : s.m.d.natAbs * c2.natAbs ≤ 300 * (s.m.c.natAbs - 1) := Nat.mul_le_mul d (by omega)
    rcases Nat.lt_or_ge 300 d2.natAbs with z | z
    · have := Nat.mul_le_mul_left s.m.c.natAbs (show 301 ≤ d2.natAbs from z)
      omega
    · exact z
  · show (s.l ++ [_]).length + _ ≤ 33
    rw [List.length_append, List.length_singleton]
    have : s.step.m.c.natAbs < s.m.c.natAbs := f1
    omega
def wl (n : Nat) (x : Mx) : Wd4 := loop Wd4.go Wd4.step n ⟨[], x⟩
theorem WOk.start {x : Mx} (h : Good4 x) : WOk x ⟨[], x⟩ := by
  obtain ⟨h0, ⟨ha, hb, hc, hd⟩, h5⟩ := h
  have e : ∀ {y : Int}, Szc y 8 → y.natAbs ≤ 300 := fun h => by have := h.h; omega
  exact ⟨Mx.one_mul x, h0, e ha, e hb, e hc, e hd, by simp; exact h5⟩
theorem sz300 {y : Int} (h : y.natAbs ≤ 300) : Szc y 9 := ⟨by omega⟩
noncomputable abbrev wwB : Ev → MM Fl := sSeq (sAsg (eBin vFdiv (eVar 2) (eVar 4)) (gN 6))
 (sSeq (sApp 1 (eVar 6))
 (sAsg (eTup (aCons (eVar 4) (aCons (eVar 5) (aCons (eBin vSub (eBin vMul (eVar 6) (eVar 4)) (eVar 2)) (aCons (eBin vSub (eBin vMul (eVar 6) (eVar 5)) (eVar 3)) aNil))))) (gT (gsCons (gN 2) (gsCons (gN 3) (gsCons (gN 4) (gsCons (gN 5) gsNil)))))))
def Wd4.emb (x : D) (s : Wd4 × Option D) : Ev := [some x, some (.list (s.1.l.map .int)), some (.int s.1.m.a), some (.int s.1.m.b), some (.int s.1.m.c), some (.int s.1.m.d), s.2]
theorem ww_body {x : D} {y : Mx} {s : Wd4} {o : Option D} (h : WOk y s) (hc : s.m.c ≠ 0) : wwB (Wd4.emb x (s, o)) [] = .ok (.next (Wd4.emb x (s.step, some (.int (s.m.a.fdiv s.m.c))))) [] := by
  obtain ⟨iv, det, a, b, c, d, len⟩ := h
  obtain ⟨f1, f2⟩ := fdiv_abs s.m.a s.m.c hc
  haveI := sz300 c
  haveI := sz300 d
  haveI : Szc (s.m.a.fdiv s.m.c) 9 := sz300 (by omega)
  have ap : sApp 1 (eVar 6) [some x, some (.list (s.l.map .int)), some (.int s.m.a), some (.int s.m.b), some (.int s.m.c), some (.int s.m.d), some (.int (s.m.a.fdiv s.m.c))] [] = .ok (.next [some x, some (.list ((s.l ++ [s.m.a.fdiv s.m.c]).map .int)), some (.int s.m.a), some (.int s.m.b), some (.int s.m.c), some (.int s.m.d), some (.int (s.m.a.fdiv s.m.c))]) [] := by
    rw [sApp_ap _ _ _ _ (s.l.map .int) rfl]
    have : s.l.length < sizeLine := by simp only [sizeLine]; omega
    simp [this]
  unfold wwB
  simp only [Wd4.emb]
  simp [vFdiv_int (divOk_sm hc (Sm.of (a := s.m.c) (by omega) (by omega))), ap]
  simp [Wd4.step]
theorem word_frame {x : Mx} {s : Wd4} {o : Option D} (hw : sWhile (bBin vNe (eVar 4) (eC (.int 0))) wwB (Wd4.emb x.enc (⟨[], x⟩, none)) [] = .ok (.next (Wd4.emb x.enc (s, o))) []) (h : WOk x s) : d_word_of_twist [x.enc] = .ok (.tuple [.int s.m.a, .tuple ((s.l ++ [s.m.a * s.m.b]).map .int)]) [] := by
  obtain ⟨iv, det, a, b, c, d, len⟩ := h
  haveI := sz300 a
  haveI := sz300 b
  have ap : sApp 1 (eBin vMul (eVar 2) (eVar 3)) (Wd4.emb x.enc (s, o)) [] = .ok (.next [some x.enc, some (.list ((s.l ++ [s.m.a * s.m.b]).map .int)), some (.int s.m.a), some (.int s.m.b), some (.int s.m.c), some (.int s.m.d), o]) [] := by
    rw [sApp_ap _ _ _ _ (s.l.map .int) rfl]
    have : s.l.length < sizeLine := by simp only [sizeLine]; omega
    simp [Wd4.emb, this]
  unfold d_word_of_twist
  simp only [Wd4.emb, Mx.enc, List.map_nil] at hw
  simp [Mx.enc, hw]
  simp only [Wd4.emb, Mx.enc] at ap
  rw [ap]
  simp
theorem word_run {x : Mx} (hx : Good4 x) : ∃ o, sWhile (bBin vNe (eVar 4) (eC (.int 0))) wwB (Wd4.emb x.enc (⟨[], x⟩, none)) [] = .ok (.next (Wd4.emb x.enc (wl 200 x, o))) [] ∧ WOk x (wl 200 x) ∧ (wl 200 x).m.c = 0 := by
  obtain ⟨⟨⟨s, o⟩, n⟩, ⟨p1, p2, p3⟩, pc, pw⟩ := while_by (w := []) (t := bBin vNe (eVar 4) (eC (.int 0))) (db := wwB) (α := (Wd4 × Option D) × Nat) (fun s => Wd4.emb x.enc s.1) (fun s => WOk x s.1.1 ∧ s.1.1.m.c.natAbs ≤ s.2 ∧ loop Wd4.go Wd4.step s.2 s.1.1 = wl 200 x) (fun s => s.1.1.go) (fun s => ((s.1.1.step, some (.int (s.1.1.m.a.fdiv s.1.1.m.c))), s.2 - 1)) (fun s => s.1.1.m.c.natAbs)
    (fun s _ => by simp [Wd4.emb, Wd4.go])
    (fun s p c => by
      obtain ⟨⟨s, o⟩, n⟩ := s
      obtain ⟨p1, p2, p3⟩ := p
      simp only at p1 p2 p3 c ⊢
      have hc : s.m.c ≠ 0 := by simpa [Wd4.go] using c
      obtain ⟨q1, q2⟩ := p1.step hc
      refine ⟨ww_body p1 hc, ⟨q1, by omega, ?_⟩, q2⟩
      rw [← p3]
      have e : n = (n - 1) + 1 := by omega
      conv => rhs; rw [e, loop_succ, c]
      rfl)
    ((⟨[], x⟩, none), 200) ⟨WOk.start hx, by have := hx.c; simp only; omega, rfl⟩
  have e : s = wl 200 x := by
    rw [← p3]
    simp only at pc ⊢
    cases n with
    | zero => rfl
    | succ n => rw [loop_succ, pc]; rfl
  simp only at p1 pw pc
  subst e
  exact ⟨o, pw, p1, by simpa [Wd4.go] using pc⟩
theorem word_ok {x : Mx} (hx : Good4 x) : d_word_of_twist [x.enc] = .ok (.tuple [.int (wl 200 x).m.a, .tuple (((wl 200 x).l ++ [(wl 200 x).m.a * (wl 200 x).m.b]).map .int)]) [] := by
  obtain ⟨o, h1, h2, h3⟩ := word_run hx
  exact word_frame h1 h2
/-- the law's own -/
noncomputable abbrev lwB : Ev → MM Fl := sSeq (sIf (bBin vEq (eVar 3) (eC (.int 0))) sBrk sNext)
 (sSeq (sAsg (eBin vFdiv (eVar 1) (eVar 3)) (gN 7))
 (sSeq (sApp 5 (eVar 7))
 (sAsg (eTup (aCons (eVar 3) (aCons (eVar 4) (aCons (eBin vSub (eBin vMul (eVar 7) (eVar 3)) (eVar 1)) (aCons (eBin vSub (eBin vMul (eVar 7) (eVar 4)) (eVar 2)) aNil))))) (gT (gsCons (gN 1) (gsCons (gN 2) (gsCons (gN 3) (gsCons (gN 4) gsNil))))))))
def Wd4.embL (x : D) (s : Wd4) (o6 o7 : Option D) : Ev := [some x, some (.int s.m.a), some (.int s.m.b), some (.int s.m.c), some (.int s.m.d), some (.list (s.l.map .int)), o6, o7]
theorem lw_body {x : D} {y : Mx} {s : Wd4} {o6 o7 : Option D} (h : WOk y s) (hc : s.m.c ≠ 0) : lwB (Wd4.embL x s o6 o7) [] = .ok (.next (Wd4.embL x s.step o6 (some (.int (s.m.a.fdiv s.m.c))))) [] := by
  obtain ⟨iv, det, a, b, c, d, len⟩ := h
  obtain ⟨f1, f2⟩ := fdiv_abs s.m.a s.m.c hc
  haveI := sz300 c
  haveI := sz300 d
  haveI : Szc (s.m.a.fdiv s.m.c) 9 := sz300 (by omega)
  have ap : sApp 5 (eVar 7) [some x, some (.int s.m.a), some (.int s.m.b), some (.int s.m.c), some (.int s.m.d), some (.list (s.l.map .int)), o6, some (.int (s.m.a.fdiv s.m.c))] [] = .ok (.next [some x, some (.int s.m.a), some (.int s.m.b), some (.int s.m.c), some (.int s.m.d), some (.list ((s.l ++ [s.m.a.fdiv s.m.c]).map .int)), o6, some (.int (s.m.a.fdiv s.m.c))]) [] := by
    rw [sApp_ap _ _ _ _ (s.l.map .int) rfl]
    have : s.l.length < sizeLine := by simp only [sizeLine]; omega
    simp [this]
  unfold lwB
  simp only [Wd4.embL]
  simp [hc, vFdiv_int (divOk_sm hc (Sm.of (a := s.m.c) (by omega) (by omega))), ap]
  simp [Wd4.step]
theorem lw_run {x : D} {y : Mx} : ∀ (n : Nat) (lo : Int) (s : Wd4) (o6 o7 : Option D), WOk y s → s.m.c.natAbs ≤ n → ∃ q6 q7, sFor.go (gN 6) lwB (rangeL lo 1 n) (Wd4.embL x s o6 o7) [] = .ok (.next (Wd4.embL x (loop Wd4.go Wd4.step n s) q6 q7)) [] := by
  intro n
  induction n with
  | zero => intro lo s o6 o7 _ _; exact ⟨o6, o7, rfl⟩
  | succ n ih =>
    intro lo s o6 o7 h hn
    rw [rangeL, go_cons, gN_ap, ofO_some, kForG_ok, loop_succ]
    rw [show put (Wd4.embL x s o6 o7) 6 (.int lo) = Wd4.embL x s (some (.int lo)) o7 from rfl]
    by_cases hc : s.m.c = 0
    · refine ⟨some (.int lo), o7, ?_⟩
      have : s.go = false := by simp [Wd4.go, hc]
      rw [this]
      have b : lwB (Wd4.embL x s (some (.int lo)) o7) [] = .ok (.brk (Wd4.embL x s (some (.int lo)) o7)) [] := by
        unfold lwB
        simp [Wd4.embL, hc]
      rw [b]; rfl
    · obtain ⟨q1, q2⟩ := h.step hc
      obtain ⟨q6, q7, ih⟩ := ih (lo + 1) s.step (some (.int lo)) (some (.int (s.m.a.fdiv s.m.c))) q1 (by omega)
      refine ⟨q6, q7, ?_⟩
      have : s.go = true := by simp [Wd4.go, hc]
      rw [this, lw_body h hc, kForB_next, ih]
      rfl
theorem L_word_ok {x : Mx} (hx : Good4 x) : d_L_word [x.enc] = .ok (.tuple [.int (wl 200 x).m.a, .tuple (((wl 200 x).l ++ [(wl 200 x).m.a * (wl 200 x).m.b]).map .int)]) [] := by
  obtain ⟨_, _, h, _⟩ := word_run hx
  obtain ⟨q6, q7, r⟩ := lw_run (x := x.enc) 200 0 ⟨[], x⟩ none none (WOk.start hx) (by have := hx.c; simp only; omega)
  rw [show loop Wd4.go Wd4.step 200 ⟨[], x⟩ = wl 200 x from rfl] at r
  generalize wl 200 x = s at *
  obtain ⟨iv, det, a, b, c, d, len⟩ := h
  haveI := sz300 a
  haveI := sz300 b
  have ad : vAdd (.list (s.l.map .int)) (.list [.int (s.m.a * s.m.b)]) = some (.list ((s.l ++ [s.m.a * s.m.b]).map .int)) := by
    have : s.l.length + 1 ≤ sizeLine := by simp only [sizeLine]; omega
    show (if _ then _ else _) = _
    rw [if_pos (by simpa using this)]
    simp
  unfold d_L_word
  simp only [Wd4.embL, Mx.enc, List.map_nil] at r
  simp [Mx.enc, range1 (j := 200) (by omega), r, ad]
end M

set_option Elab.async false
set_option linter.all false
set_option maxRecDepth 100000
set_option maxHeartbeats 4000000
namespace M
open PySem PySem.Spec PyProof.Rows L2
theorem word_back {x : Mx} (hx : Good4 x) : ofW (Ws (wl 200 x).m.a) ((wl 200 x).l ++ [(wl 200 x).m.a * (wl 200 x).m.b]) = x := by
  obtain ⟨_, _, h, hc⟩ := word_run hx
  generalize wl 200 x = s at *
  rw [ofW_snoc]
  have hd := h.det
  have e : s.m.a * s.m.d = 1 := by unfold Mx.det at hd; rw [hc] at hd; omega
  have a1 : s.m.a = 1 ∧ s.m.d = 1 ∨ s.m.a = -1 ∧ s.m.d = -1 := by
    have e2 : s.m.a.natAbs * s.m.d.natAbs = 1 := by rw [← Int.natAbs_mul, e]; rfl
    have e3 := Nat.dvd_one.1 ⟨_, e2.symm⟩
    have e4 : s.m.a = 1 ∨ s.m.a = -1 := by omega
    rcases e4 with h | h <;> rw [h] at e <;> omega
  rw [← h.iv]
  have key : ∀ y : Mx, ((Ws s.m.a).mul y).mul (Tq (s.m.a * s.m.b)) = y.mul s.m := by
    intro y
    have ea : s.m.a * s.m.a = 1 := by rcases a1 with ⟨h1, h2⟩ | ⟨h1, h2⟩ <;> rw [h1] <;> rfl
    have da : s.m.d = s.m.a := by rcases a1 with ⟨h1, h2⟩ | ⟨h1, h2⟩ <;> rw [h1, h2]
    ext <;> simp only [Mx.mul, Ws, Tq, hc, da] <;> grind
  exact key _
/-! ### matrices of words -/
theorem shift_ok (q : Int) : d_shift [.int q] = .ok (Tq q).enc [] := by
  unfold d_shift
  simp [Mx.enc, Tq]
theorem Bd.ss : Bd 1 Ss := ⟨⟨by decide⟩, ⟨by decide⟩, ⟨by decide⟩, ⟨by decide⟩⟩
theorem s19 : Szc 1 9 := ⟨by decide⟩
theorem s09 : Szc 0 9 := ⟨by decide⟩
theorem Bd.tq {q : Int} (h : Szc q 9) : Bd 9 (Tq q) := ⟨s19, h, s09, s19⟩
noncomputable abbrev twB : Ev → MM Fl := sSeq (sIf (bBin cGt (eVar 3) (eC (.int 0))) (sAsg (eCall d_after_twist (aCons (eVar 2) (aCons (eC (.tuple (List.map .int [0, -1, 1, 0]))) aNil))) (gN 2)) sNext)
 (sAsg (eCall d_after_twist (aCons (eVar 2) (aCons (eCall d_shift (aCons (eVar 4) aNil)) aNil))) (gN 2))
theorem ss_enc : (PyData.tuple (List.map PyData.int [0, -1, 1, 0])) = Ss.enc := rfl
theorem tw_body {S C x : D} {K q : Int} {y r : D} (h : (0 < K ∧ d_after_twist [x, Ss.enc] = .ok y [] ∧ d_after_twist [y, (Tq q).enc] = .ok r []) ∨ (¬ 0 < K ∧ d_after_twist [x, (Tq q).enc] = .ok r [])) :
    twB [some S, some C, some x, some (.int K), some (.int q)] [] = .ok (.next [some S, some C, some r, some (.int K), some (.int q)]) [] := by
  unfold twB
  rw [ss_enc]
  rcases h with ⟨h1, h2, h3⟩ | ⟨h1, h3⟩
  · simp [h1, h2, h3, shift_ok]
  · simp [h1, h3, shift_ok]
theorem tw_rest {S C : D} : ∀ (qs : List Int) (k n : Nat) (x : Mx) (o3 o4 : Option D), 0 < k → Bd n x → n + 12 * qs.length < 100000 → (∀ q ∈ qs, Szc q 9) →
    ∃ p3 p4, sFor.go (gT (gsCons (gN 3) (gsCons (gN 4) gsNil))) twB (enumL k (qs.map .int)) [some S, some C, some x.enc, o3, o4] [] = .ok (.next [some S, some C, some (ofR x qs).enc, p3, p4]) [] := by
  intro qs
  induction qs with
  | nil => intro k n x o3 o4 _ _ _ _; exact ⟨o3, o4, rfl⟩
  | cons q qs ih =>
    intro k n x o3 o4 hk hx hn hq
    simp only [List.length_cons] at hn
    have h1 := hx.mul Bd.ss
    have h2 := h1.mul (Bd.tq (hq q (by simp)))
    obtain ⟨p3, p4, ih⟩ := ih (k + 1) _ _ (some (.int (k : Int))) (some (.int q)) (by omega) h2 (by omega) (fun z hz => hq z (by simp [hz]))
    refine ⟨p3, p4, ?_⟩
    rw [List.map_cons, enumL, go_cons, gT_ap, gsCons_ap, gN_ap, kGs_some, gsCons_ap, gN_ap, kGs_some, gsNil_ap, ofO_some, kForG_ok]
    rw [show put (put [some S, some C, some x.enc, o3, o4] 3 (.int (k : Int))) 4 (.int q) = [some S, some C, some x.enc, some (.int (k : Int)), some (.int q)] from rfl]
    rw [tw_body (.inl ⟨by omega, after_ok hx Bd.ss (by omega), after_ok h1 (Bd.tq (hq q (by simp))) (by omega)⟩), kForB_next]
    exact ih
theorem tow_frame {S : Int} {C : List D} {r : D} {p3 p4 : Option D} (h : sFor.go (gT (gsCons (gN 3) (gsCons (gN 4) gsNil))) twB (enumL 0 C) [some (.int S), some (.tuple C), some (Ws S).enc, none, none] [] = .ok (.next [some (.int S), some (.tuple C), some r, p3, p4]) []) : d_twist_of_word [.int S, .tuple C] = .ok r [] := by
  unfold d_twist_of_word
  simp only [twB, Ws, Mx.enc, List.map_cons, List.map_nil] at h
  simp [h]
theorem twist_of_word_ok {s : Int} (hs : Szc s 9) (l : List Int) (hl : l.length < 1000) (hq : ∀ q ∈ l, Szc q 9) : d_twist_of_word [.int s, .tuple (l.map .int)] = .ok (ofW (Ws s) l).enc [] := by
  cases l with
  | nil => exact tow_frame rfl
  | cons q qs =>
    simp only [List.length_cons] at hl
    have b0 : Bd 9 (Ws s) := ⟨hs, s09, s09, hs⟩
    have h1 := b0.mul (Bd.tq (hq q (by simp)))
    obtain ⟨p3, p4, r⟩ := tw_rest (S := .int s) (C := .tuple ((q :: qs).map .int)) qs 1 _ _ (some (.int ((0 : Nat) : Int))) (some (.int q)) (by omega) h1 (by omega) (fun z hz => hq z (by simp [hz]))
    refine tow_frame (p3 := p3) (p4 := p4) ?_
    rw [List.map_cons, enumL, go_cons, gT_ap, gsCons_ap, gN_ap, kGs_some, gsCons_ap, gN_ap, kGs_some, gsNil_ap, ofO_some, kForG_ok]
    rw [show put (put [some (.int s), some (PyData.tuple (PyData.int q :: qs.map .int)), some (Ws s).enc, none, none] 3 (.int ((0 : Nat) : Int))) 4 (.int q) = [some (.int s), some (PyData.tuple (PyData.int q :: qs.map .int)), some (Ws s).enc, some (.int ((0 : Nat) : Int)), some (.int q)] from rfl]
    rw [tw_body (y := .none) (.inr ⟨by decide, after_ok b0 (Bd.tq (hq q (by simp))) (by omega)⟩), kForB_next]
    exact r
noncomputable abbrev lofB : Ev → MM Fl := sSeq (sIf (bBin cGt (eVar 3) (eC (.int 0))) (sAsg (eCall d_L_product (aCons (eVar 2) (aCons (eTup (aCons (eC (.int 0)) (aCons (eUn vNeg (eC (.int 1))) (aCons (eC (.int 1)) (aCons (eC (.int 0)) aNil))))) aNil))) (gN 2)) sNext)
 (sAsg (eCall d_L_product (aCons (eVar 2) (aCons (eTup (aCons (eC (.int 1)) (aCons (eBin vIx (eVar 1) (eVar 3)) (aCons (eC (.int 0)) (aCons (eC (.int 1)) aNil))))) aNil))) (gN 2))
theorem lof_body {S C x : D} {K q : Int} {y r : D} (hi : vIx C (.int K) = some (.int q)) (h : (0 < K ∧ d_L_product [x, Ss.enc] = .ok y [] ∧ d_L_product [y, (Tq q).enc] = .ok r []) ∨ (¬ 0 < K ∧ d_L_product [x, (Tq q).enc] = .ok r [])) :
    lofB [some S, some C, some x, some (.int K)] [] = .ok (.next [some S, some C, some r, some (.int K)]) [] := by
  unfold lofB
  simp only [Ss, Tq, Mx.enc] at h
  rcases h with ⟨h1, h2, h3⟩ | ⟨h1, h3⟩
  · simp [h1, h2, h3, hi]
  · simp [h1, h3, hi]
theorem lof_rest {S : D} {L : List Int} : ∀ (qs : List Int) (k n : Nat) (x : Mx) (o3 : Option D), 0 < k → L.drop k = qs → Bd n x → n + 12 * qs.length < 100000 → (∀ q ∈ qs, Szc q 9) →
    ∃ p3, sFor.go (gN 3) lofB (rangeL k 1 qs.length) [some S, some (.tuple (L.map .int)), some x.enc, o3] [] = .ok (.next [some S, some (.tuple (L.map .int)), some (ofR x qs).enc, p3]) [] := by
  intro qs
  induction qs with
  | nil => intro k n x o3 _ _ _ _ _; exact ⟨o3, rfl⟩
  | cons q qs ih =>
    intro k n x o3 hk hL hx hn hq
    simp only [List.length_cons] at hn
    have h1 := hx.mul Bd.ss
    have h2 := h1.mul (Bd.tq (hq q (by simp)))
    have hLk : L[k]? = some q := by
      have : (L.drop k)[0]? = some q := by rw [hL]; rfl
      simpa using this
    have hL2 : L.drop (k + 1) = qs := by rw [← List.drop_drop, hL]; rfl
    obtain ⟨p3, ih⟩ := ih (k + 1) _ _ (some (.int (k : Int))) (by omega) hL2 h2 (by omega) (fun z hz => hq z (by simp [hz]))
    refine ⟨p3, ?_⟩
    have hi : vIx (.tuple (L.map .int)) (.int (k : Int)) = some (.int q) := vIx_tuple (by simp [hLk])
    rw [List.length_cons, rangeL, go_cons, gN_ap, ofO_some, kForG_ok]
    rw [show put [some S, some (PyData.tuple (L.map .int)), some x.enc, o3] 3 (.int (k : Int)) = [some S, some (PyData.tuple (L.map .int)), some x.enc, some (.int (k : Int))] from rfl]
    rw [lof_body hi (.inl ⟨by omega, product_ok hx Bd.ss (by omega), product_ok h1 (Bd.tq (hq q (by simp))) (by omega)⟩), kForB_next]
    exact ih
theorem lof_frame {S : Int} {C xs : List D} {r : D} {p3 : Option D} (hr : iRange [.int (C.length : Int)] = some xs) (h : sFor.go (gN 3) lofB xs [some (.int S), some (.tuple C), some (Ws S).enc, none] [] = .ok (.next [some (.int S), some (.tuple C), some r, p3]) []) : d_L_of_word [.int S, .tuple C] = .ok r [] := by
  unfold d_L_of_word
  simp only [Ws, Mx.enc] at h
  simp [hr, h]
theorem L_of_word_ok {s : Int} (hs : Szc s 9) (l : List Int) (hl : l.length < 1000) (hq : ∀ q ∈ l, Szc q 9) : d_L_of_word [.int s, .tuple (l.map .int)] = .ok (ofW (Ws s) l).enc [] := by
  have hr : iRange [.int ((l.map PyData.int).length : Int)] = some (rangeL 0 1 l.length) := by rw [List.length_map]; exact range1N (by omega)
  cases l with
  | nil => exact lof_frame hr rfl
  | cons q qs =>
    simp only [List.length_cons] at hl
    have b0 : Bd 9 (Ws s) := ⟨hs, s09, s09, hs⟩
    have h1 := b0.mul (Bd.tq (hq q (by simp)))
    obtain ⟨p3, r⟩ := lof_rest (S := .int s) (L := q :: qs) qs 1 _ _ (some (.int 0)) (by omega) rfl h1 (by omega) (fun z hz => hq z (by simp [hz]))
    refine lof_frame (p3 := p3) hr ?_
    rw [List.length_cons, rangeL, go_cons, gN_ap, ofO_some, kForG_ok]
    rw [show put [some (PyData.int s), some (PyData.tuple ((q :: qs).map .int)), some (Ws s).enc, none] 3 (.int 0) = [some (PyData.int s), some (PyData.tuple ((q :: qs).map .int)), some (Ws s).enc, some (.int 0)] from rfl]
    rw [lof_body (y := .none) (show vIx (.tuple ((q :: qs).map .int)) (.int 0) = some (.int q) from vIx_tuple (j := 0) rfl) (.inr ⟨by decide, product_ok b0 (Bd.tq (hq q (by simp))) (by omega)⟩), kForB_next]
    exact r
/-! ### periods -/
def perF (x : Mx) : Nat → Int → Mx → Option Int
  | 0, _, _ => none
  | n + 1, k, p => if p = Mx.one then some k else perF x n (k + 1) (p.mul x)
noncomputable abbrev peB : Ev → MM Fl := sSeq (sIf (bBin vEq (eVar 1) (eC (.tuple (List.map .int [1, 0, 0, 1])))) (sRet (eVar 2)) sNext)
 (sAsg (eCall d_after_twist (aCons (eVar 1) (aCons (eVar 0) aNil))) (gN 1))
theorem one_enc : (PyData.tuple (List.map PyData.int [1, 0, 0, 1])) = Mx.one.enc := rfl
theorem per_run {x : Mx} (hx : Bd 8 x) : ∀ (n m : Nat) (k : Int) (p : Mx) (o : Option D), Bd m p → m + 9 * n < 100000 →
    (∀ j, perF x n k p = some j → sFor.go (gN 2) peB (rangeL k 1 n) [some x.enc, some p.enc, o] [] = .ok (.ret (.int j)) []) ∧
    (perF x n k p = none → ∃ p1 o2, sFor.go (gN 2) peB (rangeL k 1 n) [some x.enc, some p.enc, o] [] = .ok (.next [some x.enc, p1, o2]) []) := by
  intro n
  induction n with
  | zero => intro m k p o _ _; exact ⟨fun j h => (nomatch h), fun _ => ⟨_, _, rfl⟩⟩
  | succ n ih =>
    intro m k p o hp hm
    have st : sFor.go (gN 2) peB (rangeL k 1 (n + 1)) [some x.enc, some p.enc, o] [] = kForB (gN 2) peB (rangeL (k + 1) 1 n) (peB [some x.enc, some p.enc, some (.int k)] []) := by
      rw [rangeL, go_cons, gN_ap, ofO_some, kForG_ok]; rfl
    rw [st]
    by_cases e : p = Mx.one
    · have b : peB [some x.enc, some p.enc, some (.int k)] [] = .ok (.ret (.int k)) [] := by
        unfold peB
        rw [one_enc]
        simp [vEq_mx, e]
      rw [b, kForB_ret, perF, if_pos e]
      exact ⟨fun j h => by cases h; rfl, fun h => nomatch h⟩
    · have b : peB [some x.enc, some p.enc, some (.int k)] [] = .ok (.next [some x.enc, some (p.mul x).enc, some (.int k)]) [] := by
        have a := after_ok hp hx (by omega)
        unfold peB
        rw [one_enc]
        simp [vEq_mx, e, a]
      rw [b, kForB_next, perF, if_neg e]
      exact ih _ (k + 1) (p.mul x) (some (.int k)) (hp.mul hx) (by omega)
def optD : Option Int → D
  | none => .none
  | some j => .int j
theorem period_ok {x : Mx} (hx : Bd 8 x) : d_period_of_twist [x.enc] = .ok (optD (perF x 6 1 x)) [] := by
  obtain ⟨h1, h2⟩ := per_run hx 6 8 1 x none hx (by omega)
  have hr : iRange [.int 1, .int 7] = some (rangeL 1 1 6) := rfl
  unfold d_period_of_twist
  cases e : perF x 6 1 x with
  | none =>
    obtain ⟨p1, o2, h⟩ := h2 e
    simp only [peB, List.map_cons, List.map_nil] at h
    simp [hr, h, optD]
  | some j =>
    have h := h1 j e
    simp only [peB, List.map_cons, List.map_nil] at h
    simp [hr, h, optD]
end M

set_option Elab.async false
set_option linter.all false
set_option maxRecDepth 100000
set_option maxHeartbeats 4000000
namespace M
open PySem PySem.Spec PyProof.Rows L2
noncomputable def lw1 : Ev → MM Fl := (sAsg (eCallS d_L_twist aNil) (gN 2))
noncomputable def lw2 : Ev → MM Fl := (sAsg (eCallS d_L_twist aNil) (gN 3))
noncomputable def lw3 : Ev → MM Fl := (sAsg (eTup (aCons (eC (.int 1)) (aCons (eC (.int 0)) (aCons (eC (.int 0)) (aCons (eC (.int 1)) aNil))))) (gN 4))
noncomputable def lw4 : Ev → MM Fl := (sIf (bOr (bBin vNe (eCall d_after_twist (aCons (eVar 2) (aCons (eVar 3) aNil))) (eCall d_L_product (aCons (eVar 2) (aCons (eVar 3) aNil)))) (bBin vNe (eCall d_after_twist (aCons (eVar 2) (aCons (eCall d_undone_twist (aCons (eVar 2) aNil)) aNil))) (eVar 4))) (sRet (eC (.bool false))) sNext)
noncomputable def lw5 : Ev → MM Fl := (sAsg (eBin vSub (eCallS d_L_draw (aCons (eC (.int 9)) aNil)) (eC (.int 4))) (gN 5))
noncomputable def lw6 : Ev → MM Fl := (sAsg (eVar 4) (gN 6))
noncomputable def lw7 : Ev → MM Fl := (sFor (iArgs iRange (aCons (eArgs fAbs (aCons (eVar 5) aNil)) aNil)) (gN 7) (sAsg (eCall d_L_product (aCons (eVar 6) (aCons (eBin vIx (eLst (aCons (eVar 2) (aCons (eCall d_undone_twist (aCons (eVar 2) aNil)) aNil))) (eArgs fInt (aCons (eOfB (bBin cLt (eVar 5) (eC (.int 0)))) aNil))) aNil))) (gN 6)))
noncomputable def lw8 : Ev → MM Fl := (sIf (bOr (bBin vNe (eCall d_twist_power (aCons (eVar 2) (aCons (eVar 5) aNil))) (eVar 6)) (bOr (bBin vNe (eCall d_trace_of_twist (aCons (eVar 2) aNil)) (eBin vAdd (eBin vIx (eVar 2) (eC (.int 0))) (eBin vIx (eVar 2) (eC (.int 3))))) (bBin vNe (eCall d_shift (aCons (eVar 5) aNil)) (eTup (aCons (eC (.int 1)) (aCons (eVar 5) (aCons (eC (.int 0)) (aCons (eC (.int 1)) aNil)))))))) (sRet (eC (.bool false))) sNext)
noncomputable def lw9 : Ev → MM Fl := (sAsg (eBin vSub (eCallS d_L_draw (aCons (eC (.int 99)) aNil)) (eC (.int 50))) (gN 8))
noncomputable def lw10 : Ev → MM Fl := (sAsg (eBin vSub (eCallS d_L_draw (aCons (eC (.int 99)) aNil)) (eC (.int 50))) (gN 9))
noncomputable def lw11 : Ev → MM Fl := (sIf (bBin vNe (eCall d_moved_point (aCons (eVar 2) (aCons (eTup (aCons (eVar 8) (aCons (eVar 9) aNil))) aNil))) (eTup (aCons (eBin vAdd (eBin vMul (eBin vIx (eVar 2) (eC (.int 0))) (eVar 8)) (eBin vMul (eBin vIx (eVar 2) (eC (.int 1))) (eVar 9))) (aCons (eBin vAdd (eBin vMul (eBin vIx (eVar 2) (eC (.int 2))) (eVar 8)) (eBin vMul (eBin vIx (eVar 2) (eC (.int 3))) (eVar 9))) aNil)))) (sRet (eC (.bool false))) sNext)
noncomputable def lw12 : Ev → MM Fl := (sAsg (eCall d_word_of_twist (aCons (eVar 2) aNil)) (gN 10))
noncomputable def lw13 : Ev → MM Fl := (sIf (bOr (bBin vNe (eVar 10) (eCall d_L_word (aCons (eVar 2) aNil))) (bOr (bBin vNe (eCall d_L_of_word (aCons (eBin vIx (eVar 10) (eC (.int 0))) (aCons (eBin vIx (eVar 10) (eC (.int 1))) aNil))) (eVar 2)) (bBin vNe (eCall d_twist_of_word (aCons (eBin vIx (eVar 10) (eC (.int 0))) (aCons (eBin vIx (eVar 10) (eC (.int 1))) aNil))) (eVar 2)))) (sRet (eC (.bool false))) sNext)
noncomputable def lw14 : Ev → MM Fl := (sAsg (eArgs fTuple (aCons (eOfF (lcD (iArgs iRange (aCons (eBin vAdd (eC (.int 1)) (eCallS d_L_draw (aCons (eC (.int 6)) aNil))) aNil)) (gN 7) bYes (eBin vSub (eCallS d_L_draw (aCons (eC (.int 9)) aNil)) (eC (.int 4))) [7])) aNil)) (gN 11))
noncomputable def lw15 : Ev → MM Fl := (sAsg (eBin vSub (eC (.int 1)) (eBin vMul (eC (.int 2)) (eCallS d_L_draw (aCons (eC (.int 2)) aNil)))) (gN 12))
noncomputable def lw16 : Ev → MM Fl := (sIf (bBin vNe (eCall d_twist_of_word (aCons (eVar 12) (aCons (eVar 11) aNil))) (eCall d_L_of_word (aCons (eVar 12) (aCons (eVar 11) aNil)))) (sRet (eC (.bool false))) sNext)
noncomputable def lw17 : Ev → MM Fl := (sFor (iSeq (eLst (aCons (eVar 2) (aCons (eTup (aCons (eC (.int 0)) (aCons (eUn vNeg (eC (.int 1))) (aCons (eC (.int 1)) (aCons (eC (.int 0)) aNil))))) (aCons (eTup (aCons (eC (.int 1)) (aCons (eC (.int 1)) (aCons (eUn vNeg (eC (.int 1))) (aCons (eC (.int 0)) aNil))))) (aCons (eTup (aCons (eUn vNeg (eC (.int 1))) (aCons (eC (.int 0)) (aCons (eC (.int 0)) (aCons (eUn vNeg (eC (.int 1))) aNil))))) (aCons (eTup (aCons (eC (.int 0)) (aCons (eC (.int 1)) (aCons (eUn vNeg (eC (.int 1))) (aCons (eUn vNeg (eC (.int 1))) aNil))))) (aCons (eVar 4) aNil)))))))) (gN 13) (sSeq (sAsg (eC .none) (gN 14)) (sSeq (sAsg (eVar 13) (gN 6)) (sSeq (sFor (iArgs iRange (aCons (eC (.int 1)) (aCons (eC (.int 7)) aNil))) (gN 7) (sSeq (sIf (bAnd (bBin vEq (eVar 6) (eVar 4)) (bBin vIsN (eVar 14) (eC .none))) (sAsg (eVar 7) (gN 14)) sNext) (sAsg (eCall d_L_product (aCons (eVar 6) (aCons (eVar 13) aNil))) (gN 6)))) (sIf (bBin vNe (eCall d_period_of_twist (aCons (eVar 13) aNil)) (eVar 14)) (sRet (eC (.bool false))) sNext)))))
noncomputable def lw18 : Ev → MM Fl := (sAsg (eVar 2) (gT (gsCons (gN 15) (gsCons (gN 16) (gsCons (gN 17) (gsCons (gN 18) gsNil))))))
noncomputable def lw19 : Ev → MM Fl := (sAsg (eCall d_with_first_column (aCons (eVar 15) (aCons (eVar 17) (aCons (eTup (aCons (eVar 18) (aCons (eBin vSub (eC (.int 0)) (eVar 16)) aNil))) aNil)))) (gN 13))
noncomputable def lw20 : Ev → MM Fl := (sIf (bBin vNe (eVar 13) (eTup (aCons (eVar 15) (aCons (eVar 16) (aCons (eVar 17) (aCons (eVar 18) aNil)))))) (sRet (eC (.bool false))) sNext)
noncomputable def lw21 : Ev → MM Fl := (sAsg (eLst (aCons (eC .none) (aCons (eBin vAdd (eVar 2) (eTup (aCons (eC (.int 0)) aNil))) (aCons (eTup (aCons (eVar 15) (aCons (eVar 16) (aCons (eVar 17) aNil)))) (aCons (eTup (aCons (eVar 15) (aCons (eVar 16) (aCons (eVar 17) (aCons (eBin vAdd (eVar 18) (eC (.int 1))) aNil))))) (aCons (eTup (aCons (eC (.bool true)) (aCons (eC (.int 0)) (aCons (eC (.int 0)) (aCons (eC (.int 1)) aNil))))) (aCons (eArgs fList (aCons (eVar 2) aNil)) (aCons (eTup (aCons (eVar 15) (aCons (eVar 17) (aCons (eVar 16) (aCons (eVar 18) aNil))))) (aCons (eC (.str "1001")) (aCons (eTup (aCons (eC (.int 2)) (aCons (eC (.int 0)) (aCons (eC (.int 0)) (aCons (eC (.int 2)) aNil))))) (aCons (eTup (aCons (eC (.int 0)) (aCons (eC (.int 1)) (aCons (eC (.int 1)) (aCons (eC (.int 0)) aNil))))) aNil))))))))))) (gN 19))
noncomputable def lw22 : Ev → MM Fl := (sAsg (eBin vIx (eVar 19) (eCallS d_L_draw (aCons (eArgs fLen (aCons (eVar 19) aNil)) aNil))) (gN 20))
noncomputable def lw23 : Ev → MM Fl := (sAsg (eAnd (eUn (fIsi "tuple") (eVar 20)) (eOfB (bBin vEq (eArgs fLen (aCons (eVar 20) aNil)) (eC (.int 4))))) (gN 14))
noncomputable def lw24 : Ev → MM Fl := (sIf (bTru (eVar 14)) (sAsg (eOfB (bBin vEq (eArgs fLen (aCons (eOfF (lcD (iSeq (eVar 20)) (gN 21) (bOr (bNot (bTru (eUn (fIsi "int") (eVar 21)))) (bTru (eUn (fIsi "bool") (eVar 21)))) (eVar 21) [21])) aNil)) (eC (.int 0)))) (gN 14)) sNext)
noncomputable def lw25 : Ev → MM Fl := (sIf (bTru (eVar 14)) (sAsg (eOfB (bBin vEq (eBin vSub (eBin vMul (eBin vIx (eVar 20) (eC (.int 0))) (eBin vIx (eVar 20) (eC (.int 3)))) (eBin vMul (eBin vIx (eVar 20) (eC (.int 1))) (eBin vIx (eVar 20) (eC (.int 2))))) (eC (.int 1)))) (gN 14)) sNext)
noncomputable def lw26 : Ev → MM Fl := sRet (eAnd (eCall d_L_truth (aCons (eCall d_is_twist (aCons (eVar 20) aNil)) (aCons (eVar 14) aNil))) (eOfB (bBin vIsB (eCall d_is_twist (aCons (eVar 2) aNil)) (eC (.bool true)))))
theorem lw_eq : db_law = (sSeq lw1 (sSeq lw2 (sSeq lw3 (sSeq lw4 (sSeq lw5 (sSeq lw6 (sSeq lw7 (sSeq lw8 (sSeq lw9 (sSeq lw10 (sSeq lw11 (sSeq lw12 (sSeq lw13 (sSeq lw14 (sSeq lw15 (sSeq lw16 (sSeq lw17 (sSeq lw18 (sSeq lw19 (sSeq lw20 (sSeq lw21 (sSeq lw22 (sSeq lw23 (sSeq lw24 (sSeq lw25 lw26))))))))))))))))))))))))) := rfl

theorem words_aux {x : Mx} : ∀ (n : Nat) (s : Wd4), WOk x s → (∀ q ∈ s.l, Szc q 9) → s.m.c.natAbs ≤ n → (∀ q ∈ (loop Wd4.go Wd4.step n s).l, Szc q 9) := by
  intro n
  induction n with
  | zero => intro s _ h _; exact h
  | succ n ih =>
    intro s h hq hn
    rw [loop_succ]
    by_cases hc : s.m.c = 0
    · have : s.go = false := by simp [Wd4.go, hc]
      rw [this]; exact hq
    · have : s.go = true := by simp [Wd4.go, hc]
      rw [this]
      obtain ⟨q1, q2⟩ := h.step hc
      refine ih s.step q1 ?_ (by omega)
      intro q hm
      rcases List.mem_append.1 (show q ∈ s.l ++ [s.m.a.fdiv s.m.c] from hm) with hm | hm
      · exact hq q hm
      · rw [List.mem_singleton.1 hm]
        have := (fdiv_abs s.m.a s.m.c hc).2
        have := h.a
        exact sz300 (by omega)
theorem words_small {x : Mx} (hx : Good4 x) : ((wl 200 x).l ++ [(wl 200 x).m.a * (wl 200 x).m.b]).length < 1000 ∧ ∀ q ∈ (wl 200 x).l ++ [(wl 200 x).m.a * (wl 200 x).m.b], Szc q 9 := by
  obtain ⟨_, _, h, hc⟩ := word_run hx
  have hq := words_aux 200 ⟨[], x⟩ (WOk.start hx) (fun _ h => nomatch h) (by have := hx.c; simp only; omega)
  rw [show loop Wd4.go Wd4.step 200 ⟨[], x⟩ = wl 200 x from rfl] at hq
  generalize wl 200 x = s at *
  have hd := h.det
  have e : s.m.a * s.m.d = 1 := by unfold Mx.det at hd; rw [hc] at hd; omega
  have e2 : s.m.a.natAbs * s.m.d.natAbs = 1 := by rw [← Int.natAbs_mul, e]; rfl
  have e3 := Nat.dvd_one.1 ⟨_, e2.symm⟩
  refine ⟨by have := h.len; simp; omega, fun q hm => ?_⟩
  rcases List.mem_append.1 hm with hm | hm
  · exact hq q hm
  · rw [List.mem_singleton.1 hm]
    refine sz300 ?_
    rw [Int.natAbs_mul, e3, Nat.one_mul]
    exact h.b
theorem e4_ok {x y : Mx} (hx : Good4 x) (hy : Good4 y) {ω : Wd} : lw4 [none, none, some x.enc, some y.enc, some Mx.one.enc, none, none, none, none, none, none, none, none, none, none, none, none, none, none, none, none, none] ω = .ok (.next [none, none, some x.enc, some y.enc, some Mx.one.enc, none, none, none, none, none, none, none, none, none, none, none, none, none, none, none, none, none]) ω := by
  unfold lw4
  simp [after_ok hx.bd hy.bd (by omega), product_ok hx.bd hy.bd (by omega), vNe_mx, undone_ok, after_ok hx.bd hx.bd.inv (by omega), Mx.mul_inv hx.det]
theorem e7_ok {x y : Mx} {K : Int} (hx : Good4 x) (hK : -4 ≤ K ∧ K ≤ 4) {ω : Wd} : ∃ o7, lw7 [none, none, some x.enc, some y.enc, some Mx.one.enc, some (.int K), some Mx.one.enc, none, none, none, none, none, none, none, none, none, none, none, none, none, none, none] ω = .ok (.next [none, none, some x.enc, some y.enc, some Mx.one.enc, some (.int K), some ((if K < 0 then x.inv else x).pow K.natAbs).enc, o7, none, none, none, none, none, none, none, none, none, none, none, none, none, none]) ω := by
  have hb : Bd 8 (if K < 0 then x.inv else x) := by split; exact hx.bd.inv; exact hx.bd
  have body : ∀ (n : Nat) (o : Option D), n ≤ 8 → (sAsg (eCall d_L_product (aCons (eVar 6) (aCons (eBin vIx (eLst (aCons (eVar 2) (aCons (eCall d_undone_twist (aCons (eVar 2) aNil)) aNil))) (eArgs fInt (aCons (eOfB (bBin cLt (eVar 5) (eC (.int 0)))) aNil))) aNil))) (gN 6)) [none, none, some x.enc, some y.enc, some Mx.one.enc, some (.int K), some ((if K < 0 then x.inv else x).pow n).enc, o, none, none, none, none, none, none, none, none, none, none, none, none, none, none] ω = .ok (.next [none, none, some x.enc, some y.enc, some Mx.one.enc, some (.int K), some ((if K < 0 then x.inv else x).pow (n + 1)).enc, o, none, none, none, none, none, none, none, none, none, none, none, none, none, none]) ω := by
    intro n o hn
    have p := product_ok (hb.pow n) hb (by omega)
    rw [← Mx.pow] at p
    by_cases z : K < 0
    · simp only [if_pos z] at p ⊢
      simp [z, undone_ok, p]
    · simp only [if_neg z] at p ⊢
      simp [z, undone_ok, p]
  obtain ⟨⟨j, o⟩, q1, q2⟩ := for_by (w := ω) (g := gN 7) (db := sAsg (eCall d_L_product (aCons (eVar 6) (aCons (eBin vIx (eLst (aCons (eVar 2) (aCons (eCall d_undone_twist (aCons (eVar 2) aNil)) aNil))) (eArgs fInt (aCons (eOfB (bBin cLt (eVar 5) (eC (.int 0)))) aNil))) aNil))) (gN 6))
    (fun s : Nat × Option D => [none, none, some x.enc, some y.enc, some Mx.one.enc, some (.int K), some ((if K < 0 then x.inv else x).pow s.1).enc, s.2, none, none, none, none, none, none, none, none, none, none, none, none, none, none]) (fun ds s => s.1 + ds.length = K.natAbs)
    (fun d ds s q => by
      obtain ⟨j, o⟩ := s
      simp only [List.length_cons] at q
      exact ⟨(j + 1, some d), _, rfl, .inl (body j (some d) (by omega)), by simp only; omega⟩)
    (rangeL 0 1 K.natAbs) (0, none) (by simp [rangeL_len])
  simp at q1
  have hr : iRange [.int (if K < 0 then -K else K)] = some (rangeL 0 1 K.natAbs) := by rw [abs_if]; exact range1N (by omega)
  refine ⟨o, ?_⟩
  simp only [Mx.pow] at q2
  rw [q1] at q2
  unfold lw7
  simp [hr, q2]
theorem e8_ok {x y : Mx} {K : Int} {o7 : Option D} (hx : Good4 x) (hK : -4 ≤ K ∧ K ≤ 4) {ω : Wd} : lw8 [none, none, some x.enc, some y.enc, some Mx.one.enc, some (.int K), some ((if K < 0 then x.inv else x).pow K.natAbs).enc, o7, none, none, none, none, none, none, none, none, none, none, none, none, none, none] ω = .ok (.next [none, none, some x.enc, some y.enc, some Mx.one.enc, some (.int K), some ((if K < 0 then x.inv else x).pow K.natAbs).enc, o7, none, none, none, none, none, none, none, none, none, none, none, none, none, none]) ω := by
  have p := power_ok4 hx.bd hK
  generalize (if K < 0 then x.inv else x).pow K.natAbs = P at *
  have t : d_trace_of_twist [x.enc] = .ok (.int (x.a + x.d)) [] := by
    unfold d_trace_of_twist
    simp [Mx.enc]
  have sh := shift_ok K
  have i0 : vIx x.enc (.int 0) = some (.int x.a) := vIx_t0 _ _
  have i3 : vIx x.enc (.int 3) = some (.int x.d) := vIx_t3 _ _ _ _ _
  simp only [Tq, Mx.enc] at sh
  unfold lw8
  simp [p, vNe_mx, t, sh, i0, i3]
theorem e11_ok {x y : Mx} {K u v : Int} {o7 : Option D} (hx : Good4 x) (hu : -50 ≤ u ∧ u ≤ 50) (hv : -50 ≤ v ∧ v ≤ 50) {ω : Wd} : lw11 [none, none, some x.enc, some y.enc, some Mx.one.enc, some (.int K), some ((if K < 0 then x.inv else x).pow K.natAbs).enc, o7, some (.int u), some (.int v), none, none, none, none, none, none, none, none, none, none, none, none] ω = .ok (.next [none, none, some x.enc, some y.enc, some Mx.one.enc, some (.int K), some ((if K < 0 then x.inv else x).pow K.natAbs).enc, o7, some (.int u), some (.int v), none, none, none, none, none, none, none, none, none, none, none, none]) ω := by
  generalize (if K < 0 then x.inv else x).pow K.natAbs = P
  obtain ⟨h0, ⟨ha, hb, hc, hd⟩, h5⟩ := hx
  haveI : Szc u 6 := sz_of (by omega) (by omega)
  haveI : Szc v 6 := sz_of (by omega) (by omega)
  have m : d_moved_point [x.enc, .tuple [.int u, .int v]] = .ok (.tuple [.int (x.a * u + x.b * v), .int (x.c * u + x.d * v)]) [] := by
    unfold d_moved_point
    simp [Mx.enc]
  have i0 : vIx x.enc (.int 0) = some (.int x.a) := vIx_t0 _ _
  have i1 : vIx x.enc (.int 1) = some (.int x.b) := vIx_t1 _ _ _
  have i2 : vIx x.enc (.int 2) = some (.int x.c) := vIx_t2 _ _ _ _
  have i3 : vIx x.enc (.int 3) = some (.int x.d) := vIx_t3 _ _ _ _ _
  unfold lw11
  simp [m, i0, i1, i2, i3]
theorem vNe_word (s : Int) (l : List Int) : vNe (.tuple [.int s, .tuple (l.map .int)]) (.tuple [.int s, .tuple (l.map .int)]) = some false := by
  have f : Fl2 2 (.tuple [.int s, .tuple (l.map .int)]) := fl_tuple (fl_cons (fl_int 1 s) (fl_cons (fl_tuple (fl_map fun i => fl_int 0 i)) fl_nil))
  rw [vNe_of f f (by omega)]
  simp [PyData.eqv, PyData.eqvAll, eqvAll_map eqv_int]
theorem e13_ok {x y : Mx} {K u v s : Int} {l : List Int} {o7 : Option D} (h1 : d_L_word [x.enc] = .ok (.tuple [.int s, .tuple (l.map .int)]) []) (h2 : d_L_of_word [.int s, .tuple (l.map .int)] = .ok x.enc []) (h3 : d_twist_of_word [.int s, .tuple (l.map .int)] = .ok x.enc []) {ω : Wd} : lw13 [none, none, some x.enc, some y.enc, some Mx.one.enc, some (.int K), some ((if K < 0 then x.inv else x).pow K.natAbs).enc, o7, some (.int u), some (.int v), some (.tuple [.int s, .tuple (l.map .int)]), none, none, none, none, none, none, none, none, none, none, none] ω = .ok (.next [none, none, some x.enc, some y.enc, some Mx.one.enc, some (.int K), some ((if K < 0 then x.inv else x).pow K.natAbs).enc, o7, some (.int u), some (.int v), some (.tuple [.int s, .tuple (l.map .int)]), none, none, none, none, none, none, none, none, none, none, none]) ω := by
  generalize (if K < 0 then x.inv else x).pow K.natAbs = P
  unfold lw13
  simp [h1, vNe_word, h2, h3, vNe_mx]
theorem drawn_list {ρ0 : Ev} : ∀ (n : Nat) (lo : Int) (ω : Wd), StOk ω → ∃ (qs : List Int) (ω' : Wd), lcGo (gN 7) bYes (eBin vSub (eCallS d_L_draw (aCons (eC (.int 9)) aNil)) (eC (.int 4))) ρ0 (rangeL lo 1 n) ω = .ok (qs.map .int) ω' ∧ qs.length = n ∧ (∀ q ∈ qs, -4 ≤ q ∧ q ≤ 4) ∧ StOk ω' := by
  intro n
  induction n with
  | zero => intro lo ω h; exact ⟨[], ω, rfl, rfl, (fun _ h => nomatch h), h⟩
  | succ n ih =>
    intro lo ω h
    obtain ⟨r, ω1, h1, r1, r2, s1⟩ := draw_ok h (m := 9) (by omega) (by omega)
    obtain ⟨qs, ω2, h2, h3, h4, s2⟩ := ih (lo + 1) ω1 s1
    refine ⟨(r - 4) :: qs, ω2, ?_, by simp [h3], ?_, s2⟩
    · rw [rangeL, lcGo_cons]
      simp [draw_eq, h1]
      rw [draw_eq] at h2
      simp [h2]
    · intro q hq
      rcases List.mem_cons.1 hq with rfl | hq
      · omega
      · exact h4 q hq
theorem e14_ok {x y : Mx} {K u v s : Int} {l : List Int} {o7 : Option D} {ω : Wd} (h : StOk ω) : ∃ (qs : List Int) (ω' : Wd), lw14 [none, none, some x.enc, some y.enc, some Mx.one.enc, some (.int K), some ((if K < 0 then x.inv else x).pow K.natAbs).enc, o7, some (.int u), some (.int v), some (.tuple [.int s, .tuple (l.map .int)]), none, none, none, none, none, none, none, none, none, none, none] ω = .ok (.next [none, none, some x.enc, some y.enc, some Mx.one.enc, some (.int K), some ((if K < 0 then x.inv else x).pow K.natAbs).enc, o7, some (.int u), some (.int v), some (.tuple [.int s, .tuple (l.map .int)]), some (.tuple (qs.map .int)), none, none, none, none, none, none, none, none, none, none]) ω' ∧ qs.length ≤ 6 ∧ (∀ q ∈ qs, -4 ≤ q ∧ q ≤ 4) ∧ StOk ω' := by
  generalize (if K < 0 then x.inv else x).pow K.natAbs = P
  obtain ⟨n, ω1, h1, n1, n2, s1⟩ := draw_ok h (m := 6) (by omega) (by omega)
  obtain ⟨qs, ω2, h2, h3, h4, s2⟩ := drawn_list (ρ0 := [none, none, some x.enc, some y.enc, some Mx.one.enc, some (.int K), some P.enc, none, some (.int u), some (.int v), some (.tuple [.int s, .tuple (l.map .int)]), none, none, none, none, none, none, none, none, none, none, none]) (1 + n).toNat 0 ω1 s1
  refine ⟨qs, ω2, ?_, by omega, h4, s2⟩
  have hr : iRange [.int (1 + n)] = some (rangeL 0 1 (1 + n).toNat) := range1 (by omega)
  unfold lw14
  simp [draw_eq, h1, hr]
  rw [draw_eq] at h2
  rw [kLc_ok (by simp [rangeL_len, sizeLine]; omega), h2]
  simp
theorem e16_ok {x y : Mx} {K u v s sg : Int} {l qs : List Int} {o7 : Option D} (hs : sg = 1 ∨ sg = -1) (hl : qs.length ≤ 6) (hq : ∀ q ∈ qs, -4 ≤ q ∧ q ≤ 4) {ω : Wd} : lw16 [none, none, some x.enc, some y.enc, some Mx.one.enc, some (.int K), some ((if K < 0 then x.inv else x).pow K.natAbs).enc, o7, some (.int u), some (.int v), some (.tuple [.int s, .tuple (l.map .int)]), some (.tuple (qs.map .int)), some (.int sg), none, none, none, none, none, none, none, none, none] ω = .ok (.next [none, none, some x.enc, some y.enc, some Mx.one.enc, some (.int K), some ((if K < 0 then x.inv else x).pow K.natAbs).enc, o7, some (.int u), some (.int v), some (.tuple [.int s, .tuple (l.map .int)]), some (.tuple (qs.map .int)), some (.int sg), none, none, none, none, none, none, none, none, none]) ω := by
  generalize (if K < 0 then x.inv else x).pow K.natAbs = P
  have zs : Szc sg 9 := by rcases hs with rfl | rfl <;> exact ⟨by decide⟩
  have zq : ∀ q ∈ qs, Szc q 9 := fun q h => sz_of (by have := hq q h; omega) (by have := hq q h; omega)
  unfold lw16
  simp [twist_of_word_ok zs qs (by omega) zq, L_of_word_ok zs qs (by omega) zq, vNe_mx]

noncomputable abbrev duB : Ev → MM Fl := (sSeq (sIf (bAnd (bBin vEq (eVar 6) (eVar 4)) (bBin vIsN (eVar 14) (eC .none))) (sAsg (eVar 7) (gN 14)) sNext) (sAsg (eCall d_L_product (aCons (eVar 6) (aCons (eVar 13) aNil))) (gN 6)))
def pick (due n : Option Int) : Option Int := match due with
  | some j => some j
  | none => n
theorem du_run {x y m : Mx} {K u v s sg : Int} {l qs : List Int} (hm : Bd 8 m) {ω : Wd} : ∀ (n k0 : Nat) (k : Int) (p : Mx) (due : Option Int) (o : Option D), Bd k0 p → k0 + 9 * n < 100000 →
    ∃ q6 q7, sFor.go (gN 7) duB (rangeL k 1 n) [none, none, some x.enc, some y.enc, some Mx.one.enc, some (.int K), some p.enc, o, some (.int u), some (.int v), some (.tuple [.int s, .tuple (l.map .int)]), some (.tuple (qs.map .int)), some (.int sg), some m.enc, some (optD due), none, none, none, none, none, none, none] ω = .ok (.next [none, none, some x.enc, some y.enc, some Mx.one.enc, some (.int K), q6, q7, some (.int u), some (.int v), some (.tuple [.int s, .tuple (l.map .int)]), some (.tuple (qs.map .int)), some (.int sg), some m.enc, some (optD (pick due (perF m n k p))), none, none, none, none, none, none, none]) ω := by
  intro n
  induction n with
  | zero => intro k0 k p due o _ _; exact ⟨_, o, by cases due <;> rfl⟩
  | succ n ih =>
    intro k0 k p due o hp hk
    have a := product_ok hp hm (by omega)
    rw [rangeL, go_cons, gN_ap, ofO_some, kForG_ok]
    by_cases e : p = Mx.one ∧ due = none
    · obtain ⟨e1, e2⟩ := e
      obtain ⟨q6, q7, ih⟩ := ih _ (k + 1) (p.mul m) (some k) (some (.int k)) (hp.mul hm) (by omega)
      refine ⟨q6, q7, ?_⟩
      have b : duB [none, none, some x.enc, some y.enc, some Mx.one.enc, some (.int K), some p.enc, some (.int k), some (.int u), some (.int v), some (.tuple [.int s, .tuple (l.map .int)]), some (.tuple (qs.map .int)), some (.int sg), some m.enc, some (optD due), none, none, none, none, none, none, none] ω = .ok (.next [none, none, some x.enc, some y.enc, some Mx.one.enc, some (.int K), some (p.mul m).enc, some (.int k), some (.int u), some (.int v), some (.tuple [.int s, .tuple (l.map .int)]), some (.tuple (qs.map .int)), some (.int sg), some m.enc, some (optD (some k)), none, none, none, none, none, none, none]) ω := by
        unfold duB
        subst e2
        rw [e1] at a ⊢
        simp [vEq_mx, optD, a]
      rw [show put [none, none, some x.enc, some y.enc, some Mx.one.enc, some (.int K), some p.enc, o, some (.int u), some (.int v), some (.tuple [.int s, .tuple (l.map .int)]), some (.tuple (qs.map .int)), some (.int sg), some m.enc, some (optD due), none, none, none, none, none, none, none] 7 (.int k) = [none, none, some x.enc, some y.enc, some Mx.one.enc, some (.int K), some p.enc, some (.int k), some (.int u), some (.int v), some (.tuple [.int s, .tuple (l.map .int)]), some (.tuple (qs.map .int)), some (.int sg), some m.enc, some (optD due), none, none, none, none, none, none, none] from rfl, b, kForB_next, ih]
      subst e2
      simp [pick, perF, e1]
    · obtain ⟨q6, q7, ih⟩ := ih _ (k + 1) (p.mul m) due (some (.int k)) (hp.mul hm) (by omega)
      refine ⟨q6, q7, ?_⟩
      have b : duB [none, none, some x.enc, some y.enc, some Mx.one.enc, some (.int K), some p.enc, some (.int k), some (.int u), some (.int v), some (.tuple [.int s, .tuple (l.map .int)]), some (.tuple (qs.map .int)), some (.int sg), some m.enc, some (optD due), none, none, none, none, none, none, none] ω = .ok (.next [none, none, some x.enc, some y.enc, some Mx.one.enc, some (.int K), some (p.mul m).enc, some (.int k), some (.int u), some (.int v), some (.tuple [.int s, .tuple (l.map .int)]), some (.tuple (qs.map .int)), some (.int sg), some m.enc, some (optD due), none, none, none, none, none, none, none]) ω := by
        unfold duB
        by_cases e1 : p = Mx.one
        · cases due with
          | none => exact absurd ⟨e1, rfl⟩ e
          | some j =>
            rw [e1] at a ⊢
            simp [vEq_mx, optD, a]
        · simp [vEq_mx, e1, a]
      rw [show put [none, none, some x.enc, some y.enc, some Mx.one.enc, some (.int K), some p.enc, o, some (.int u), some (.int v), some (.tuple [.int s, .tuple (l.map .int)]), some (.tuple (qs.map .int)), some (.int sg), some m.enc, some (optD due), none, none, none, none, none, none, none] 7 (.int k) = [none, none, some x.enc, some y.enc, some Mx.one.enc, some (.int K), some p.enc, some (.int k), some (.int u), some (.int v), some (.tuple [.int s, .tuple (l.map .int)]), some (.tuple (qs.map .int)), some (.int sg), some m.enc, some (optD due), none, none, none, none, none, none, none] from rfl, b, kForB_next, ih]
      cases due with
      | some j => rfl
      | none =>
        have e1 : ¬ p = Mx.one := fun z => e ⟨z, rfl⟩
        simp [pick, perF, e1]
theorem vNe_opt (a : Option Int) : vNe (optD a) (optD a) = some false := by cases a <;> simp [optD]
noncomputable abbrev mdB : Ev → MM Fl := (sSeq (sAsg (eC .none) (gN 14)) (sSeq (sAsg (eVar 13) (gN 6)) (sSeq (sFor (iArgs iRange (aCons (eC (.int 1)) (aCons (eC (.int 7)) aNil))) (gN 7) duB) (sIf (bBin vNe (eCall d_period_of_twist (aCons (eVar 13) aNil)) (eVar 14)) (sRet (eC (.bool false))) sNext))))
theorem md_body {x y m : Mx} {K u v s sg : Int} {l qs : List Int} {o6 o7 o14 : Option D} (hm : Bd 8 m) {ω : Wd} : ∃ q6 q7 q14, mdB [none, none, some x.enc, some y.enc, some Mx.one.enc, some (.int K), o6, o7, some (.int u), some (.int v), some (.tuple [.int s, .tuple (l.map .int)]), some (.tuple (qs.map .int)), some (.int sg), some m.enc, o14, none, none, none, none, none, none, none] ω = .ok (.next [none, none, some x.enc, some y.enc, some Mx.one.enc, some (.int K), q6, q7, some (.int u), some (.int v), some (.tuple [.int s, .tuple (l.map .int)]), some (.tuple (qs.map .int)), some (.int sg), some m.enc, q14, none, none, none, none, none, none, none]) ω := by
  obtain ⟨q6, q7, r⟩ := @du_run x y m K u v s sg l qs hm ω 6 8 1 m none o7 hm (by omega)
  have pk : pick none (perF m 6 1 m) = perF m 6 1 m := rfl
  rw [pk] at r
  have hr : iRange [.int 1, .int 7] = some (rangeL 1 1 6) := rfl
  refine ⟨q6, q7, some (optD (perF m 6 1 m)), ?_⟩
  unfold mdB
  simp only [optD] at r
  simp [hr, r]
  simp [period_ok hm, vNe_opt]
  have := vNe_opt (perF m 6 1 m)
  simp only [optD] at this ⊢
  simp [this]
theorem e17_ok {x y : Mx} {K u v s sg : Int} {l qs : List Int} {o7 : Option D} (hx : Good4 x) {ω : Wd} : ∃ o6 o7' o13 o14, lw17 [none, none, some x.enc, some y.enc, some Mx.one.enc, some (.int K), some ((if K < 0 then x.inv else x).pow K.natAbs).enc, o7, some (.int u), some (.int v), some (.tuple [.int s, .tuple (l.map .int)]), some (.tuple (qs.map .int)), some (.int sg), none, none, none, none, none, none, none, none, none] ω = .ok (.next [none, none, some x.enc, some y.enc, some Mx.one.enc, some (.int K), o6, o7', some (.int u), some (.int v), some (.tuple [.int s, .tuple (l.map .int)]), some (.tuple (qs.map .int)), some (.int sg), o13, o14, none, none, none, none, none, none, none]) ω := by
  have all : ∀ (ms : List Mx) (o6 o7 o13 o14 : Option D), (∀ m ∈ ms, Bd 8 m) → ∃ q6 q7 q13 q14, sFor.go (gN 13) mdB (ms.map Mx.enc) [none, none, some x.enc, some y.enc, some Mx.one.enc, some (.int K), o6, o7, some (.int u), some (.int v), some (.tuple [.int s, .tuple (l.map .int)]), some (.tuple (qs.map .int)), some (.int sg), o13, o14, none, none, none, none, none, none, none] ω = .ok (.next [none, none, some x.enc, some y.enc, some Mx.one.enc, some (.int K), q6, q7, some (.int u), some (.int v), some (.tuple [.int s, .tuple (l.map .int)]), some (.tuple (qs.map .int)), some (.int sg), q13, q14, none, none, none, none, none, none, none]) ω := by
    intro ms
    induction ms with
    | nil => intro o6 o7 o13 o14 _; exact ⟨o6, o7, o13, o14, rfl⟩
    | cons m ms ih =>
      intro o6 o7 o13 o14 h
      obtain ⟨q6, q7, q14, b⟩ := @md_body x y m K u v s sg l qs o6 o7 o14 (h m (by simp)) ω
      obtain ⟨r6, r7, r13, r14, ih⟩ := ih q6 q7 (some m.enc) q14 (fun z hz => h z (by simp [hz]))
      refine ⟨r6, r7, r13, r14, ?_⟩
      rw [List.map_cons, go_cons, gN_ap, ofO_some, kForG_ok]
      rw [show put [none, none, some x.enc, some y.enc, some Mx.one.enc, some (.int K), o6, o7, some (.int u), some (.int v), some (.tuple [.int s, .tuple (l.map .int)]), some (.tuple (qs.map .int)), some (.int sg), o13, o14, none, none, none, none, none, none, none] 13 m.enc = [none, none, some x.enc, some y.enc, some Mx.one.enc, some (.int K), o6, o7, some (.int u), some (.int v), some (.tuple [.int s, .tuple (l.map .int)]), some (.tuple (qs.map .int)), some (.int sg), some m.enc, o14, none, none, none, none, none, none, none] from rfl, b, kForB_next, ih]
  have sb : ∀ z : Int, z.natAbs ≤ 1 → Szc z 8 := fun z h => ⟨by omega⟩
  have bd : ∀ a b c d : Int, a.natAbs ≤ 1 → b.natAbs ≤ 1 → c.natAbs ≤ 1 → d.natAbs ≤ 1 → Bd 8 ⟨a, b, c, d⟩ := fun a b c d h1 h2 h3 h4 => ⟨sb a h1, sb b h2, sb c h3, sb d h4⟩
  obtain ⟨q6, q7, q13, q14, h⟩ := all [x, ⟨0, -1, 1, 0⟩, ⟨1, 1, -1, 0⟩, ⟨-1, 0, 0, -1⟩, ⟨0, 1, -1, -1⟩, Mx.one] (some ((if K < 0 then x.inv else x).pow K.natAbs).enc) o7 none none (fun m hm => by
    simp only [List.mem_cons, List.not_mem_nil, or_false] at hm
    rcases hm with rfl | rfl | rfl | rfl | rfl | rfl
    · exact hx.bd
    · exact bd _ _ _ _ (by decide) (by decide) (by decide) (by decide)
    · exact bd _ _ _ _ (by decide) (by decide) (by decide) (by decide)
    · exact bd _ _ _ _ (by decide) (by decide) (by decide) (by decide)
    · exact bd _ _ _ _ (by decide) (by decide) (by decide) (by decide)
    · exact bd _ _ _ _ (by decide) (by decide) (by decide) (by decide))
  refine ⟨q6, q7, q13, q14, ?_⟩
  generalize (if K < 0 then x.inv else x).pow K.natAbs = P at *
  unfold lw17
  simp only [sFor_ap, iSeq_ap, eLst_ap, aCons_ap, eTup_ap, eC_ap, kCons_ok, aNil_ap, kCons2_ok, kArgs_ok, ofO_some, eUn_ap, kUn_ok, vNeg_int, seqOf_list, kFor_ok, eVar_ap, look_succ, look_zero]
  exact h
def wrongs (x : Mx) : List D := [.none, .tuple [.int x.a, .int x.b, .int x.c, .int x.d, .int 0], .tuple [.int x.a, .int x.b, .int x.c], .tuple [.int x.a, .int x.b, .int x.c, .int (x.d + 1)], .tuple [.bool true, .int 0, .int 0, .int 1], .list [.int x.a, .int x.b, .int x.c, .int x.d], .tuple [.int x.a, .int x.c, .int x.b, .int x.d], .str "1001", .tuple [.int 2, .int 0, .int 0, .int 2], .tuple [.int 0, .int 1, .int 1, .int 0]]
theorem e21_ok {x y : Mx} {K u v s sg : Int} {l qs : List Int} {o6 o7 o14 : Option D} {ω : Wd} : lw21 [none, none, some x.enc, some y.enc, some Mx.one.enc, some (.int K), o6, o7, some (.int u), some (.int v), some (.tuple [.int s, .tuple (l.map .int)]), some (.tuple (qs.map .int)), some (.int sg), some x.enc, o14, some (.int x.a), some (.int x.b), some (.int x.c), some (.int x.d), none, none, none] ω = .ok (.next [none, none, some x.enc, some y.enc, some Mx.one.enc, some (.int K), o6, o7, some (.int u), some (.int v), some (.tuple [.int s, .tuple (l.map .int)]), some (.tuple (qs.map .int)), some (.int sg), some x.enc, o14, some (.int x.a), some (.int x.b), some (.int x.c), some (.int x.d), some (.list (wrongs x)), none, none]) ω := by
  have h : vAdd x.enc (.tuple [.int 0]) = some (.tuple [.int x.a, .int x.b, .int x.c, .int x.d, .int 0]) := rfl
  have h2 : fList [x.enc] = some (.list [.int x.a, .int x.b, .int x.c, .int x.d]) := rfl
  unfold lw21
  simp [h, h2, wrongs]
theorem is_twist_good {x : Mx} (hx : Good4 x) : d_is_twist [x.enc] = .ok (.bool true) [] := by
  obtain ⟨h0, ⟨ha, hb, hc, hd⟩, h5⟩ := hx
  unfold Mx.det at h0
  unfold d_is_twist d_is_row d_is_integer
  simp [Mx.enc, isiT, lcGo_cons, lcGo_nil, fAll, boolsOf, h0]
theorem end_ok {x y : Mx} {K u v s sg : Int} {l qs : List Int} {o6 o7 o14 : Option D} {z : D} (hx : Good4 x) (hz : z ∈ wrongs x) {ω : Wd} : (sSeq lw23 (sSeq lw24 (sSeq lw25 lw26))) [none, none, some x.enc, some y.enc, some Mx.one.enc, some (.int K), o6, o7, some (.int u), some (.int v), some (.tuple [.int s, .tuple (l.map .int)]), some (.tuple (qs.map .int)), some (.int sg), some x.enc, o14, some (.int x.a), some (.int x.b), some (.int x.c), some (.int x.d), some (.list (wrongs x)), some z, none] ω = .ok (.ret (.bool true)) ω := by
  have tg := is_twist_good hx
  generalize (if K < 0 then x.inv else x).pow K.natAbs = P
  obtain ⟨h0, ⟨ha, hb, hc, hd⟩, h5⟩ := hx
  generalize hX : x.enc = X at *
  simp only [wrongs, List.mem_cons, List.not_mem_nil, or_false] at hz
  unfold lw23 lw24 lw25 lw26
  unfold d_is_twist d_is_row d_is_integer at *
  rcases hz with rfl | rfl | rfl | rfl | rfl | rfl | rfl | rfl | rfl | rfl <;> simp [isiT, lcGo_cons, lcGo_nil, fAll, boolsOf, L_truth_t, tg]

theorem law_math : ∀ ns : List Int, ns.length ≤ 63 → ∃ w, db_law (none :: none :: List.replicate (N_law.length - 2) none) (ω0 ns) = .ok (.ret (.bool true)) w := by
  intro ns _
  obtain ⟨x, w1, h1, hx, s1⟩ := twist_ok (stOk0 ns)
  obtain ⟨y, w2, h2, hy, s2⟩ := twist_ok s1
  have e1 : lw1 [none, none, none, none, none, none, none, none, none, none, none, none, none, none, none, none, none, none, none, none, none, none] (ω0 ns) = .ok (.next [none, none, some x.enc, none, none, none, none, none, none, none, none, none, none, none, none, none, none, none, none, none, none, none]) w1 := by simp [lw1, h1]
  have e2 : lw2 [none, none, some x.enc, none, none, none, none, none, none, none, none, none, none, none, none, none, none, none, none, none, none, none] w1 = .ok (.next [none, none, some x.enc, some y.enc, none, none, none, none, none, none, none, none, none, none, none, none, none, none, none, none, none, none]) w2 := by simp [lw2, h2]
  have e3 : lw3 [none, none, some x.enc, some y.enc, none, none, none, none, none, none, none, none, none, none, none, none, none, none, none, none, none, none] w2 = .ok (.next [none, none, some x.enc, some y.enc, some Mx.one.enc, none, none, none, none, none, none, none, none, none, none, none, none, none, none, none, none, none]) w2 := by simp [lw3]; rfl
  obtain ⟨k5, w3, h5, k51, k52, s3⟩ := draw_ok s2 (m := 9) (by omega) (by omega)
  obtain ⟨K, hK⟩ : ∃ K, K = k5 - 4 := ⟨_, rfl⟩
  have hK4 : -4 ≤ K ∧ K ≤ 4 := by omega
  have e5 : lw5 [none, none, some x.enc, some y.enc, some Mx.one.enc, none, none, none, none, none, none, none, none, none, none, none, none, none, none, none, none, none] w2 = .ok (.next [none, none, some x.enc, some y.enc, some Mx.one.enc, some (.int K), none, none, none, none, none, none, none, none, none, none, none, none, none, none, none, none]) w3 := by simp [lw5, draw_eq, h5, hK]
  have e6 : lw6 [none, none, some x.enc, some y.enc, some Mx.one.enc, some (.int K), none, none, none, none, none, none, none, none, none, none, none, none, none, none, none, none] w3 = .ok (.next [none, none, some x.enc, some y.enc, some Mx.one.enc, some (.int K), some Mx.one.enc, none, none, none, none, none, none, none, none, none, none, none, none, none, none, none]) w3 := by simp [lw6]
  obtain ⟨o7, e7⟩ := e7_ok (x := x) (y := y) hx hK4 (ω := w3)
  obtain ⟨u0, w4, h9, u1, u2, s4⟩ := draw_ok s3 (m := 99) (by omega) (by omega)
  obtain ⟨v0, w5, h10, v1, v2, s5⟩ := draw_ok s4 (m := 99) (by omega) (by omega)
  obtain ⟨u, hu⟩ : ∃ u, u = u0 - 50 := ⟨_, rfl⟩
  obtain ⟨v, hv⟩ : ∃ v, v = v0 - 50 := ⟨_, rfl⟩
  have e8 := e8_ok (x := x) (y := y) (o7 := o7) hx hK4 (ω := w3)
  have e9 : lw9 [none, none, some x.enc, some y.enc, some Mx.one.enc, some (.int K), some ((if K < 0 then x.inv else x).pow K.natAbs).enc, o7, none, none, none, none, none, none, none, none, none, none, none, none, none, none] w3 = .ok (.next [none, none, some x.enc, some y.enc, some Mx.one.enc, some (.int K), some ((if K < 0 then x.inv else x).pow K.natAbs).enc, o7, some (.int u), none, none, none, none, none, none, none, none, none, none, none, none, none]) w4 := by simp [lw9, draw_eq, h9, hu]
  have e10 : lw10 [none, none, some x.enc, some y.enc, some Mx.one.enc, some (.int K), some ((if K < 0 then x.inv else x).pow K.natAbs).enc, o7, some (.int u), none, none, none, none, none, none, none, none, none, none, none, none, none] w4 = .ok (.next [none, none, some x.enc, some y.enc, some Mx.one.enc, some (.int K), some ((if K < 0 then x.inv else x).pow K.natAbs).enc, o7, some (.int u), some (.int v), none, none, none, none, none, none, none, none, none, none, none, none]) w5 := by simp [lw10, draw_eq, h10, hv]
  have e11 := e11_ok (x := x) (y := y) (K := K) (u := u) (v := v) (o7 := o7) hx (by omega) (by omega) (ω := w5)
  have hw := word_ok hx
  have hlw := L_word_ok hx
  have hb := word_back hx
  obtain ⟨_, _, wk, wc⟩ := word_run hx
  obtain ⟨s, hs⟩ : ∃ s, s = (wl 200 x).m.a := ⟨_, rfl⟩
  obtain ⟨l, hl⟩ : ∃ l, l = (wl 200 x).l ++ [(wl 200 x).m.a * (wl 200 x).m.b] := ⟨_, rfl⟩
  rw [← hl, ← hs] at hw hlw hb
  have zs : Szc s 9 := by rw [hs]; exact sz300 wk.a
  have zl := words_small hx
  rw [← hl] at zl
  have e12 : lw12 [none, none, some x.enc, some y.enc, some Mx.one.enc, some (.int K), some ((if K < 0 then x.inv else x).pow K.natAbs).enc, o7, some (.int u), some (.int v), none, none, none, none, none, none, none, none, none, none, none, none] w5 = .ok (.next [none, none, some x.enc, some y.enc, some Mx.one.enc, some (.int K), some ((if K < 0 then x.inv else x).pow K.natAbs).enc, o7, some (.int u), some (.int v), some (.tuple [.int s, .tuple (l.map .int)]), none, none, none, none, none, none, none, none, none, none, none]) w5 := by simp [lw12, hw]
  have t1 := twist_of_word_ok zs l zl.1 zl.2
  have t2 := L_of_word_ok zs l zl.1 zl.2
  rw [hb] at t1 t2
  have e13 := e13_ok (x := x) (y := y) (K := K) (u := u) (v := v) (o7 := o7) hlw t2 t1 (ω := w5)
  obtain ⟨qs, w6, e14, q1, q2, s6⟩ := e14_ok (x := x) (y := y) (K := K) (u := u) (v := v) (s := s) (l := l) (o7 := o7) s5
  obtain ⟨g0, w7, h15, g1, g2, s7⟩ := draw_ok s6 (m := 2) (by omega) (by omega)
  obtain ⟨sg, hsg⟩ : ∃ sg, sg = 1 - 2 * g0 := ⟨_, rfl⟩
  have e15 : lw15 [none, none, some x.enc, some y.enc, some Mx.one.enc, some (.int K), some ((if K < 0 then x.inv else x).pow K.natAbs).enc, o7, some (.int u), some (.int v), some (.tuple [.int s, .tuple (l.map .int)]), some (.tuple (qs.map .int)), none, none, none, none, none, none, none, none, none, none] w6 = .ok (.next [none, none, some x.enc, some y.enc, some Mx.one.enc, some (.int K), some ((if K < 0 then x.inv else x).pow K.natAbs).enc, o7, some (.int u), some (.int v), some (.tuple [.int s, .tuple (l.map .int)]), some (.tuple (qs.map .int)), some (.int sg), none, none, none, none, none, none, none, none, none]) w7 := by
    haveI : Szc g0 2 := sz_of (by omega) (by omega)
    simp [lw15, draw_eq, h15, hsg]
  have e16 := e16_ok (x := x) (y := y) (K := K) (u := u) (v := v) (s := s) (sg := sg) (l := l) (qs := qs) (o7 := o7) (by omega) q1 q2 (ω := w7)
  obtain ⟨o6, o7', o13, o14, e17⟩ := e17_ok (x := x) (y := y) (K := K) (u := u) (v := v) (s := s) (sg := sg) (l := l) (qs := qs) (o7 := o7) hx (ω := w7)
  have e18 : lw18 [none, none, some x.enc, some y.enc, some Mx.one.enc, some (.int K), o6, o7', some (.int u), some (.int v), some (.tuple [.int s, .tuple (l.map .int)]), some (.tuple (qs.map .int)), some (.int sg), o13, o14, none, none, none, none, none, none, none] w7 = .ok (.next [none, none, some x.enc, some y.enc, some Mx.one.enc, some (.int K), o6, o7', some (.int u), some (.int v), some (.tuple [.int s, .tuple (l.map .int)]), some (.tuple (qs.map .int)), some (.int sg), o13, o14, some (.int x.a), some (.int x.b), some (.int x.c), some (.int x.d), none, none, none]) w7 := by
    unfold lw18
    simp only [sAsg_ap, eVar_ap, look_succ, look_zero, ofO_some, kAsg_ok]
    rfl
  have e19 : lw19 [none, none, some x.enc, some y.enc, some Mx.one.enc, some (.int K), o6, o7', some (.int u), some (.int v), some (.tuple [.int s, .tuple (l.map .int)]), some (.tuple (qs.map .int)), some (.int sg), o13, o14, some (.int x.a), some (.int x.b), some (.int x.c), some (.int x.d), none, none, none] w7 = .ok (.next [none, none, some x.enc, some y.enc, some Mx.one.enc, some (.int K), o6, o7', some (.int u), some (.int v), some (.tuple [.int s, .tuple (l.map .int)]), some (.tuple (qs.map .int)), some (.int sg), some x.enc, o14, some (.int x.a), some (.int x.b), some (.int x.c), some (.int x.d), none, none, none]) w7 := by
    have wf : d_with_first_column [.int x.a, .int x.c, .tuple [.int x.d, .int (0 - x.b)]] = .ok x.enc [] := by
      unfold d_with_first_column
      simp [Mx.enc]
    simp at wf
    simp [lw19, wf]
  have e20 : lw20 [none, none, some x.enc, some y.enc, some Mx.one.enc, some (.int K), o6, o7', some (.int u), some (.int v), some (.tuple [.int s, .tuple (l.map .int)]), some (.tuple (qs.map .int)), some (.int sg), some x.enc, o14, some (.int x.a), some (.int x.b), some (.int x.c), some (.int x.d), none, none, none] w7 = .ok (.next [none, none, some x.enc, some y.enc, some Mx.one.enc, some (.int K), o6, o7', some (.int u), some (.int v), some (.tuple [.int s, .tuple (l.map .int)]), some (.tuple (qs.map .int)), some (.int sg), some x.enc, o14, some (.int x.a), some (.int x.b), some (.int x.c), some (.int x.d), none, none, none]) w7 := by
    have e : vNe x.enc (.tuple [.int x.a, .int x.b, .int x.c, .int x.d]) = some false := by
      have := vNe_mx x x
      simpa [Mx.enc] using this
    simp [lw20, e]
  have e21 := e21_ok (x := x) (y := y) (K := K) (u := u) (v := v) (s := s) (sg := sg) (l := l) (qs := qs) (o6 := o6) (o7 := o7') (o14 := o14) (ω := w7)
  obtain ⟨k, w8, h22, k1, k2, s8⟩ := draw_ok s7 (m := 10) (by omega) (by omega)
  have ln : ((wrongs x).length : Int) = 10 := rfl
  have hk : k.toNat < (wrongs x).length := by omega
  have ix : vIx (.list (wrongs x)) (.int k) = some ((wrongs x)[k.toNat]) := by
    have := vIx_list (xs := wrongs x) (j := k.toNat) (v := (wrongs x)[k.toNat]) (by simp [hk])
    rwa [Int.toNat_of_nonneg k1] at this
  obtain ⟨z, hz⟩ : ∃ z, z = (wrongs x)[k.toNat] := ⟨_, rfl⟩
  have zm : z ∈ wrongs x := by rw [hz]; exact List.getElem_mem hk
  rw [← hz] at ix
  have e22 : lw22 [none, none, some x.enc, some y.enc, some Mx.one.enc, some (.int K), o6, o7', some (.int u), some (.int v), some (.tuple [.int s, .tuple (l.map .int)]), some (.tuple (qs.map .int)), some (.int sg), some x.enc, o14, some (.int x.a), some (.int x.b), some (.int x.c), some (.int x.d), some (.list (wrongs x)), none, none] w7 = .ok (.next [none, none, some x.enc, some y.enc, some Mx.one.enc, some (.int K), o6, o7', some (.int u), some (.int v), some (.tuple [.int s, .tuple (l.map .int)]), some (.tuple (qs.map .int)), some (.int sg), some x.enc, o14, some (.int x.a), some (.int x.b), some (.int x.c), some (.int x.d), some (.list (wrongs x)), some z, none]) w8 := by simp [lw22, draw_eq, ln, h22, ix]
  have e23 := end_ok (x := x) (y := y) (K := K) (u := u) (v := v) (s := s) (sg := sg) (l := l) (qs := qs) (o6 := o6) (o7 := o7') (o14 := o14) hx zm (ω := w8)
  refine ⟨w8, ?_⟩
  rw [lw_eq]
  show (sSeq lw1 _) [none, none, none, none, none, none, none, none, none, none, none, none, none, none, none, none, none, none, none, none, none, none] (ω0 ns) = _
  rw [sSeq_ap, e1, kSeq_next, sSeq_ap, e2, kSeq_next, sSeq_ap, e3, kSeq_next, sSeq_ap, e4_ok hx hy, kSeq_next, sSeq_ap, e5, kSeq_next, sSeq_ap, e6, kSeq_next, sSeq_ap, e7, kSeq_next, sSeq_ap, e8, kSeq_next, sSeq_ap, e9, kSeq_next, sSeq_ap, e10, kSeq_next, sSeq_ap, e11, kSeq_next, sSeq_ap, e12, kSeq_next, sSeq_ap, e13, kSeq_next, sSeq_ap, e14, kSeq_next, sSeq_ap, e15, kSeq_next, sSeq_ap, e16, kSeq_next, sSeq_ap, e17, kSeq_next, sSeq_ap, e18, kSeq_next, sSeq_ap, e19, kSeq_next, sSeq_ap, e20, kSeq_next, sSeq_ap, e21, kSeq_next, sSeq_ap, e22, kSeq_next, e23]
end M

set_option Elab.async false
set_option linter.all false
set_option maxRecDepth 100000
set_option maxHeartbeats 4000000
namespace M
open PySem PySem.Spec PyProof.Rows L2
theorem cx_out {P : Program} {w : World} {H : Hp} {s : Shared} {e : Value} {s' : Shared} (h : L2.CX P w [] H s (fun _ _ _ => False) e s') : False := by
  obtain ⟨_, _, _, _, _, _, _, _, _, _, _, _, z⟩ := h
  exact z
theorem law_ok {P : Program} {w : World} {K : PySem.W.Frag} {mg : PySem.Str → Option Value} {base : Heap} (T : Txt K mg) {f : Addr} {fd : FuncData} (F : Fun K "law" "law" s_law f fd) : FnOk P w K mg base (L2.CX P w) 4 f fd ["script"] (spLaw K) :=
  law_F F sc_law rfl (by decide) (fun cdv A outer s H E hr => der_law0 T f cdv A outer s H E hr) (fun H0 F0 b cdv A outer s H E hr => der_law T f H0 F0 b cdv A outer s H E hr) law_math
theorem law_all {P : Program} {w : World} {K : PySem.W.Frag} {h : Heap} {mg : PySem.Str → Option Value} {fa : Addr} (KX : K.In h) (G : h.Ns mainGlobals mg) (hfa : mg "law" = some (.ref fa)) (T : Txt K mg) :
    ∃ fd : FuncData, (∀ (s : Shared) (v : Value), BindsTo s fd ⟨[v], []⟩ [("script", v)]) ∧ ∀ base : Heap, K.In base → base.Ns mainGlobals mg → FnOk P w K mg base (L2.CX P w) 4 fa fd ["script"] (spLaw K) := by
  obtain ⟨f, fd, F, b, g⟩ := T.f_law
  rw [hfa] at g
  cases g
  refine ⟨fd, fun s v => ?_, fun base _ _ => law_ok T F⟩
  obtain ⟨oc, od, kV, doc, pm, an, cdv, ct, osl, rfl, lk, hcd⟩ := F.ex
  exact .of_eq rfl
end M
open PySem PySem.W PyProof.Rows
set_option maxRecDepth 100000 in
set_option maxHeartbeats 0 in
theorem PySem.Challenge.cw_rootsooth_k04_matrices_and_their_words_holds : PySem.Challenge.rw_rootsooth_k04_matrices_and_their_words.Holds := by
  w_on; o_law; k_head; (case hw => w_witness2)
  k_fill
  refine L2.walk_of (l := PySem.Challenge.rw_rootsooth_k04_matrices_and_their_words) (n := 63) (k := 4) (x := "script") (CX := fun w => L2.CX PySem.Challenge.rw_rootsooth_k04_matrices_and_their_words.prog w) (sp := fun w => M.spLaw _) rfl (by decide) rfl ⟨rfl, by decide, by decide⟩ (fun w h Y => PySem.W.kIn_of Y) ?F (fun _ _ a ns hl _ hS => ⟨a, ns, rfl, hS, hl, fun _ => rfl⟩) (fun _ _ _ _ _ h => M.cx_out h)
  case F =>
    intro w mg fa h KX G hmg
    refine' M.law_all KX G hmg ⟨(M.def_mk G KX (fun _ _ _ _ _ _ us hl => match us, hl with | [_], _ => rfl) ?a1 ?l1 ?c1 ?k1),
      (M.def_mk G KX (fun _ _ _ _ _ _ us hl => match us, hl with | [_, _], _ => rfl) ?a2 ?l2 ?c2 ?k2),
      (M.def_mk G KX (fun _ _ _ _ _ _ us hl => match us, hl with | [_], _ => rfl) ?a6 ?l6 ?c6 ?k6),
      (M.def_mk G KX (fun _ _ _ _ _ _ us hl => match us, hl with | [_, _], _ => rfl) ?a7 ?l7 ?c7 ?k7),
      (M.def_mk G KX (fun _ _ _ _ _ _ us hl => match us, hl with | [_], _ => rfl) ?a8 ?l8 ?c8 ?k8),
      (M.def_mk G KX (fun _ _ _ _ _ _ us hl => match us, hl with | [_], _ => rfl) ?a9 ?l9 ?c9 ?k9),
      (M.def_mk G KX (fun _ _ _ _ _ _ us hl => match us, hl with | [_, _], _ => rfl) ?a10 ?l10 ?c10 ?k10),
      (M.def_mk G KX (fun _ _ _ _ _ _ us hl => match us, hl with | [_], _ => rfl) ?a11 ?l11 ?c11 ?k11),
      (M.def_mk G KX (fun _ _ _ _ _ _ us hl => match us, hl with | [_, _], _ => rfl) ?a12 ?l12 ?c12 ?k12),
      (M.def_mk G KX (fun _ _ _ _ _ _ us hl => match us, hl with | [_, _], _ => rfl) ?a13 ?l13 ?c13 ?k13),
      (M.def_mk G KX (fun _ _ _ _ _ _ us hl => match us, hl with | [_], _ => rfl) ?a14 ?l14 ?c14 ?k14),
      (M.def_mk G KX (fun _ _ _ _ _ _ us hl => match us, hl with | [_], _ => rfl) ?a15 ?l15 ?c15 ?k15),
      (M.def_mk G KX (fun _ _ _ _ _ _ us hl => match us, hl with | [_, _, _], _ => rfl) ?a16 ?l16 ?c16 ?k16),
      (M.def_mk G KX (fun _ _ _ _ _ _ us hl => match us, hl with | [_], _ => rfl) ?a18 ?l18 ?c18 ?k18),
      (M.def_mk G KX (fun _ _ _ _ _ _ us hl => match us, hl with | [_, _], _ => rfl) ?a19 ?l19 ?c19 ?k19),
      (M.def_mk G KX (fun _ _ _ _ _ _ us hl => match us, hl with | [_, _], _ => rfl) ?a20 ?l20 ?c20 ?k20),
      (M.def_mk G KX (fun _ _ _ _ _ _ us hl => match us, hl with | [_], _ => rfl) ?a21 ?l21 ?c21 ?k21),
      (M.def_mk G KX (fun _ _ _ _ _ _ us hl => match us, hl with | [_, _], _ => rfl) ?a22 ?l22 ?c22 ?k22),
      (M.def_mk G KX (fun _ _ _ _ _ _ us hl => match us, hl with | [_], _ => rfl) ?a23 ?l23 ?c23 ?k23),
      (M.def_mk G KX (fun _ _ _ _ _ _ us hl => match us, hl with | [_, _], _ => rfl) ?a24 ?l24 ?c24 ?k24),
      (M.def_mk G KX (fun _ _ _ _ _ _ us hl => match us, hl with | [_], _ => rfl) ?a25 ?l25 ?c25 ?k25),
      (PySem.W.mg_none_of KX G ?z_abs),
      (PySem.W.mg_none_of KX G ?z_all),
      (PySem.W.mg_none_of KX G ?z_bool),
      (PySem.W.mg_none_of KX G ?z_enumerate),
      (PySem.W.mg_none_of KX G ?z_int),
      (PySem.W.mg_none_of KX G ?z_isinstance),
      (PySem.W.mg_none_of KX G ?z_len),
      (PySem.W.mg_none_of KX G ?z_list),
      (PySem.W.mg_none_of KX G ?z_range),
      (PySem.W.mg_none_of KX G ?z_tuple),
      (M.ctup_mk G KX ?co_STRAIGHT ?cl_STRAIGHT ?ct_STRAIGHT),
      (M.ctup_mk G KX ?co_TURN ?cl_TURN ?ct_TURN)⟩
    (case a1 => k_is)
    (case l1 => k_is)
    (case c1 => k_is)
    (case k1 => k_is)
    (case a2 => k_is)
    (case l2 => k_is)
    (case c2 => k_is)
    (case k2 => k_is)
    (case a6 => k_is)
    (case l6 => k_is)
    (case c6 => k_is)
    (case k6 => k_is)
    (case a7 => k_is)
    (case l7 => k_is)
    (case c7 => k_is)
    (case k7 => k_is)
    (case a8 => k_is)
    (case l8 => k_is)
    (case c8 => k_is)
    (case k8 => k_is)
    (case a9 => k_is)
    (case l9 => k_is)
    (case c9 => k_is)
    (case k9 => k_is)
    (case a10 => k_is)
    (case l10 => k_is)
    (case c10 => k_is)
    (case k10 => k_is)
    (case a11 => k_is)
    (case l11 => k_is)
    (case c11 => k_is)
    (case k11 => k_is)
    (case a12 => k_is)
    (case l12 => k_is)
    (case c12 => k_is)
    (case k12 => k_is)
    (case a13 => k_is)
    (case l13 => k_is)
    (case c13 => k_is)
    (case k13 => k_is)
    (case a14 => k_is)
    (case l14 => k_is)
    (case c14 => k_is)
    (case k14 => k_is)
    (case a15 => k_is)
    (case l15 => k_is)
    (case c15 => k_is)
    (case k15 => k_is)
    (case a16 => k_is)
    (case l16 => k_is)
    (case c16 => k_is)
    (case k16 => k_is)
    (case a18 => k_is)
    (case l18 => k_is)
    (case c18 => k_is)
    (case k18 => k_is)
    (case a19 => k_is)
    (case l19 => k_is)
    (case c19 => k_is)
    (case k19 => k_is)
    (case a20 => k_is)
    (case l20 => k_is)
    (case c20 => k_is)
    (case k20 => k_is)
    (case a21 => k_is)
    (case l21 => k_is)
    (case c21 => k_is)
    (case k21 => k_is)
    (case a22 => k_is)
    (case l22 => k_is)
    (case c22 => k_is)
    (case k22 => k_is)
    (case a23 => k_is)
    (case l23 => k_is)
    (case c23 => k_is)
    (case k23 => k_is)
    (case a24 => k_is)
    (case l24 => k_is)
    (case c24 => k_is)
    (case k24 => k_is)
    (case a25 => k_is)
    (case l25 => k_is)
    (case c25 => k_is)
    (case k25 => k_is)
    (case z_abs => k_is)
    (case z_all => k_is)
    (case z_bool => k_is)
    (case z_enumerate => k_is)
    (case z_int => k_is)
    (case z_isinstance => k_is)
    (case z_len => k_is)
    (case z_list => k_is)
    (case z_range => k_is)
    (case z_tuple => k_is)
    (case co_STRAIGHT => k_is)
    (case cl_STRAIGHT => k_is)
    (case ct_STRAIGHT => first | k_is | rfl | decide +kernel)
    (case co_TURN => k_is)
    (case cl_TURN => k_is)
    (case ct_TURN => first | k_is | rfl | decide +kernel)

