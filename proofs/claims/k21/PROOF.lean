import PyProof.Rows.All
import Wide.All
import OpenK.AllK
import Wide.FinOn
import HandS.ForMost
import HandS.Deep
import HandS.Conv
import HandS.IsInst
import HandS.TupAny
import HandS.TupMul
import HandS.Zip
import HandS.Style
import KE.SortData
import KE.GoesEnum
import HandS.More
import HandS.TupSets
import HandS.SetFor
import HandS.Strs
import HandS.Nested
import HandS.EndTab
import KE.SortKeyHeap
import KE.KLam
import KE.KNest
import PySem.Challenge.RW_twonamed_k21_whole_kept
set_option Elab.async false
set_option linter.all false
set_option maxRecDepth 100000
set_option maxHeartbeats 8000000
/-! EvA: data in the abstract heap, frozen views, slots. -/
namespace Ev
open PySem PySem.Spec PyProof.Rows L2

/-! ### data at a value -/
mutual
inductive Rp (K : PySem.W.Frag) (H : Hp) : V → PyData → Prop
  | non : Rp K H .non .none
  | bl (b : Bool) : Rp K H (.bl b) (.bool b)
  | int (i : Int) : Rp K H (.int i) (.int i)
  | str (x : Str) : x.length ≤ sizeLine → PyData.strOk x = true → Rp K H (.str x) (.str x)
  | lst {a : Addr} {xs : List V} {ds : List PyData} : SqL K H a xs → xs.length ≤ sizeLine → RpAll K H xs ds → Rp K H (.ref a) (.list ds)
  | tup {a : Addr} {xs : List V} {ds : List PyData} : SqT K H a xs → xs.length ≤ sizeLine → RpAll K H xs ds → Rp K H (.ref a) (.tuple ds)
inductive RpAll (K : PySem.W.Frag) (H : Hp) : List V → List PyData → Prop
  | nil : RpAll K H [] []
  | cons {v : V} {vs : List V} {d : PyData} {ds : List PyData} : Rp K H v d → RpAll K H vs ds → RpAll K H (v :: vs) (d :: ds)
end

theorem sqT_mono {K : PySem.W.Frag} {H H' : Hp} {a : Addr} {xs : List V} (e : Same H H') (h : SqT K H a xs) : SqT K H' a xs := by
  rcases h with (h | ⟨o, h⟩) | h
  · exact .inl (.inl (e _ _ h))
  · exact .inl (.inr ⟨o, e _ _ h⟩)
  · exact .inr h

section
variable {K : PySem.W.Frag} {H H' : Hp}
mutual
theorem Rp.mono (e : Same H H') : ∀ (d : PyData) (v : V), Rp K H v d → Rp K H' v d
  | .none, _, h => by cases h; exact .non
  | .bool _, _, h => by cases h; exact .bl _
  | .int _, _, h => by cases h; exact .int _
  | .str _, _, h => by cases h with | str _ z w => exact .str _ z w
  | .list ds, _, h => by cases h with | lst a z b => exact .lst (e.seq a) z (RpAll.mono e ds _ b)
  | .tuple ds, _, h => by cases h with | tup a z b => exact .tup (sqT_mono e a) z (RpAll.mono e ds _ b)
  | .dict _, _, h => by cases h
theorem RpAll.mono (e : Same H H') : ∀ (ds : List PyData) (vs : List V), RpAll K H vs ds → RpAll K H' vs ds
  | [], _, h => by cases h; exact .nil
  | d :: ds, _, h => by cases h with | cons a b => exact .cons (Rp.mono e d _ a) (RpAll.mono e ds _ b)
end
mutual
theorem Rp.dp : ∀ (d : PyData) (v : V), Rp K H v d → Dp K H v d
  | .none, _, h => by cases h; exact .non
  | .bool _, _, h => by cases h; exact .bl _
  | .int _, _, h => by cases h; exact .int _
  | .str _, _, h => by cases h with | str _ z w => exact .str _
  | .list ds, _, h => by cases h with | lst a z b => exact .lst a (RpAll.dp ds _ b)
  | .tuple ds, _, h => by cases h with | tup a z b => exact .tup a (RpAll.dp ds _ b)
  | .dict _, _, h => by cases h
theorem RpAll.dp : ∀ (ds : List PyData) (vs : List V), RpAll K H vs ds → DpAll K H vs ds
  | [], _, h => by cases h; exact .nil
  | d :: ds, _, h => by cases h with | cons a b => exact .cons (Rp.dp d _ a) (RpAll.dp ds _ b)
end
mutual
theorem Rp.lay : ∀ (d : PyData) (v : V), Rp K H v d → d.canLay0 = true
  | .none, _, h => by cases h; simp [PyData.canLay0]
  | .bool _, _, h => by cases h; simp [PyData.canLay0]
  | .int _, _, h => by cases h; simp [PyData.canLay0]
  | .str _, _, h => by cases h with | str _ z w => simp [PyData.canLay0, w]
  | .list ds, _, h => by cases h with | lst a z b => simp only [PyData.canLay0]; exact RpAll.lay ds _ b
  | .tuple ds, _, h => by cases h with | tup a z b => simp only [PyData.canLay0]; exact RpAll.lay ds _ b
  | .dict _, _, h => by cases h
theorem RpAll.lay : ∀ (ds : List PyData) (vs : List V), RpAll K H vs ds → PyData.canLayAll0 ds = true
  | [], _, h => by simp [PyData.canLayAll0]
  | d :: ds, _, h => by
    cases h with
    | cons a b =>
      simp only [PyData.canLayAll0, Bool.and_eq_true]
      exact ⟨Rp.lay d _ a, RpAll.lay ds _ b⟩
end
theorem RpAll.length : ∀ {ds : List PyData} {vs : List V}, RpAll K H vs ds → vs.length = ds.length
  | [], _, h => by cases h; rfl
  | _ :: ds, _, h => by cases h with | cons a b => simp only [List.length_cons, RpAll.length b]
theorem RpAll.get : ∀ {ds : List PyData} {vs : List V} {i : Nat} {d : PyData}, RpAll K H vs ds → ds[i]? = some d → ∃ v, vs[i]? = some v ∧ Rp K H v d
  | [], _, _, _, _, e => by simp at e
  | d :: ds, _, 0, _, h, e => by
    cases h with
    | cons a b =>
      have : d = _ := Option.some.inj (by simpa using e)
      subst this
      exact ⟨_, rfl, a⟩
  | d :: ds, _, i + 1, _, h, e => by
    cases h with
    | cons a b =>
      obtain ⟨v, h1, h2⟩ := RpAll.get (i := i) b (by simpa using e)
      exact ⟨v, by simpa using h1, h2⟩
theorem RpAll.getV : ∀ {ds : List PyData} {vs : List V} {i : Nat} {v : V}, RpAll K H vs ds → vs[i]? = some v → ∃ d, ds[i]? = some d ∧ Rp K H v d
  | [], _, _, _, h, e => by cases h; simp at e
  | d :: ds, _, 0, _, h, e => by
    cases h with
    | cons a b =>
      have := Option.some.inj (by simpa using e)
      subst this
      exact ⟨d, rfl, a⟩
  | d :: ds, _, i + 1, _, h, e => by
    cases h with
    | cons a b =>
      obtain ⟨v, h1, h2⟩ := RpAll.getV (i := i) b (by simpa using e)
      exact ⟨v, by simpa using h1, h2⟩
theorem RpAll.append : ∀ {ds es : List PyData} {vs us : List V}, RpAll K H vs ds → RpAll K H us es → RpAll K H (vs ++ us) (ds ++ es)
  | [], _, _, _, h, g => by cases h; exact g
  | _ :: _, _, _, _, h, g => by cases h with | cons a b => exact .cons a (RpAll.append b g)
theorem RpAll.take : ∀ (n : Nat) {ds : List PyData} {vs : List V}, RpAll K H vs ds → RpAll K H (vs.take n) (ds.take n)
  | 0, _, _, _ => by simp; exact .nil
  | _ + 1, [], _, h => by cases h; exact .nil
  | n + 1, _ :: _, _, h => by cases h with | cons a b => exact .cons a (RpAll.take n b)
theorem RpAll.drop : ∀ (n : Nat) {ds : List PyData} {vs : List V}, RpAll K H vs ds → RpAll K H (vs.drop n) (ds.drop n)
  | 0, _, _, h => by simpa using h
  | _ + 1, [], _, h => by cases h; exact .nil
  | n + 1, _ :: _, _, h => by cases h with | cons a b => exact RpAll.drop n b
theorem RpAll.reverse : ∀ {ds : List PyData} {vs : List V}, RpAll K H vs ds → RpAll K H vs.reverse ds.reverse
  | [], _, h => by cases h; exact .nil
  | _ :: _, _, h => by
    cases h with
    | cons a b =>
      rw [List.reverse_cons, List.reverse_cons]
      exact RpAll.append (RpAll.reverse b) (.cons a .nil)
theorem RpAll.rep : ∀ (n : Nat) {ds : List PyData} {vs : List V}, RpAll K H vs ds → RpAll K H (List.replicate n vs).flatten (List.replicate n ds).flatten
  | 0, _, _, _ => by simp; exact .nil
  | n + 1, _, _, h => by
    rw [List.replicate_succ, List.replicate_succ, List.flatten_cons, List.flatten_cons]
    exact RpAll.append h (RpAll.rep n h)
theorem RpAll.ints : ∀ {ns : List Int} {vs : List V}, RpAll K H vs (ns.map PyData.int) → vs = ns.map V.int
  | [], _, h => by cases h; rfl
  | _ :: _, _, h => by
    cases h with
    | cons a b =>
      cases a
      rw [RpAll.ints b]; rfl
theorem RpAll.of_ints : ∀ (ns : List Int), RpAll K H (ns.map V.int) (ns.map PyData.int)
  | [] => .nil
  | _ :: r => .cons (.int _) (RpAll.of_ints r)
theorem RpAll.bls : ∀ {ns : List Bool} {vs : List V}, RpAll K H vs (ns.map PyData.bool) → vs = ns.map V.bl
  | [], _, h => by cases h; rfl
  | _ :: _, _, h => by
    cases h with
    | cons a b =>
      cases a
      rw [RpAll.bls b]; rfl
theorem RpAll.strs : ∀ {ns : List Str} {vs : List V}, RpAll K H vs (ns.map PyData.str) → vs = ns.map V.str
  | [], _, h => by cases h; rfl
  | _ :: _, _, h => by
    cases h with
    | cons a b =>
      cases a
      rw [RpAll.strs b]; rfl
end

/-! ### the heap grows, and its frozen part -/
/-- all but tables of code objects and things told by their object: these alone may change behind one's back -/
def hard : HO → Prop
  | .ext _ => False
  | .tbl _ => False
  | _ => True
/-- what a law keeps in mind of the heap, and what may change -/
class Memo where
  inv : Hp → Hp → Prop
  may : Hp → Addr → Prop
  may_mono {Hf Hf' : Hp} {p : Addr} : Same Hf Hf' → may Hf p → may Hf' p
  may_upd {Hf : Hp} {p q : Addr} {o : HO} : Hf p = none → (∀ C dx fs, o ≠ .ins C dx fs) → may (upd Hf p o) q → may Hf q
  may_ext {H Hf : Hp} {p : Addr} : inv H Hf → may Hf p → ∃ φ, H p = some (.ext φ)
  inv_alloc {H Hf : Hp} {p : Addr} (o : HO) : H p = none → inv H Hf → inv (upd H p o) Hf
  inv_frz {H Hf : Hp} {p : Addr} (o : HO) : Hf p = none → (∃ u, H p = some u ∧ hard u) → (∀ C dx fs, o ≠ .ins C dx fs) → inv H Hf → inv H (upd Hf p o)
  inv_put {H Hf : Hp} {p : Addr} {o : HO} (o' : HO) : H p = some o → hard o → hard o' → Hf p = none → inv H Hf → inv (upd H p o') Hf
variable [Memo]
structure Sub (H Hf : Hp) : Prop where
  same : Same Hf H
  inv : Memo.inv H Hf
  hd : ∀ p o, Hf p = some o → hard o
instance {H Hf : Hp} : Coe (Sub H Hf) (Same Hf H) := ⟨Sub.same⟩
theorem Sub.seq {K : PySem.W.Frag} {H Hf : Hp} {a : Addr} {xs : List V} (s : Sub H Hf) (h : SqL K Hf a xs) : SqL K H a xs := s.same.seq h
theorem Sub.free {H Hf : Hp} (s : Sub H Hf) {p : Addr} (h : H p = none) : Hf p = none := s.same.free h
/-- what is hard stands -/
def HardS (H H' : Hp) : Prop := ∀ p o, hard o → H p = some o → H' p = some o
theorem Same.hs {H H' : Hp} (s : Same H H') : HardS H H' := fun p o _ h => s p o h
theorem HardS.trans {H H1 H2 : Hp} (a : HardS H H1) (b : HardS H1 H2) : HardS H H2 := fun p o h q => b p o h (a p o h q)
theorem HardS.seq {K : PySem.W.Frag} {H H' : Hp} {a : Addr} {xs : List V} (e : HardS H H') (h : SqL K H a xs) : SqL K H' a xs := by
  rcases h with (h | ⟨o, h⟩) | h
  · exact .inl (.inl (e _ _ trivial h))
  · exact .inl (.inr ⟨o, e _ _ trivial h⟩)
  · exact .inr h
theorem HardS.sqT {K : PySem.W.Frag} {H H' : Hp} {a : Addr} {xs : List V} (e : HardS H H') (h : SqT K H a xs) : SqT K H' a xs := by
  rcases h with (h | ⟨o, h⟩) | h
  · exact .inl (.inl (e _ _ trivial h))
  · exact .inl (.inr ⟨o, e _ _ trivial h⟩)
  · exact .inr h
def Grow (H Hf H' : Hp) : Prop := ∀ p o, H p = some o → H' p = some o ∨ (Memo.may Hf p ∧ ∃ φ, H' p = some (.ext φ)) ∨ ∃ ps qs, o = .tbl ps ∧ H' p = some (.tbl qs)
structure Ext (H Hf H' Hf' : Hp) : Prop where
  gr : Grow H Hf H'
  fr : Same Hf Hf'
  i0 : Sub H Hf
  sub : Sub H' Hf'
  new : ∀ p o, Hf' p = some o → Hf p = some o ∨ H p = none
  mn : ∀ p, Memo.may Hf' p → Memo.may Hf p ∨ H p = none
theorem Grow.refl (H Hf : Hp) : Grow H Hf H := fun _ _ h => .inl h
theorem Ext.refl {H Hf : Hp} (s : Sub H Hf) : Ext H Hf H Hf := ⟨Grow.refl _ _, Same.refl _, s, s, fun _ _ h => .inl h, fun _ h => .inl h⟩
theorem Ext.hs {H Hf H' Hf' : Hp} (e : Ext H Hf H' Hf') : HardS H H' := fun p o ho h => by
  rcases e.gr p o h with z | ⟨z, _⟩ | ⟨ps, qs, z, _⟩
  · exact z
  · obtain ⟨φ, q⟩ := Memo.may_ext e.i0.inv z
    rw [h] at q
    cases q
    exact ho.elim
  · subst z; exact ho.elim
theorem Ext.lst {H Hf H' Hf' : Hp} (e : Ext H Hf H' Hf') {p : Addr} {vs : List V} (h : H p = some (.lst vs)) : H' p = some (.lst vs) := e.hs _ _ trivial h
theorem Ext.free {H Hf H' Hf' : Hp} (e : Ext H Hf H' Hf') {p : Addr} (h : H' p = none) : H p = none := by
  cases q : H p with
  | none => rfl
  | some o =>
    rcases e.gr p o q with z | ⟨_, φ, z⟩ | ⟨ps, qs, _, z⟩ <;> (rw [h] at z; cases z)
theorem Ext.trans {H Hf H1 Hf1 H2 Hf2 : Hp} (a : Ext H Hf H1 Hf1) (b : Ext H1 Hf1 H2 Hf2) : Ext H Hf H2 Hf2 :=
  ⟨fun p o h => by
    rcases a.gr p o h with z | ⟨z1, φ, z2⟩ | ⟨ps, qs, rfl, z⟩
    · rcases b.gr p o z with y | ⟨y1, φ, y2⟩ | ⟨ps, qs, rfl, y⟩
      · exact .inl y
      · refine .inr (.inl ⟨?_, φ, y2⟩)
        rcases a.mn p y1 with w | w
        · exact w
        · rw [w] at h; cases h
      · exact .inr (.inr ⟨ps, qs, rfl, y⟩)
    · rcases b.gr p _ z2 with y | ⟨y1, ψ, y2⟩ | ⟨ps, qs, y, _⟩
      · exact .inr (.inl ⟨z1, φ, y⟩)
      · exact .inr (.inl ⟨z1, ψ, y2⟩)
      · cases y
    · rcases b.gr p _ z with y | ⟨y1, φ, y2⟩ | ⟨ps', qs', e, y⟩
      · exact .inr (.inr ⟨ps, qs, rfl, y⟩)
      · obtain ⟨ψ, q⟩ := Memo.may_ext b.i0.inv y1
        rw [z] at q; cases q
      · exact .inr (.inr ⟨ps, qs', rfl, y⟩), a.fr.trans b.fr, a.i0, b.sub, fun p o h => by
    rcases b.new p o h with h | h
    · exact a.new p o h
    · exact .inr (a.free h), fun p h => by
    rcases b.mn p h with h | h
    · exact a.mn p h
    · exact .inr (a.free h)⟩
theorem same_upd {H : Hp} {p : Addr} (h : H p = none) (o : HO) : Same H (upd H p o) := fun b u q => by rw [upd_ne (ne_of_none q h)]; exact q
theorem same_put {H Hf : Hp} {p : Addr} (hf : Hf p = none) (o : HO) (s : Same Hf H) : Same Hf (upd H p o) := fun b u q => by
  rw [upd_ne (fun e => by subst e; rw [hf] at q; cases q)]; exact s _ _ q
theorem sub_none {H Hf : Hp} (s : Sub H Hf) {p : Addr} (h : H p = none) : Hf p = none := s.free h
/-- a new object that is not frozen yet -/
theorem Ext.allocO {H Hf : Hp} (s : Sub H Hf) {p : Addr} (h : H p = none) (o : HO) : Ext H Hf (upd H p o) Hf :=
  ⟨fun b u q => .inl (same_upd h o b u q), Same.refl _, s, ⟨same_put (sub_none s h) o s, Memo.inv_alloc o h s.inv, s.hd⟩, fun b u q => .inl q, fun _ q => .inl q⟩
/-- a new object is frozen later -/
theorem Sub.freeze {H Hf : Hp} (s : Sub H Hf) {p : Addr} {o : HO} (h : H p = some o) (hf : Hf p = none) (ho : hard o := by trivial) (hi : ∀ C dx fs, o ≠ .ins C dx fs := by intro _ _ _ z; cases z) : Same Hf (upd Hf p o) ∧ Sub H (upd Hf p o) :=
  ⟨same_upd hf o, fun b u q => by
    by_cases e : b = p
    · subst e; rw [upd_same] at q; rw [← q]; exact h
    · rw [upd_ne e] at q; exact s.same _ _ q, Memo.inv_frz o hf ⟨o, h, ho⟩ hi s.inv, fun b u q => by
    by_cases e : b = p
    · subst e; rw [upd_same] at q; cases q; exact ho
    · rw [upd_ne e] at q; exact s.hd b u q⟩
theorem may_freeze {Hf : Hp} {p q : Addr} {o : HO} (hf : Hf p = none) (hi : ∀ C dx fs, o ≠ .ins C dx fs) (h : Memo.may (upd Hf p o) q) : Memo.may Hf q := Memo.may_upd hf hi h
theorem Ext.alloc {H Hf : Hp} (s : Sub H Hf) {p : Addr} (h : H p = none) (o : HO) (ho : hard o := by trivial) (hi : ∀ C dx fs, o ≠ .ins C dx fs := by intro _ _ _ z; cases z) : Ext H Hf (upd H p o) (upd Hf p o) :=
  have e := Ext.allocO s h o
  have f := e.sub.freeze (p := p) upd_same (sub_none s h) ho hi
  ⟨e.gr, f.1, s, f.2, fun b u q => by
    by_cases c : b = p
    · subst c; exact .inr h
    · rw [upd_ne c] at q; exact .inl q, fun q z => .inl (Memo.may_upd (sub_none s h) hi z)⟩
/-- what is not frozen changes, behind e -/
theorem Ext.poke {H0 Hf0 H Hf : Hp} {p : Addr} {o : HO} (o' : HO) (e : Ext H0 Hf0 H Hf) (h0 : H0 p = none) (hn : Hf p = none) (hp : H p = some o) (ho : hard o := by trivial) (ho' : hard o' := by trivial) : Ext H0 Hf0 (upd H p o') Hf :=
  ⟨fun b u q => by rw [upd_ne (ne_of_none q h0)]; exact e.gr b u q, e.fr, e.i0, ⟨same_put hn o' e.sub, Memo.inv_put o' hp ho ho' hn e.sub.inv, e.sub.hd⟩, e.new, e.mn⟩
/-- frozen, behind e -/
theorem Ext.frz {H0 Hf0 H Hf : Hp} {p : Addr} {o : HO} (e : Ext H0 Hf0 H Hf) (h0 : H0 p = none) (hn : Hf p = none) (hp : H p = some o) (ho : hard o := by trivial) (hi : ∀ C dx fs, o ≠ .ins C dx fs := by intro _ _ _ z; cases z) : Ext H0 Hf0 H (upd Hf p o) :=
  have f := e.sub.freeze hp hn ho hi
  ⟨e.gr, e.fr.trans f.1, e.i0, f.2, fun b u q => by
    by_cases c : b = p
    · subst c; exact .inr h0
    · rw [upd_ne c] at q; exact e.new b u q, fun q z => e.mn q (Memo.may_upd hn hi z)⟩

/-! ### slots -/
inductive Sl where
  | un
  | val (d : PyData)
  | own (ds : List PyData)
  | dic (ks : List Str) (ds : List PyData)
abbrev Rho := List Sl
def kvOf : List Str → List V → List (L2.Key × V)
  | k :: ks, v :: vs => (.inr k, v) :: kvOf ks vs
  | _, _ => []
/-- a dict with texts as keys, which never changes -/
def DicAt (K : PySem.W.Frag) (H : Hp) (v : V) (ks : List Str) (ds : List PyData) : Prop := ∃ p vs, v = .ref p ∧ H p = some (.dK (kvOf ks vs)) ∧ RpAll K H vs ds
theorem DicAt.mono {K : PySem.W.Frag} {H H' : Hp} {v : V} {ks : List Str} {ds : List PyData} (d : DicAt K H v ks ds) (e : Same H H') : DicAt K H' v ks ds :=
  let ⟨p, vs, h1, h2, h3⟩ := d; ⟨p, vs, h1, e _ _ h2, h3.mono e _ _⟩

structure ER (K : PySem.W.Frag) (σ : L2.St) (H Hf : Hp) (ρ : Rho) : Prop where
  len : ρ.length = σ.length
  sub : Sub H Hf
  val : ∀ (i : Nat) d, ρ[i]? = some (.val d) → ∃ v, σ[i]? = some (some v) ∧ Rp K Hf v d
  own : ∀ (i : Nat) ds, ρ[i]? = some (.own ds) → ∃ p vs, σ[i]? = some (some (.ref p)) ∧ H p = some (.lst vs) ∧ vs.length ≤ sizeLine ∧ RpAll K Hf vs ds ∧ Hf p = none
  inj : ∀ (i j : Nat) p di dj, ρ[i]? = some (.own di) → ρ[j]? = some (.own dj) → σ[i]? = some (some (.ref p)) → σ[j]? = some (some (.ref p)) → i = j
  dic : ∀ (i : Nat) ks ds, ρ[i]? = some (.dic ks ds) → ∃ v, σ[i]? = some (some v) ∧ DicAt K Hf v ks ds
section
variable {K : PySem.W.Frag} {σ : L2.St} {H Hf H' Hf' : Hp} {ρ : Rho}
theorem ER.ext (r : ER K σ H Hf ρ) (e : Ext H Hf H' Hf') : ER K σ H' Hf' ρ where
  len := r.len
  sub := e.sub
  val := fun i d h => by
    obtain ⟨v, h1, h2⟩ := r.val i d h
    exact ⟨v, h1, h2.mono e.fr _ _⟩
  own := fun i ds h => by
    obtain ⟨p, vs, h1, h2, h3, h4, h5⟩ := r.own i ds h
    refine ⟨p, vs, h1, e.hs _ _ trivial h2, h3, h4.mono e.fr _ _, ?_⟩
    cases q : Hf' p with
    | none => rfl
    | some o =>
      rcases e.new p o q with z | z
      · rw [h5] at z; cases z
      · rw [h2] at z; cases z
  inj := r.inj
  dic := fun i ks ds h => by
    obtain ⟨v, h1, h2⟩ := r.dic i ks ds h
    exact ⟨v, h1, h2.mono e.fr⟩
/-- a slot is given a value -/
theorem ER.set (r : ER K σ H Hf ρ) {i : Nat} {v : V} {d : PyData} (hv : Rp K Hf v d) : ER K (σ.set i (some v)) H Hf (ρ.set i (.val d)) where
  len := by simp [r.len]
  sub := r.sub
  val := fun j e h => by
    by_cases hj : i = j
    · subst hj
      by_cases hl : i < ρ.length
      · rw [List.getElem?_set_self hl] at h
        cases h
        exact ⟨v, List.getElem?_set_self (by rw [← r.len]; exact hl), hv⟩
      · rw [List.getElem?_eq_none (by simpa using hl)] at h; cases h
    · rw [List.getElem?_set_ne hj] at h
      obtain ⟨u, h1, h2⟩ := r.val j e h
      exact ⟨u, by rw [List.getElem?_set_ne hj]; exact h1, h2⟩
  own := fun j ds h => by
    by_cases hj : i = j
    · subst hj
      by_cases hl : i < ρ.length
      · rw [List.getElem?_set_self hl] at h; cases h
      · rw [List.getElem?_eq_none (by simpa using hl)] at h; cases h
    · rw [List.getElem?_set_ne hj] at h
      obtain ⟨p, vs, h1, h2⟩ := r.own j ds h
      exact ⟨p, vs, by rw [List.getElem?_set_ne hj]; exact h1, h2⟩
  inj := fun j k p dj dk hj hk => by
    by_cases e1 : i = j
    · subst e1
      by_cases hl : i < ρ.length
      · rw [List.getElem?_set_self hl] at hj; cases hj
      · rw [List.getElem?_eq_none (by simpa using hl)] at hj; cases hj
    · by_cases e2 : i = k
      · subst e2
        by_cases hl : i < ρ.length
        · rw [List.getElem?_set_self hl] at hk; cases hk
        · rw [List.getElem?_eq_none (by simpa using hl)] at hk; cases hk
      · rw [List.getElem?_set_ne e1] at hj ⊢
        rw [List.getElem?_set_ne e2] at hk ⊢
        exact r.inj j k p dj dk hj hk
  dic := fun j ks es h => by
    by_cases hj : i = j
    · subst hj
      by_cases hl : i < ρ.length
      · rw [List.getElem?_set_self hl] at h; cases h
      · rw [List.getElem?_eq_none (by simpa using hl)] at h; cases h
    · rw [List.getElem?_set_ne hj] at h
      obtain ⟨u, h1, h2⟩ := r.dic j ks es h
      exact ⟨u, by rw [List.getElem?_set_ne hj]; exact h1, h2⟩
theorem ER.setD (r : ER K σ H Hf ρ) {i : Nat} {v : V} {ks0 : List Str} {ds0 : List PyData} (hv : DicAt K Hf v ks0 ds0) : ER K (σ.set i (some v)) H Hf (ρ.set i (.dic ks0 ds0)) where
  len := by simp [r.len]
  sub := r.sub
  val := fun j e h => by
    by_cases hj : i = j
    · subst hj
      by_cases hl : i < ρ.length
      · rw [List.getElem?_set_self hl] at h; cases h
      · rw [List.getElem?_eq_none (by simpa using hl)] at h; cases h
    · rw [List.getElem?_set_ne hj] at h
      obtain ⟨u, h1, h2⟩ := r.val j e h
      exact ⟨u, by rw [List.getElem?_set_ne hj]; exact h1, h2⟩
  own := fun j ds h => by
    by_cases hj : i = j
    · subst hj
      by_cases hl : i < ρ.length
      · rw [List.getElem?_set_self hl] at h; cases h
      · rw [List.getElem?_eq_none (by simpa using hl)] at h; cases h
    · rw [List.getElem?_set_ne hj] at h
      obtain ⟨p, vs, h1, h2⟩ := r.own j ds h
      exact ⟨p, vs, by rw [List.getElem?_set_ne hj]; exact h1, h2⟩
  inj := fun j k p dj dk hj hk => by
    by_cases e1 : i = j
    · subst e1
      by_cases hl : i < ρ.length
      · rw [List.getElem?_set_self hl] at hj; cases hj
      · rw [List.getElem?_eq_none (by simpa using hl)] at hj; cases hj
    · by_cases e2 : i = k
      · subst e2
        by_cases hl : i < ρ.length
        · rw [List.getElem?_set_self hl] at hk; cases hk
        · rw [List.getElem?_eq_none (by simpa using hl)] at hk; cases hk
      · rw [List.getElem?_set_ne e1] at hj ⊢
        rw [List.getElem?_set_ne e2] at hk ⊢
        exact r.inj j k p dj dk hj hk
  dic := fun j ks es h => by
    by_cases hj : i = j
    · subst hj
      by_cases hl : i < ρ.length
      · rw [List.getElem?_set_self hl] at h
        cases h
        exact ⟨v, List.getElem?_set_self (by rw [← r.len]; exact hl), hv⟩
      · rw [List.getElem?_eq_none (by simpa using hl)] at h; cases h
    · rw [List.getElem?_set_ne hj] at h
      obtain ⟨u, h1, h2⟩ := r.dic j ks es h
      exact ⟨u, by rw [List.getElem?_set_ne hj]; exact h1, h2⟩
/-- a slot is given a new list of its own -/
theorem ER.setO (r : ER K σ H Hf ρ) {i : Nat} {p : Addr} {vs : List V} {ds : List PyData} (hp : H p = some (.lst vs)) (hz : vs.length ≤ sizeLine) (hv : RpAll K Hf vs ds) (hn : Hf p = none)
    (hnew : ∀ (j : Nat) dj, ρ[j]? = some (.own dj) → σ[j]? ≠ some (some (.ref p))) : ER K (σ.set i (some (.ref p))) H Hf (ρ.set i (.own ds)) where
  len := by simp [r.len]
  sub := r.sub
  val := fun j e h => by
    by_cases hj : i = j
    · subst hj
      by_cases hl : i < ρ.length
      · rw [List.getElem?_set_self hl] at h; cases h
      · rw [List.getElem?_eq_none (by simpa using hl)] at h; cases h
    · rw [List.getElem?_set_ne hj] at h
      obtain ⟨u, h1, h2⟩ := r.val j e h
      exact ⟨u, by rw [List.getElem?_set_ne hj]; exact h1, h2⟩
  own := fun j es h => by
    by_cases hj : i = j
    · subst hj
      by_cases hl : i < ρ.length
      · rw [List.getElem?_set_self hl] at h
        cases h
        exact ⟨p, vs, List.getElem?_set_self (by rw [← r.len]; exact hl), hp, hz, hv, hn⟩
      · rw [List.getElem?_eq_none (by simpa using hl)] at h; cases h
    · rw [List.getElem?_set_ne hj] at h
      obtain ⟨q, us, h1, h2⟩ := r.own j es h
      exact ⟨q, us, by rw [List.getElem?_set_ne hj]; exact h1, h2⟩
  inj := fun j k q dj dk hj hk sj sk => by
    by_cases e1 : i = j
    · subst e1
      by_cases e2 : i = k
      · exact e2
      · by_cases hl : i < σ.length
        · rw [List.getElem?_set_self hl] at sj
          cases sj
          rw [List.getElem?_set_ne e2] at hk sk
          exact absurd sk (hnew k dk hk)
        · rw [List.getElem?_eq_none (by simpa using hl)] at sj; cases sj
    · rw [List.getElem?_set_ne e1] at hj sj
      by_cases e2 : i = k
      · subst e2
        by_cases hl : i < σ.length
        · rw [List.getElem?_set_self hl] at sk
          cases sk
          exact absurd sj (hnew j dj hj)
        · rw [List.getElem?_eq_none (by simpa using hl)] at sk; cases sk
      · rw [List.getElem?_set_ne e2] at hk sk
        exact r.inj j k q dj dk hj hk sj sk
  dic := fun j ks es h => by
    by_cases hj : i = j
    · subst hj
      by_cases hl : i < ρ.length
      · rw [List.getElem?_set_self hl] at h; cases h
      · rw [List.getElem?_eq_none (by simpa using hl)] at h; cases h
    · rw [List.getElem?_set_ne hj] at h
      obtain ⟨u, h1, h2⟩ := r.dic j ks es h
      exact ⟨u, by rw [List.getElem?_set_ne hj]; exact h1, h2⟩
/-- a slot is forgotten -/
theorem ER.unset (r : ER K σ H Hf ρ) {i : Nat} : ER K (σ.set i none) H Hf (ρ.set i .un) where
  len := by simp [r.len]
  sub := r.sub
  val := fun j e h => by
    by_cases hj : i = j
    · subst hj
      by_cases hl : i < ρ.length
      · rw [List.getElem?_set_self hl] at h; cases h
      · rw [List.getElem?_eq_none (by simpa using hl)] at h; cases h
    · rw [List.getElem?_set_ne hj] at h
      obtain ⟨u, h1, h2⟩ := r.val j e h
      exact ⟨u, by rw [List.getElem?_set_ne hj]; exact h1, h2⟩
  own := fun j ds h => by
    by_cases hj : i = j
    · subst hj
      by_cases hl : i < ρ.length
      · rw [List.getElem?_set_self hl] at h; cases h
      · rw [List.getElem?_eq_none (by simpa using hl)] at h; cases h
    · rw [List.getElem?_set_ne hj] at h
      obtain ⟨p, vs, h1, h2⟩ := r.own j ds h
      exact ⟨p, vs, by rw [List.getElem?_set_ne hj]; exact h1, h2⟩
  inj := fun j k p dj dk hj hk => by
    by_cases e1 : i = j
    · subst e1
      by_cases hl : i < ρ.length
      · rw [List.getElem?_set_self hl] at hj; cases hj
      · rw [List.getElem?_eq_none (by simpa using hl)] at hj; cases hj
    · by_cases e2 : i = k
      · subst e2
        by_cases hl : i < ρ.length
        · rw [List.getElem?_set_self hl] at hk; cases hk
        · rw [List.getElem?_eq_none (by simpa using hl)] at hk; cases hk
      · rw [List.getElem?_set_ne e1] at hj ⊢
        rw [List.getElem?_set_ne e2] at hk ⊢
        exact r.inj j k p dj dk hj hk
  dic := fun j ks es h => by
    by_cases hj : i = j
    · subst hj
      by_cases hl : i < ρ.length
      · rw [List.getElem?_set_self hl] at h; cases h
      · rw [List.getElem?_eq_none (by simpa using hl)] at h; cases h
    · rw [List.getElem?_set_ne hj] at h
      obtain ⟨u, h1, h2⟩ := r.dic j ks es h
      exact ⟨u, by rw [List.getElem?_set_ne hj]; exact h1, h2⟩
def wipeR (ρ : Rho) : List Nat → Rho
  | [] => ρ
  | v :: vs => (wipeR ρ vs).set v .un
theorem ER.wipe (r : ER K σ H Hf ρ) : ∀ vs : List Nat, ER K (L2.wipe σ vs) H Hf (wipeR ρ vs)
  | [] => r
  | _ :: vs => (ER.wipe r vs).unset
/-- an own list grows (or changes) -/
theorem ER.mut (r : ER K σ H Hf ρ) {i : Nat} {p : Addr} {vs : List V} {ds es : List PyData} (hi : ρ[i]? = some (.own ds)) (hs : σ[i]? = some (some (.ref p))) (hz : vs.length ≤ sizeLine) (hv : RpAll K Hf vs es) : ER K σ (upd H p (.lst vs)) Hf (ρ.set i (.own es)) := by
  obtain ⟨p', us, h1, h2, h3, h4, h5⟩ := r.own i ds hi
  have e : p' = p := by rw [hs] at h1; cases h1; rfl
  subst e
  have hil : i < ρ.length := (List.getElem?_eq_some_iff.mp hi).1
  have sub' : Sub (upd H p' (.lst vs)) Hf := ⟨same_put h5 _ r.sub, Memo.inv_put _ h2 trivial trivial h5 r.sub.inv, r.sub.hd⟩
  refine ⟨by simp [r.len], sub', fun j d h => ?_, fun j d h => ?_, fun j k q dj dk hj hk => ?_, fun j ks d h => ?_⟩
  · by_cases hj : i = j
    · subst hj; rw [List.getElem?_set_self hil] at h; cases h
    · rw [List.getElem?_set_ne hj] at h
      exact r.val j d h
  · by_cases hj : i = j
    · subst hj; rw [List.getElem?_set_self hil] at h; cases h
      exact ⟨p', vs, hs, upd_same, hz, hv, h5⟩
    · rw [List.getElem?_set_ne hj] at h
      obtain ⟨q, us', g1, g2, g3⟩ := r.own j d h
      have hq : q ≠ p' := fun e => by subst e; exact hj (r.inj i j q ds d hi h hs g1)
      exact ⟨q, us', g1, by rw [upd_ne hq]; exact g2, g3⟩
  · have hj' : ∃ d, ρ[j]? = some (.own d) := by
      by_cases e : i = j
      · subst e; exact ⟨ds, hi⟩
      · rw [List.getElem?_set_ne e] at hj; exact ⟨_, hj⟩
    have hk' : ∃ d, ρ[k]? = some (.own d) := by
      by_cases e : i = k
      · subst e; exact ⟨ds, hi⟩
      · rw [List.getElem?_set_ne e] at hk; exact ⟨_, hk⟩
    obtain ⟨_, hj'⟩ := hj'
    obtain ⟨_, hk'⟩ := hk'
    exact r.inj j k q _ _ hj' hk'
  · by_cases hj : i = j
    · subst hj; rw [List.getElem?_set_self hil] at h; cases h
    · rw [List.getElem?_set_ne hj] at h
      exact r.dic j ks d h
end
/-- an own list becomes a value that never changes again -/
def frz1 : Nat → Rho → Rho
  | _, [] => []
  | 0, .own ds :: r => .val (.list ds) :: r
  | 0, s :: r => s :: r
  | n + 1, s :: r => s :: frz1 n r
theorem frz1_own : ∀ {i : Nat} {ρ : Rho} {ds : List PyData}, ρ[i]? = some (.own ds) → frz1 i ρ = ρ.set i (.val (.list ds))
  | 0, s :: r, ds, h => by
    have e : s = .own ds := by simpa using h
    subst e; rfl
  | i + 1, s :: r, ds, h => by
    rw [frz1, List.set_cons_succ, frz1_own (i := i) (by simpa using h)]
theorem frz1_no : ∀ {i : Nat} {ρ : Rho}, (∀ ds, ρ[i]? ≠ some (.own ds)) → frz1 i ρ = ρ
  | _, [], _ => by cases ‹Nat› <;> rfl
  | 0, .own ds :: r, h => absurd rfl (h ds)
  | 0, .un :: r, h => rfl
  | 0, .val _ :: r, h => rfl
  | 0, .dic _ _ :: r, h => rfl
  | i + 1, s :: r, h => by
    rw [frz1, frz1_no (i := i) fun ds e => h ds (by simpa using e)]
def frzs : List Nat → Rho → Rho
  | [], ρ => ρ
  | i :: l, ρ => frzs l (frz1 i ρ)
/-- H₀, Hf₀: the entry. What stood there stands, own lists are younger -/
structure SR (K : PySem.W.Frag) (H0 Hf0 : Hp) (σ : L2.St) (H Hf : Hp) (ρ : Rho) : Prop where
  er : ER K σ H Hf ρ
  ext : Ext H0 Hf0 H Hf
  ny : ∀ (i : Nat) ds p, ρ[i]? = some (.own ds) → σ[i]? = some (some (.ref p)) → H0 p = none
section
variable {K : PySem.W.Frag} {H0 Hf0 : Hp} {σ : L2.St} {H Hf H' Hf' : Hp} {ρ : Rho}
theorem SR.ext' (r : SR K H0 Hf0 σ H Hf ρ) (e : Ext H Hf H' Hf') : SR K H0 Hf0 σ H' Hf' ρ := ⟨r.er.ext e, r.ext.trans e, r.ny⟩
theorem SR.frz1 (r : SR K H0 Hf0 σ H Hf ρ) (i : Nat) : ∃ Hf', SR K H0 Hf0 σ H Hf' (frz1 i ρ) ∧ Same Hf Hf' := by
  by_cases h : ∃ ds, ρ[i]? = some (.own ds)
  · obtain ⟨ds, h⟩ := h
    rw [frz1_own h]
    obtain ⟨p, vs, h1, h2, h3, h4, h5⟩ := r.er.own i ds h
    have hil : i < ρ.length := (List.getElem?_eq_some_iff.mp h).1
    obtain ⟨s1, s2⟩ := r.er.sub.freeze h2 h5
    refine ⟨upd Hf p (.lst vs), ⟨⟨by simp [r.er.len], s2, fun j d hj => ?_, fun j d hj => ?_, fun j k q dj dk hj hk => ?_, fun j ks d hj => ?_⟩, r.ext.frz (r.ny i ds p h h1) h5 h2, fun j d q hj hq => ?_⟩, s1⟩
    · by_cases e : i = j
      · subst e
        rw [List.getElem?_set_self hil] at hj
        cases hj
        exact ⟨.ref p, h1, .lst (.of upd_same) h3 (h4.mono s1 _ _)⟩
      · rw [List.getElem?_set_ne e] at hj
        obtain ⟨v, g1, g2⟩ := r.er.val j d hj
        exact ⟨v, g1, g2.mono s1 _ _⟩
    · by_cases e : i = j
      · subst e; rw [List.getElem?_set_self hil] at hj; cases hj
      · rw [List.getElem?_set_ne e] at hj
        obtain ⟨q, us, g1, g2, g3, g4, g5⟩ := r.er.own j d hj
        have hq : q ≠ p := fun z => by subst z; exact e (r.er.inj i j q ds d h hj h1 g1)
        exact ⟨q, us, g1, g2, g3, g4.mono s1 _ _, by rw [upd_ne hq]; exact g5⟩
    · by_cases e : i = j
      · subst e; rw [List.getElem?_set_self hil] at hj; cases hj
      · by_cases e' : i = k
        · subst e'; rw [List.getElem?_set_self hil] at hk; cases hk
        · rw [List.getElem?_set_ne e] at hj
          rw [List.getElem?_set_ne e'] at hk
          exact r.er.inj j k q dj dk hj hk
    · by_cases e : i = j
      · subst e; rw [List.getElem?_set_self hil] at hj; cases hj
      · rw [List.getElem?_set_ne e] at hj
        obtain ⟨v, g1, g2⟩ := r.er.dic j ks d hj
        exact ⟨v, g1, g2.mono s1⟩
    · by_cases e : i = j
      · subst e; rw [List.getElem?_set_self hil] at hj; cases hj
      · rw [List.getElem?_set_ne e] at hj; exact r.ny j d q hj hq
  · rw [frz1_no fun ds e => h ⟨ds, e⟩]
    exact ⟨Hf, r, Same.refl _⟩
theorem SR.frzs : ∀ (l : List Nat) {Hf : Hp} {ρ : Rho}, SR K H0 Hf0 σ H Hf ρ → ∃ Hf', SR K H0 Hf0 σ H Hf' (frzs l ρ) ∧ Same Hf Hf'
  | [], Hf, _, r => ⟨Hf, r, Same.refl _⟩
  | i :: l, _, _, r => by
    obtain ⟨Hf1, r1, s1⟩ := r.frz1 i
    obtain ⟨Hf2, r2, s2⟩ := SR.frzs l r1
    exact ⟨Hf2, r2, s1.trans s2⟩
theorem SR.set (r : SR K H0 Hf0 σ H Hf ρ) {i : Nat} {v : V} {d : PyData} (hv : Rp K Hf v d) : SR K H0 Hf0 (σ.set i (some v)) H Hf (ρ.set i (.val d)) :=
  ⟨r.er.set hv, r.ext, fun j ds p hj hp => by
    by_cases e : i = j
    · subst e
      by_cases hl : i < ρ.length
      · rw [List.getElem?_set_self hl] at hj; cases hj
      · rw [List.getElem?_eq_none (by simpa using hl)] at hj; cases hj
    · rw [List.getElem?_set_ne e] at hj hp
      exact r.ny j ds p hj hp⟩
theorem SR.setD (r : SR K H0 Hf0 σ H Hf ρ) {i : Nat} {v : V} {ks0 : List Str} {ds0 : List PyData} (hv : DicAt K Hf v ks0 ds0) : SR K H0 Hf0 (σ.set i (some v)) H Hf (ρ.set i (.dic ks0 ds0)) :=
  ⟨r.er.setD hv, r.ext, fun j ds p hj hp => by
    by_cases e : i = j
    · subst e
      by_cases hl : i < ρ.length
      · rw [List.getElem?_set_self hl] at hj; cases hj
      · rw [List.getElem?_eq_none (by simpa using hl)] at hj; cases hj
    · rw [List.getElem?_set_ne e] at hj hp
      exact r.ny j ds p hj hp⟩
theorem SR.setO (r : SR K H0 Hf0 σ H Hf ρ) {i : Nat} {p : Addr} {vs : List V} {ds : List PyData} (hp : H p = some (.lst vs)) (hz : vs.length ≤ sizeLine) (hv : RpAll K Hf vs ds) (hn : Hf p = none) (h0 : H0 p = none)
    (hnew : ∀ (j : Nat) dj, ρ[j]? = some (.own dj) → σ[j]? ≠ some (some (.ref p))) : SR K H0 Hf0 (σ.set i (some (.ref p))) H Hf (ρ.set i (.own ds)) :=
  ⟨r.er.setO hp hz hv hn hnew, r.ext, fun j d q hj hq => by
    by_cases e : i = j
    · subst e
      by_cases hl : i < σ.length
      · rw [List.getElem?_set_self hl] at hq; cases hq; exact h0
      · rw [List.getElem?_eq_none (by simpa using hl)] at hq; cases hq
    · rw [List.getElem?_set_ne e] at hj hq
      exact r.ny j d q hj hq⟩
theorem SR.mut (r : SR K H0 Hf0 σ H Hf ρ) {i : Nat} {p : Addr} {vs : List V} {ds es : List PyData} (hi : ρ[i]? = some (.own ds)) (hs : σ[i]? = some (some (.ref p))) (hz : vs.length ≤ sizeLine) (hv : RpAll K Hf vs es) : SR K H0 Hf0 σ (upd H p (.lst vs)) Hf (ρ.set i (.own es)) := by
  have h0 := r.ny i ds p hi hs
  have e := r.er.mut hi hs hz hv
  obtain ⟨p', us, h1, h2, h3, h4, h5⟩ := r.er.own i ds hi
  have ep : p' = p := by rw [hs] at h1; cases h1; rfl
  subst ep
  refine ⟨e, r.ext.poke _ h0 h5 h2, fun j d q hj hq => ?_⟩
  by_cases e : i = j
  · subst e; rw [hs] at hq; cases hq; exact h0
  · rw [List.getElem?_set_ne e] at hj; exact r.ny j d q hj hq
end
end Ev

/-! EvB: a small language of pure programs and what it computes. -/
namespace Ev
open PySem L2

inductive BOp where
  | add | sub | mul | fdiv | mod | pow
  deriving DecidableEq
inductive COp where
  | eq | ne | lt | le | gt | ge | isin | notin
  deriving DecidableEq
inductive Blt where
  | len | int | tuple | list | sorted | all | any | str
  deriving DecidableEq
inductive Ty where
  | int | str | bool | tuple | list
  deriving DecidableEq
inductive Tg where
  | nm (i : Nat)
  | tp (is : List Nat)

mutual
inductive PX where
  | var (i : Nat)
  | lit (d : PyData)
  | glb (g : Nat)
  | bin (op : BOp) (a b : PX)
  | neg (a : PX)
  | not (a : PX)
  | and (a b : PX)
  | or (a b : PX)
  | cmp (op : COp) (a b : PX)
  | isN (ng : Bool) (a : PX)
  | chain (o1 o2 : COp) (a b c : PX)
  | ife (c a b : PX)
  | tup (es : PXs)
  | lst (es : PXs)
  | ix (a i : PX)
  | slc (a lo hi : PX)
  | omit
  | rev (a : PX)
  | call (f : Nat) (es : PXs)
  | blt (b : Blt) (a : PX)
  | isI (a : PX) (t : Ty)
  | join (o a : PX)
  | index (o a : PX)
  | lc (ws : List Nat) (elt : PX) (tg : Tg) (it : PIt) (c : PX)
  | pick (ks : List Str) (es : PXs) (k : PX)
  | getd (ks : List Str) (es : PXs) (k d : PX)
  | pickV (i : Nat) (k : PX)
  | rngL (a : PX)
  | inG (neg : Bool) (k : PX) (g : Nat)
  | pickG (g : Nat) (k : PX)
  | sset (a : PX)
inductive PXs where
  | nil
  | cons (e : PX) (es : PXs)
inductive PIt where
  | seq (a : PX)
  | rng1 (a : PX)
  | rng2 (a b : PX)
  | enum (a : PX)
  | zip (a b : PX)
end

mutual
inductive QS where
  | set (fz : List Nat) (i : Nat) (e : PX)
  | setO (fz : List Nat) (i : Nat) (e : PX)
  | setT (fz : List Nat) (is : List Nat) (e : PX)
  | setD (fz : List Nat) (i : Nat) (ks : List Str) (es : PXs)
  | app (fz : List Nat) (i : Nat) (e : PX)
  | ext (fz : List Nat) (i : Nat) (e : PX)
  | iff (fz : List Nat) (c : PX) (a b : QSs)
  | for (fz : List Nat) (tg : Tg) (it : PIt) (b : QSs)
  | ret (fz : List Nat) (e : PX)
  | srt (fz : List Nat) (i : Nat) (tup : Bool) (a : PX) (js : List Nat) (ln : List Str) (b : PX)
  | retN
  | pass
inductive QSs where
  | nil
  | cons (s : QS) (r : QSs)
end

/-! ### operators on data -/
def catOk (a b : Nat) : Bool := decide (a + b ≤ sizeLine)
/- told over Nat.ble, which the kernel leaves alone where the number is not known -/
def rng (a : Int) : Bool := Nat.ble a.natAbs 18446744073709551615
theorem rng_iff {a : Int} : rng a = true ↔ -(2 ^ 64) < a ∧ a < 2 ^ 64 := by
  unfold rng
  rw [Nat.ble_eq]
  omega
def bop : BOp → PyData → PyData → Option PyData
  | .add, .int a, .int b => some (.int (a + b))
  | .add, .str a, .str b => if catOk a.length b.length then some (.str (a ++ b)) else none
  | .add, .tuple a, .tuple b => if catOk a.length b.length then some (.tuple (a ++ b)) else none
  | .add, .list a, .list b => if catOk a.length b.length then some (.list (a ++ b)) else none
  | .sub, .int a, .int b => some (.int (a - b))
  | .mul, .int a, .int b => if rng a || rng b then some (.int (a * b)) else none
  | .mul, .list a, .int k => if decide (-(2 ^ 63) ≤ k) && decide (k < 2 ^ 63) && decide (a.length * k.toNat ≤ sizeLine) then some (.list (List.replicate k.toNat a).flatten) else none
  | .mul, .tuple a, .int k => if !a.isEmpty && decide (2 ≤ k) && decide (k ≤ 1000) && decide (a.length ≤ 1000) then some (.tuple (List.replicate k.toNat a).flatten) else none
  | .fdiv, .int a, .int b => if decide (0 < b) && decide (b < 1073741824) then some (.int (a / b)) else none
  | .mod, .int a, .int b => if decide (0 < b) then some (.int (a % b)) else none
  | .pow, .int a, .int b => if decide (0 ≤ b) && decide (b ≤ 1000000) && decide (a.natAbs < 2 ^ 64) then some (.int (a ^ b.toNat)) else none
  | _, _, _ => none

def intsOf : List PyData → Option (List Int)
  | [] => some []
  | .int i :: r => (intsOf r).map (i :: ·)
  | _ :: _ => none
def boolsOf : List PyData → Option (List Bool)
  | [] => some []
  | .bool i :: r => (boolsOf r).map (i :: ·)
  | _ :: _ => none
def strsOf : List PyData → Option (List Str)
  | [] => some []
  | .str i :: r => (strsOf r).map (i :: ·)
  | _ :: _ => none

def eqOk (a b : PyData) : Bool := decide (min a.depth b.depth ≤ 64)
def inOk (xs : List PyData) (b : PyData) : Bool := decide (min (PyData.depthAll xs) b.depth ≤ 64)
def cop : COp → PyData → PyData → Option Bool
  | .eq, a, b => if eqOk a b then some (PyData.eqv a b) else none
  | .ne, a, b => if eqOk a b then some (!PyData.eqv a b) else none
  | .lt, .int a, .int b => some (decide (a < b))
  | .le, .int a, .int b => some (decide (a ≤ b))
  | .gt, .int a, .int b => some (decide (b < a))
  | .ge, .int a, .int b => some (decide (b ≤ a))
  | .lt, .tuple a, .tuple b => (intsOf a).bind fun x => (intsOf b).map fun y => HT.lexLt x y
  | .isin, a, .list b => if inOk b a then some (b.any fun z => PyData.eqv z a) else none
  | .isin, a, .tuple b => if inOk b a then some (b.any fun z => PyData.eqv z a) else none
  | .notin, a, .list b => if inOk b a then some (!b.any fun z => PyData.eqv z a) else none
  | .notin, a, .tuple b => if inOk b a then some (!b.any fun z => PyData.eqv z a) else none
  | _, _, _ => none

def isTy : Ty → PyData → Bool
  | .int, .int _ => true
  | .int, .bool _ => true
  | .bool, .bool _ => true
  | .str, .str _ => true
  | .tuple, .tuple _ => true
  | .list, .list _ => true
  | _, _ => false

def allDepth (n : Nat) : List PyData → Bool
  | [] => true
  | d :: r => decide (d.depth ≤ n) && allDepth n r
/-- what sorted can order: all alike, and all tuples with an item or none a tuple; not deep -/
def neTup : PyData → Bool
  | .tuple (_ :: _) => true
  | _ => false
def noTup : PyData → Bool
  | .tuple _ => false
  | .none => false
  | _ => true
def sortOk (ds : List PyData) : Bool := (ds.all fun d => ds.all fun e => PySem.W.alike d e) && (ds.all neTup || ds.all noTup) && ds.all fun d => decide (d.depth ≤ 60)
def sortD (ds : List PyData) : List PyData := ds.mergeSort (PySem.W.dataLe false id)
def blt : Blt → PyData → Option PyData
  | .len, .list a => some (.int a.length)
  | .len, .tuple a => some (.int a.length)
  | .len, .str a => some (.int a.length)
  | .int, .int a => some (.int a)
  | .int, .bool b => some (.int (if b then 1 else 0))
  | .tuple, .list a => some (.tuple a)
  | .tuple, .tuple a => some (.tuple a)
  | .list, .list a => some (.list a)
  | .list, .tuple a => some (.list a)
  | .all, .list a => (boolsOf a).map fun b => .bool (b.all id)
  | .any, .list a => (boolsOf a).map fun b => .bool (b.any id)
  | .sorted, .list a => if sortOk a then some (.list (sortD a)) else none
  | .sorted, .tuple a => if sortOk a then some (.list (sortD a)) else none
  | .str, .int a => if decide (0 ≤ a) && decide (a ≤ 9) then some (.str ⟨#[48 + a.toNat]⟩) else none
  | _, _ => none

def ixD : PyData → PyData → Option PyData
  | .list a, .int i => atI a i
  | .tuple a, .int i => atI a i
  | .str a, .int i => (atI a.cps.toList i).map fun c => .str ⟨#[c]⟩
  | _, _ => none
def cutD (xs : List PyData) (lo hi : Option Int) : List PyData := (xs.drop (HT.sIx xs.length 0 lo)).take (HT.sIx xs.length xs.length hi - HT.sIx xs.length 0 lo)
def slD : PyData → Option Int → Option Int → Option PyData
  | .list a, lo, hi => some (.list (cutD a lo hi))
  | .tuple a, lo, hi => some (.tuple (cutD a lo hi))
  | _, _, _ => none
def intOf : PyData → Option Int
  | .int i => some i
  | _ => none
def revD : PyData → Option PyData
  | .list a => some (.list a.reverse)
  | .tuple a => some (.tuple a.reverse)
  | _ => none
def rgD (n : Int) : List PyData := (List.range n.toNat).map fun (i : Nat) => PyData.int (i : Int)
def rg2 (a b : Int) : List PyData := (List.range (b - a).toNat).map fun (i : Nat) => PyData.int (a + (i : Int))
def rngOk (n : Int) : Bool := Nat.ble n.natAbs 16777216
theorem rngOk_iff {n : Int} : rngOk n = true ↔ -16777216 ≤ n ∧ n ≤ 16777216 := by
  unfold rngOk
  rw [Nat.ble_eq]
  omega
def enumD : Nat → List PyData → List PyData
  | _, [] => []
  | i, d :: r => .tuple [.int (i : Nat), d] :: enumD (i + 1) r
def zipD : List PyData → List PyData → List PyData
  | a :: r, b :: s => .tuple [a, b] :: zipD r s
  | _, _ => []
/-- a module's dict with texts as keys -/
def dkGet : List (PyData × PyData) → Str → Option PyData
  | [], _ => none
  | (.str k, d) :: r, x => if k = x then some d else dkGet r x
  | _ :: r, x => dkGet r x
def gdHas (neg : Bool) : Option PyData → PyData → Option PyData
  | some (.dict kvs), .str x => some (.bool (xor neg (dkGet kvs x).isSome))
  | _, _ => none
def gdGet : Option PyData → PyData → Option PyData
  | some (.dict kvs), .str x => dkGet kvs x
  | _, _ => none
def glV : Option PyData → Option PyData
  | some (.dict _) => none
  | o => o
/-- sorted(set(t)): rising, each once -/
def insI (i : Int) : List Int → List Int
  | [] => [i]
  | j :: r => if i < j then i :: j :: r else if i = j then j :: r else j :: insI i r
def setI (ns : List Int) : List Int := ns.foldr insI []
def ltP (p q : Int × Int) : Bool := decide (p.1 < q.1) || (decide (p.1 = q.1) && decide (p.2 < q.2))
def insP (p : Int × Int) : List (Int × Int) → List (Int × Int)
  | [] => [p]
  | q :: r => if ltP p q then p :: q :: r else if p = q then q :: r else q :: insP p r
def setP (ps : List (Int × Int)) : List (Int × Int) := ps.foldr insP []
def prD (p : Int × Int) : PyData := .tuple [.int p.1, .int p.2]
def prOf : PyData → Option (Int × Int)
  | .tuple [.int a, .int b] => some (a, b)
  | _ => none
def prsOf : List PyData → Option (List (Int × Int))
  | [] => some []
  | d :: r => (prOf d).bind fun p => (prsOf r).map (p :: ·)
def in64 (p : Int × Int) : Bool := decide (0 ≤ p.1) && decide (p.1 < 64) && decide (0 ≤ p.2) && decide (p.2 < 64)
def ssetD : PyData → Option PyData
  | .tuple ds => if ds.length < 64 then (match intsOf ds with
    | some ns => some (.list ((setI ns).map .int))
    | none => (prsOf ds).bind fun ps => if ps.all in64 then some (.list ((setP ps).map prD)) else none) else none
  | _ => none
def indexD (k : PyData) : List PyData → Option Nat
  | [] => none
  | d :: r => if PyData.eqv d k then some 0 else (indexD k r).map (· + 1)
def pickD : List Str → List PyData → Str → Option PyData
  | k :: ks, d :: ds, x => if k = x then some d else pickD ks ds x
  | _, _, _ => none
def pickX (ks : List Str) (ds : List PyData) : PyData → Option PyData
  | .str x => pickD ks ds x
  | _ => none
def getX (ks : List Str) (ds : List PyData) (x y : PyData) : Option PyData := match x with
  | .str x => some ((pickD ks ds x).getD y)
  | _ => none
def joinLen (sep : Nat) : List Str → Nat
  | [] => 0
  | x :: r => x.length + sep + joinLen sep r

def slP : PX → Option PyData → Option (Option Int)
  | .omit, _ => some none
  | _, r => r.bind fun l => (intOf l).map some
def joinD : PyData → PyData → Option PyData
  | .str s, .list ds => (strsOf ds).bind fun xs => if joinLen s.length xs ≤ sizeLine then some (.str (Str.join s xs)) else none
  | _, _ => none
def idxD : PyData → PyData → Option PyData
  | .list ds, k => if inOk ds k then (indexD k ds).map fun (j : Nat) => .int (j : Int) else none
  | _, _ => none
def seqD : PyData → Option (List PyData)
  | .list ds => some ds
  | .tuple ds => some ds
  | _ => none
def zipDD : PyData → PyData → Option (List PyData)
  | .tuple ds, .tuple es => if ds.length = es.length then some (zipD ds es) else none
  | .list ds, .list es => if ds.length = es.length then some (zipD ds es) else none
  | _, _ => none
def isNone : PyData → Bool
  | .none => true
  | _ => false
/-! ### targets, slots -/
def setAll : List Nat → List PyData → Rho → Rho
  | i :: is, d :: ds, ρ => setAll is ds (ρ.set i (.val d))
  | _, _, ρ => ρ
def asg : Tg → PyData → Rho → Option Rho
  | .nm i, d, ρ => some (ρ.set i (.val d))
  | .tp is, .tuple ds, ρ => if is.length = ds.length then some (setAll is ds ρ) else none
  | .tp _, _, _ => none
def getV (i : Nat) (ρ : Rho) : Option PyData :=
  match ρ[i]? with
  | some (.val d) => some d
  | _ => none
def bor : PX → Rho → Option PyData → Option PyData
  | .var i, ρ, r => match ρ[i]? with
    | some (.own ds) => some (.list ds)
    | _ => r
  | _, _, r => r
def pickS (ρ : Rho) (i : Nat) (x : PyData) : Option PyData :=
  match ρ[i]? with
  | some (.dic ks ds) => pickX ks ds x
  | _ => none
/-- the places in the order of their keys -/
def srtP (ks : List Int) : List (Nat × Int) := ((List.range ks.length).zip ks).mergeSort (PySem.W.dataLe false fun p => PyData.int p.2)
def srtD (ks : List Int) : List PyData := (srtP ks).map fun p => .int (p.1 : Int)
/-- what the key function captured; its keys -/
def capsR : List Nat → Rho → Option (List PyData)
  | [], _ => some []
  | j :: js, ρ => (getV j ρ).bind fun d => (capsR js ρ).map (d :: ·)
def keysR (f : PyData → Option PyData) : List Nat → Option (List Int)
  | [] => some []
  | k :: ks => (f (.int (k : Nat))).bind fun d => (intOf d).bind fun i => (keysR f ks).map (i :: ·)
def boolOf : Option PyData → Option Bool
  | some (.bool b) => some b
  | _ => none
/-- a comprehension's turns -/
def compR (tg : Tg) (c : Rho → Option Bool) (e : Rho → Option PyData) (ρ : Rho) : List PyData → Option (List PyData)
  | [] => some []
  | d :: ds => (asg tg d ρ).bind fun ρ1 => (c ρ1).bind fun b => if b then (e ρ1).bind fun y => (compR tg c e ρ ds).map (y :: ·) else compR tg c e ρ ds

section
variable (G : Nat → Option PyData) (run : Nat → List PyData → Option PyData)
mutual
def evE : PX → Rho → Option PyData
  | .var i, ρ => getV i ρ
  | .lit d, _ => some d
  | .glb g, _ => glV (G g)
  | .bin op a b, ρ => (evE a ρ).bind fun x => (evE b ρ).bind fun y => bop op x y
  | .neg a, ρ => (evE a ρ).bind fun x => (intOf x).map fun i => .int (-i)
  | .not a, ρ => (boolOf (evE a ρ)).map fun b => .bool (!b)
  | .and a b, ρ => (boolOf (evE a ρ)).bind fun x => if x then evE b ρ else some (.bool false)
  | .or a b, ρ => (boolOf (evE a ρ)).bind fun x => if x then some (.bool true) else evE b ρ
  | .cmp op a b, ρ => (bor a ρ (evE a ρ)).bind fun x => (bor b ρ (evE b ρ)).bind fun y => (cop op x y).map .bool
  | .isN ng a, ρ => (bor a ρ (evE a ρ)).map fun x => .bool (xor ng (isNone x))
  | .chain o1 o2 a b c, ρ => (evE a ρ).bind fun x => (evE b ρ).bind fun y => (cop o1 x y).bind fun k => if k then (evE c ρ).bind fun z => (cop o2 y z).map .bool else some (.bool false)
  | .ife c a b, ρ => (boolOf (evE c ρ)).bind fun x => if x then evE a ρ else evE b ρ
  | .tup es, ρ => (evEs es ρ).bind fun ds => if ds.length ≤ 1000 then some (.tuple ds) else none
  | .lst es, ρ => (evEs es ρ).bind fun ds => if ds.length ≤ 1000 then some (.list ds) else none
  | .ix a i, ρ => (bor a ρ (evE a ρ)).bind fun x => (evE i ρ).bind fun y => ixD x y
  | .slc a lo hi, ρ => (bor a ρ (evE a ρ)).bind fun x => (slP lo (evE lo ρ)).bind fun l => (slP hi (evE hi ρ)).bind fun h => slD x l h
  | .omit, _ => none
  | .rev a, ρ => (bor a ρ (evE a ρ)).bind revD
  | .call f es, ρ => (evEs es ρ).bind fun ds => run f ds
  | .blt b a, ρ => (bor a ρ (evE a ρ)).bind fun x => blt b x
  | .isI a t, ρ => (bor a ρ (evE a ρ)).map fun x => .bool (isTy t x)
  | .join o a, ρ => (evE o ρ).bind fun x => (bor a ρ (evE a ρ)).bind fun y => joinD x y
  | .index o a, ρ => (bor o ρ (evE o ρ)).bind fun x => (evE a ρ).bind fun k => idxD x k
  | .lc ws elt tg it c, ρ => (evI true it ρ).bind fun ds => (compR tg (fun ρ1 => boolOf (evE c ρ1)) (fun ρ1 => evE elt ρ1) (wipeR ρ ws) ds).map .list
  | .pick ks es k, ρ => (evEs es ρ).bind fun ds => (evE k ρ).bind fun x => pickX ks ds x
  | .getd ks es k d, ρ => (evEs es ρ).bind fun ds => (evE k ρ).bind fun x => (evE d ρ).bind fun y => getX ks ds x y
  | .pickV i k, ρ => (evE k ρ).bind fun x => pickS ρ i x
  | .rngL a, ρ => (evE a ρ).bind fun x => (intOf x).bind fun n => if rngOk n then some (.list (rgD n)) else none
  | .inG neg k g, ρ => (evE k ρ).bind fun x => gdHas neg (G g) x
  | .pickG g k, ρ => (evE k ρ).bind fun x => gdGet (G g) x
  | .sset a, ρ => (bor a ρ (evE a ρ)).bind ssetD
def evEs : PXs → Rho → Option (List PyData)
  | .nil, _ => some []
  | .cons e es, ρ => (evE e ρ).bind fun d => (evEs es ρ).map (d :: ·)
def evI (b : Bool) : PIt → Rho → Option (List PyData)
  | .seq a, ρ => (if b then bor a ρ (evE a ρ) else evE a ρ).bind seqD
  | .rng1 a, ρ => (evE a ρ).bind fun x => (intOf x).bind fun n => if rngOk n then some (rgD n) else none
  | .rng2 a c, ρ => (evE a ρ).bind fun x => (evE c ρ).bind fun y => (intOf x).bind fun n => (intOf y).bind fun m => if rngOk n && rngOk m && rngOk (m - n) then some (rg2 n m) else none
  | .enum a, ρ => (if b then bor a ρ (evE a ρ) else evE a ρ).bind fun x => (seqD x).map (enumD 0)
  | .zip a c, ρ => (evE a ρ).bind fun x => (evE c ρ).bind fun y => zipDD x y
end

def srtE (tup : Bool) (x : Option PyData) (cs : Option (List PyData)) (f : Rho → Option PyData) : Option PyData :=
  x.bind fun x => (intOf x).bind fun m => if rngOk m then cs.bind fun cs => (keysR (fun d => f ((d :: cs).map .val)) (List.range m.toNat)).map fun ks => if tup then .tuple (srtD ks) else .list (srtD ks) else none
inductive Out where
  | nx (ρ : Rho)
  | rt (d : PyData)
def thenO (f : Rho → Option Out) : Out → Option Out
  | .nx ρ => f ρ
  | .rt v => some (.rt v)
def ownSet (i : Nat) (ρ : Rho) : PyData → Option Out
  | .list ds => some (.nx (ρ.set i (.own ds)))
  | _ => none
def ownApp (i : Nat) (ρ : Rho) (d : PyData) : Option Out := match ρ[i]? with
  | some (.own ds) => if ds.length < 1000000 then some (.nx (ρ.set i (.own (ds ++ [d])))) else none
  | _ => none
def ownExt (i : Nat) (ρ : Rho) (d : PyData) : Option Out := match ρ[i]?, d with
  | some (.own ds), .list es => if catOk ds.length es.length then some (.nx (ρ.set i (.own (ds ++ es)))) else none
  | _, _ => none
def loopR (f : PyData → Rho → Option Out) : List PyData → Rho → Option Out
  | [], ρ => some (.nx ρ)
  | d :: ds, ρ => (f d ρ).bind (thenO fun ρ' => loopR f ds ρ')
mutual
def evS : QS → Rho → Option Out
  | .set fz i e, ρ => (evE G run e (frzs fz ρ)).map fun d => .nx ((frzs fz ρ).set i (.val d))
  | .setO fz i e, ρ => (evE G run e (frzs fz ρ)).bind (ownSet i (frzs fz ρ))
  | .setT fz is e, ρ => (evE G run e (frzs fz ρ)).bind fun d => (asg (.tp is) d (frzs fz ρ)).map .nx
  | .setD fz i ks es, ρ => (evEs G run es (frzs fz ρ)).map fun ds => .nx ((frzs fz ρ).set i (.dic ks ds))
  | .app fz i e, ρ => (evE G run e (frzs fz ρ)).bind (ownApp i (frzs fz ρ))
  | .ext fz i e, ρ => (evE G run e (frzs fz ρ)).bind (ownExt i (frzs fz ρ))
  | .iff fz c a b, ρ => (boolOf (evE G run c (frzs fz ρ))).bind fun k => if k then evSs a (frzs fz ρ) else evSs b (frzs fz ρ)
  | .for fz tg it b, ρ => (evI G run false it (frzs fz ρ)).bind fun ds => loopR (fun d ρ1 => (asg tg d ρ1).bind fun ρ2 => evSs b ρ2) ds (frzs fz ρ)
  | .ret fz e, ρ => (evE G run e (frzs fz ρ)).map .rt
  | .srt fz i tup a js _ b, ρ => (srtE tup (evE G run a (frzs fz ρ)) (capsR js (frzs fz ρ)) fun ρ1 => evE G run b ρ1).map fun d => .nx ((frzs fz ρ).set i (.val d))
  | .retN, _ => some (.rt .none)
  | .pass, ρ => some (.nx ρ)
def evSs : QSs → Rho → Option Out
  | .nil, ρ => some (.nx ρ)
  | .cons s r, ρ => (evS s ρ).bind (thenO fun ρ' => evSs r ρ')
end
end

structure FDef where
  name : Str
  ps : List Str
  N : List Str
  body : QSs
structure Tab where
  fn : Nat → Option FDef
  glb : Nat → Option (Str × PyData)
  c : Nat := 1
def startR (n : Nat) (ds : List PyData) : Rho := ds.map .val ++ List.replicate (n - ds.length) .un
def outD : Out → PyData
  | .nx _ => .none
  | .rt d => d
def Tab.run (T : Tab) : Nat → Nat → List PyData → Option PyData
  | 0, _, _ => none
  | n + 1, f, ds => (T.fn f).bind fun F => if ds.length = F.ps.length then (evSs (fun g => (T.glb g).map (·.2)) (T.run n) F.body (startR F.N.length ds)).map outD else none
end Ev

/-! EvC: the operators of the small language are Python's. -/
namespace Ev
variable [Memo]
open PySem PySem.Spec PyProof.Rows L2

/-! ### lists of any kind: sums, repeats, extend -/
theorem list_extendW (l : Addr) (items : Array Value) (n : Nat) (b : Addr) (items2 : Array Value) (n2 : Nat) (dd2 : Option Addr) (sl2 : Array (Option Value)) (hc0 : ¬(!items.isEmpty && Builtin.List.listTooLong (items.size + items2.size)) = true) (hc1 : items.size ≤ sizeLine) (hs2 : items.size + items2.size ≤ sizeLine + 1) :
    Meets (Builtin.«list.extend» ⟨[.ref l, .ref b], []⟩) (fun _ R s => s.heap.get? l = some { cls := .type "list", dict := none, data := .seq items n, slots := #[] } ∧ s.heap.get? b = some { cls := .type "list", dict := dd2, data := .seq items2 n2, slots := sl2 } ∧ R (.ok (.ret Value.none)) { s with heap := s.heap.update l (Obj.mapSeq fun x => x ++ items2), toks := s.toks }) :=
  .of_wp fun prog w A R s h => by
    obtain ⟨hp, g, d, tk, os⟩ := s; obtain ⟨hl, hb, h⟩ := h; have f1 := AutoSeq1.idx_int; have f2 := AutoSeq1.sub_tuple_tuple; have f3 := AutoSeq1.sub_list_list; have f4 := AutoSeq1.sub_tuple_list; have f5 := AutoSeq1.sub_list_tuple
    have hz' : (items ++ items2).size ≤ sizeLine + 1 := by rw [Array.size_append]; exact hs2
    wp_walk using (wpAny_updateSeq hl rfl (hz := hc1) (_hz' := hz')), wpAny_loadPart' hl, wpAny_loadPart' hb; exact ⟨_, rfl, h⟩
section
variable {X : Cx}
def rCatL (K : PySem.W.Frag) : R2 := fun x y H Q => ∃ a b xs ys, x = .ref a ∧ y = .ref b ∧ SqL K H a xs ∧ SqL K H b ys ∧ xs.length + ys.length ≤ sizeLine ∧ ∀ p, H p = none → Q (.ref p) (upd H p (.lst (xs ++ ys)))
theorem op_catL : OpR X (binaryOp .Add) (rCatL X.K) := by
  intro pins s σ H x y v u Q I rx ry h
  obtain ⟨l, b, xs, zs, rfl, rfl, hH, hB, hz, q⟩ := h
  cases rx
  cases ry
  obtain ⟨its, r, ⟨⟨cls, dd, data, sl⟩, n, ho, hc, hdd, hd⟩, hs⟩ := I.list hH
  obtain ⟨its2, r2, ⟨⟨cls2, dd2, data2, sl2⟩, n2, ho2, hc2, hdd2, hd2⟩, hs2⟩ := I.list hB
  simp only at hc hd hc2 hd2
  subst hc hd hc2 hd2
  have hl := r.length
  have hl2 := r2.length
  have e : its.toArray ++ its2.toArray = (its ++ its2).toArray := by simp
  refine concat_meets ⟨_, ho, rfl⟩ ⟨_, ho2, rfl⟩ noFill_list_add seq_list_add PySem.F.slot_list_add PySem.F.entry_list_add (PySem.F.args_list_add_2 _ _) (list_addW l b its.toArray its2.toArray n n2 dd dd2 sl sl2 (by simp; omega)) ⟨ho, ho2, ?_⟩
  rw [e]
  exact ⟨.ref _, _, I.lnew (t' := s.toks) (r.append r2) (by rw [List.length_append]; omega), rfl, q _ I.fresh⟩
def rRepL (K : PySem.W.Frag) : R2 := fun x y H Q => ∃ l k xs, x = .ref l ∧ y = .int k ∧ SqL K H l xs ∧ -(2 ^ 63) ≤ k ∧ k < 2 ^ 63 ∧ xs.length * k.toNat ≤ sizeLine ∧
  ∀ p, H p = none → Q (.ref p) (upd H p (.lst (List.replicate k.toNat xs).flatten))
theorem op_repL : OpR X (binaryOp .Mult) (rRepL X.K) := by
  intro pins s σ H x y v u Q I rx ry h
  obtain ⟨l, k, xs, rfl, rfl, hH, h1, h2, hz, q⟩ := h
  cases rx
  obtain ⟨t, rfl⟩ := ry
  obtain ⟨its, r, ⟨⟨cls, dd, data, sl⟩, n, ho, hc, hdd, hd⟩, hs⟩ := I.list hH
  simp only at hc hd
  subst hc hd
  have hl := r.length
  have hlen : its.toArray.size * k.toNat ≤ sizeLine := by rw [List.size_toArray, ← hl]; exact hz
  have hcap : ¬ its.toArray.size * k.toNat > (2 ^ 63 - 1) / 8 := by
    have : (sizeLine : Nat) ≤ (2 ^ 63 - 1) / 8 := by decide
    omega
  have hfit : ¬ (!Builtin.List.listFitsIndex k) = true := by
    rw [fitsIndex_both h1 h2]
    exact Bool.false_ne_true
  have hlong : ¬ Builtin.List.listTooLong (its.toArray.size * k.toNat) = true := by
    rw [notLongL hlen]
    exact Bool.false_ne_true
  refine wpAny_binaryOp_repeat_ref (T := "list") (U := "int") (by decide) ⟨_, ho, rfl⟩ (fun s' => typeIs_int s' k t) noFill_list_mul F.fills_int_mul F.slot_int_rmul repeat_list F.slot_int_index.lookup
    (call_meets F.slot_int_rmul (typeIs_int s k t) F.entry_int_rmul (F.args_int_rmul_2 _ _) (lm_int_rmul_list_any k t l its.toArray n dd sl)
      ⟨ho, rfl, ⟨_, ho, rfl⟩, call_meets F.slot_list_mul ⟨_, ho, rfl⟩ F.entry_list_mul (F.args_list_mul_2 _ _) (lm_list_mul_any l its.toArray n dd sl k t hfit hcap hlong) ⟨ho, ?_⟩⟩)
  rw [listMul_foldl_if]
  exact ⟨.ref _, _, I.lnew (t' := s.toks) (r.rep k.toNat) (by rw [PyProof.Rows.lm_len_rep_flat, Nat.mul_comm]; exact hz), rfl, q _ I.fresh⟩
def rExtendL (K : PySem.W.Frag) : V → List V → Hp → VK → Prop := fun x vs H Q => ∃ l b xs zs, x = .ref l ∧ vs = [.ref b] ∧ H l = some (.lst xs) ∧ SqL K H b zs ∧ xs.length + zs.length ≤ sizeLine ∧ Q .non (upd H l (.lst (xs ++ zs)))
theorem mt_extendL : MtM X "list.extend" (rExtendL X.K) := by
  intro pins s σ H x vs v us Q I rx rv h
  obtain ⟨l, b, xs, zs, rfl, rfl, hH, hB, hz, q⟩ := h
  cases rx
  obtain ⟨u, rfl, ru⟩ := rv.one
  cases ru
  obtain ⟨z, its, n, r, hl, e⟩ := I.lstM hH
  obtain ⟨its2, r2, ⟨⟨cls2, dd2, data2, sl2⟩, n2, ho2, hc2, hdd2, hd2⟩, hs2⟩ := I.list hB
  simp only at hc2 hd2
  subst hc2 hd2
  have hl2 := r2.length
  have hsz : its.toArray.size + its2.toArray.size ≤ sizeLine := by rw [List.size_toArray, List.size_toArray]; omega
  have hlong : ¬ (!its.toArray.isEmpty && Builtin.List.listTooLong (its.toArray.size + its2.toArray.size)) = true := by
    rw [notLongL hsz, Bool.and_false]
    exact Bool.false_ne_true
  refine call_meets F.slot_list_extend ⟨_, e, rfl⟩ F.entry_list_extend (F.args_list_extend_2 _ _)
    (list_extendW l its.toArray n b its2.toArray n2 dd2 sl2 hlong (by rw [List.size_toArray]; omega) (by omega)) ⟨e, ho2, ?_⟩
  refine ⟨.non, _, I.lset (its' := its ++ its2) hH e (by simp) (r.append r2) ?_, rfl, q⟩
  rw [List.length_append]
  omega
end

/-! ### what a rule is to give -/
abbrev KF (K : PySem.W.Frag) (H Hf : Hp) (d : PyData) (Q : VK) : Prop := ∀ v H' Hf', Ext H Hf H' Hf' → Rp K Hf' v d → Q v H'
theorem KF.here {K : PySem.W.Frag} {H Hf : Hp} {d : PyData} {Q : VK} (k : KF K H Hf d Q) (s : Sub H Hf) {v : V} (r : Rp K Hf v d) : Q v H := k v H Hf (Ext.refl s) r
theorem KF.newT {K : PySem.W.Frag} {H Hf : Hp} {ds : List PyData} {Q : VK} (k : KF K H Hf (.tuple ds) Q) (s : Sub H Hf) {vs : List V} (z : vs.length ≤ sizeLine) (r : RpAll K Hf vs ds) : ∀ p, H p = none → Q (.ref p) (upd H p (.tup vs)) :=
  fun p hp => k _ _ _ (Ext.alloc s hp _) (.tup (.of upd_same) z (r.mono (same_upd (sub_none s hp) _) _ _))
theorem KF.newL {K : PySem.W.Frag} {H Hf : Hp} {ds : List PyData} {Q : VK} (k : KF K H Hf (.list ds) Q) (s : Sub H Hf) {vs : List V} (z : vs.length ≤ sizeLine) (r : RpAll K Hf vs ds) : ∀ p, H p = none → Q (.ref p) (upd H p (.lst vs)) :=
  fun p hp => k _ _ _ (Ext.alloc s hp _) (.lst (.of upd_same) z (r.mono (same_upd (sub_none s hp) _) _ _))
theorem strOk_app {a b : Str} (ha : PyData.strOk a = true) (hb : PyData.strOk b = true) : PyData.strOk (a ++ b) = true := by
  show (a.cps ++ b.cps).all (· < 0x110000) = true
  have ha' : a.cps.all (· < 0x110000) = true := ha
  have hb' : b.cps.all (· < 0x110000) = true := hb
  rw [Array.all_append, ha', hb']; rfl
theorem len_app {a b : Str} : (a ++ b).length = a.length + b.length := by
  show (a.cps ++ b.cps).size = _
  rw [Array.size_append]; rfl
theorem sqL_sub {K : PySem.W.Frag} {H H' : Hp} {a : Addr} {xs : List V} (e : Same H H') (h : SqL K H a xs) : SqL K H' a xs := e.seq h

section
variable {X : Cx}
/-- operators on frozen data -/
def rBin (K : PySem.W.Frag) (g : PyData → PyData → Option PyData) : R2 := fun x y H Q => ∃ Hf a b d, Sub H Hf ∧ Rp K Hf x a ∧ Rp K Hf y b ∧ g a b = some d ∧ KF K H Hf d Q
theorem OpR.imp {f : Value → Value → Sem Value} {r r' : R2} (h : OpR X f r) (i : ∀ x y H Q, r' x y H Q → r x y H Q) : OpR X f r' :=
  fun pins s σ H x y v u Q I rx ry q => h pins s σ H x y v u Q I rx ry (i _ _ _ _ q)
theorem bop_add : OpR X (binaryOp .Add) (rBin X.K (bop .add)) := by
  intro pins s σ H x y v u Q I rx ry q
  obtain ⟨Hf, a, b, d, sub, ra, rb, hd, k⟩ := q
  cases ra with
  | non => cases rb <;> exact nomatch hd
  | bl _ => cases rb <;> exact nomatch hd
  | int i =>
    cases rb with
    | int j => cases hd; exact op_add pins s σ H _ _ v u Q I rx ry ⟨i, j, rfl, rfl, k.here sub (.int _)⟩
    | non => exact nomatch hd
    | bl _ => exact nomatch hd
    | str _ _ _ => exact nomatch hd
    | lst _ _ _ => exact nomatch hd
    | tup _ _ _ => exact nomatch hd
  | str i zi oi =>
    cases rb with
    | str j zj oj =>
      have hd' : (if catOk i.length j.length then some (PyData.str (i ++ j)) else none) = some d := hd
      by_cases c : catOk i.length j.length = true
      · rw [if_pos c] at hd'
        cases hd'
        have c' := of_decide_eq_true c
        exact op_add_str pins s σ H _ _ v u Q I rx ry ⟨i, j, rfl, rfl, c', k.here sub (.str _ (by rw [len_app]; exact c') (strOk_app oi oj))⟩
      · rw [if_neg c] at hd'; cases hd'
    | non => exact nomatch hd
    | bl _ => exact nomatch hd
    | int _ => exact nomatch hd
    | lst _ _ _ => exact nomatch hd
    | tup _ _ _ => exact nomatch hd
  | @lst p xs as sp zp rp =>
    cases rb with
    | @lst q ys bs sq zq rq =>
      have hd' : (if catOk as.length bs.length then some (PyData.list (as ++ bs)) else none) = some d := hd
      by_cases c : catOk as.length bs.length = true
      · rw [if_pos c] at hd'
        cases hd'
        have c' := of_decide_eq_true c
        rw [← rp.length, ← rq.length] at c'
        exact op_catL pins s σ H _ _ v u Q I rx ry ⟨p, q, xs, ys, rfl, rfl, sqL_sub sub sp, sqL_sub sub sq, c', k.newL sub (by rw [List.length_append]; exact c') (rp.append rq)⟩
      · rw [if_neg c] at hd'; cases hd'
    | non => exact nomatch hd
    | bl _ => exact nomatch hd
    | int _ => exact nomatch hd
    | str _ _ _ => exact nomatch hd
    | tup _ _ _ => exact nomatch hd
  | @tup p xs as sp zp rp =>
    cases rb with
    | @tup q ys bs sq zq rq =>
      have hd' : (if catOk as.length bs.length then some (PyData.tuple (as ++ bs)) else none) = some d := hd
      by_cases c : catOk as.length bs.length = true
      · rw [if_pos c] at hd'
        cases hd'
        have c' := of_decide_eq_true c
        rw [← rp.length, ← rq.length] at c'
        refine op_catA pins s σ H _ _ v u Q I rx ry ⟨p, q, xs, ys, rfl, rfl, sqT_mono sub sp, sqT_mono sub sq, c', fun e => ?_, fun _ e => ?_, fun _ _ => k.newT sub (by rw [List.length_append]; exact c') (rp.append rq)⟩
        · subst e
          have e2 : as = [] := by cases rp; rfl
          subst e2
          exact k.here sub (.tup sq zq rq)
        · subst e
          have e2 : bs = [] := by cases rq; rfl
          subst e2
          rw [List.append_nil] at k
          exact k.here sub (.tup sp zp rp)
      · rw [if_neg c] at hd'; cases hd'
    | non => exact nomatch hd
    | bl _ => exact nomatch hd
    | int _ => exact nomatch hd
    | str _ _ _ => exact nomatch hd
    | lst _ _ _ => exact nomatch hd
theorem bop_ints {op : BOp} {C : Int → Int → Bool} {g : Int → Int → Int} {a b d : PyData} {K : PySem.W.Frag} {Hf : Hp} {x y : V} (hop : op = .sub ∨ op = .fdiv ∨ op = .mod ∨ op = .pow)
    (hg : ∀ i j, bop op (.int i) (.int j) = if C i j then some (.int (g i j)) else none) (ra : Rp K Hf x a) (rb : Rp K Hf y b) (hd : bop op a b = some d) : ∃ i j, x = .int i ∧ y = .int j ∧ C i j = true ∧ d = .int (g i j) := by
  cases ra with
  | int i =>
    cases rb with
    | int j =>
      rw [hg] at hd
      by_cases c : C i j = true
      · rw [if_pos c] at hd; cases hd
        exact ⟨i, j, rfl, rfl, c, rfl⟩
      · rw [if_neg c] at hd; cases hd
    | non => rcases hop with rfl | rfl | rfl | rfl <;> exact nomatch hd
    | bl _ => rcases hop with rfl | rfl | rfl | rfl <;> exact nomatch hd
    | str _ _ _ => rcases hop with rfl | rfl | rfl | rfl <;> exact nomatch hd
    | lst _ _ _ => rcases hop with rfl | rfl | rfl | rfl <;> exact nomatch hd
    | tup _ _ _ => rcases hop with rfl | rfl | rfl | rfl <;> exact nomatch hd
  | non => rcases hop with rfl | rfl | rfl | rfl <;> cases rb <;> exact nomatch hd
  | bl _ => rcases hop with rfl | rfl | rfl | rfl <;> cases rb <;> exact nomatch hd
  | str _ _ _ => rcases hop with rfl | rfl | rfl | rfl <;> cases rb <;> exact nomatch hd
  | lst _ _ _ => rcases hop with rfl | rfl | rfl | rfl <;> cases rb <;> exact nomatch hd
  | tup _ _ _ => rcases hop with rfl | rfl | rfl | rfl <;> cases rb <;> exact nomatch hd
theorem bop_sub : OpR X (binaryOp .Sub) (rBin X.K (bop .sub)) := by
  refine OpR.imp op_sub fun x y H Q q => ?_
  obtain ⟨Hf, a, b, d, sub, ra, rb, hd, k⟩ := q
  obtain ⟨i, j, rfl, rfl, _, rfl⟩ := bop_ints (op := .sub) (C := fun _ _ => true) (g := fun i j => i - j) (by simp) (fun _ _ => rfl) ra rb hd
  exact ⟨i, j, rfl, rfl, k.here sub (.int _)⟩
theorem bop_fdiv : OpR X (binaryOp .FloorDiv) (rBin X.K (bop .fdiv)) := by
  refine OpR.imp op_fdiv fun x y H Q q => ?_
  obtain ⟨Hf, a, b, d, sub, ra, rb, hd, k⟩ := q
  obtain ⟨i, j, rfl, rfl, c, rfl⟩ := bop_ints (op := .fdiv) (C := fun _ b => decide (0 < b) && decide (b < 1073741824)) (g := fun i j => i / j) (by simp) (fun _ _ => rfl) ra rb hd
  simp only [Bool.and_eq_true, decide_eq_true_eq] at c
  exact ⟨i, j, rfl, rfl, c, k.here sub (.int _)⟩
theorem bop_mod : OpR X (binaryOp .Mod) (rBin X.K (bop .mod)) := by
  refine OpR.imp op_mod fun x y H Q q => ?_
  obtain ⟨Hf, a, b, d, sub, ra, rb, hd, k⟩ := q
  obtain ⟨i, j, rfl, rfl, c, rfl⟩ := bop_ints (op := .mod) (C := fun _ b => decide (0 < b)) (g := fun i j => i % j) (by simp) (fun _ _ => rfl) ra rb hd
  exact ⟨i, j, rfl, rfl, of_decide_eq_true c, k.here sub (.int _)⟩
theorem bop_pow : OpR X (binaryOp .Pow) (rBin X.K (bop .pow)) := by
  refine OpR.imp op_pow fun x y H Q q => ?_
  obtain ⟨Hf, a, b, d, sub, ra, rb, hd, k⟩ := q
  obtain ⟨i, j, rfl, rfl, c, rfl⟩ := bop_ints (op := .pow) (C := fun a b => decide (0 ≤ b) && decide (b ≤ 1000000) && decide (a.natAbs < 2 ^ 64)) (g := fun i j => i ^ j.toNat) (by simp) (fun _ _ => rfl) ra rb hd
  simp only [Bool.and_eq_true, decide_eq_true_eq] at c
  exact ⟨i, j, rfl, rfl, ⟨c.1.1, c.1.2, c.2⟩, k.here sub (.int _)⟩
theorem bop_mul : OpR X (binaryOp .Mult) (rBin X.K (bop .mul)) := by
  intro pins s σ H x y v u Q I rx ry q
  obtain ⟨Hf, a, b, d, sub, ra, rb, hd, k⟩ := q
  cases ra with
  | non => cases rb <;> exact nomatch hd
  | bl _ => cases rb <;> exact nomatch hd
  | str _ _ _ => cases rb <;> exact nomatch hd
  | int i =>
    cases rb with
    | int j =>
      have hd' : (if rng i || rng j then some (PyData.int (i * j)) else none) = some d := hd
      by_cases c : (rng i || rng j) = true
      · rw [if_pos c] at hd'; cases hd'
        have c' : CMul i j := by
          simp only [Bool.or_eq_true, rng_iff] at c
          exact c
        exact op_mul pins s σ H _ _ v u Q I rx ry ⟨i, j, rfl, rfl, c', k.here sub (.int _)⟩
      · rw [if_neg c] at hd'; cases hd'
    | non => exact nomatch hd
    | bl _ => exact nomatch hd
    | str _ _ _ => exact nomatch hd
    | lst _ _ _ => exact nomatch hd
    | tup _ _ _ => exact nomatch hd
  | @lst p xs as sp zp rp =>
    cases rb with
    | int j =>
      have hd' : (if decide (-(2 ^ 63) ≤ j) && decide (j < 2 ^ 63) && decide (as.length * j.toNat ≤ sizeLine) then some (PyData.list (List.replicate j.toNat as).flatten) else none) = some d := hd
      by_cases c : (decide (-(2 ^ 63) ≤ j) && decide (j < 2 ^ 63) && decide (as.length * j.toNat ≤ sizeLine)) = true
      · rw [if_pos c] at hd'; cases hd'
        simp only [Bool.and_eq_true, decide_eq_true_eq] at c
        have c3 : xs.length * j.toNat ≤ sizeLine := by rw [rp.length]; exact c.2
        exact op_repL pins s σ H _ _ v u Q I rx ry ⟨p, j, xs, rfl, rfl, sqL_sub sub sp, c.1.1, c.1.2, c3, k.newL sub (by rw [PyProof.Rows.lm_len_rep_flat, Nat.mul_comm]; exact c3) (rp.rep _)⟩
      · rw [if_neg c] at hd'; cases hd'
    | non => exact nomatch hd
    | bl _ => exact nomatch hd
    | str _ _ _ => exact nomatch hd
    | lst _ _ _ => exact nomatch hd
    | tup _ _ _ => exact nomatch hd
  | @tup p xs as sp zp rp =>
    cases rb with
    | int j =>
      have hd' : (if !as.isEmpty && decide (2 ≤ j) && decide (j ≤ 1000) && decide (as.length ≤ 1000) then some (PyData.tuple (List.replicate j.toNat as).flatten) else none) = some d := hd
      by_cases c : (!as.isEmpty && decide (2 ≤ j) && decide (j ≤ 1000) && decide (as.length ≤ 1000)) = true
      · rw [if_pos c] at hd'; cases hd'
        simp only [Bool.and_eq_true, decide_eq_true_eq, Bool.not_eq_true', List.isEmpty_eq_false_iff] at c
        obtain ⟨⟨⟨c1, c2⟩, c3⟩, c4⟩ := c
        have c5 : xs.length ≤ 1000 := by rw [rp.length]; exact c4
        have hx : xs ≠ [] := fun e => by subst e; cases rp; exact c1 rfl
        have hz : (List.replicate j.toNat xs).flatten.length ≤ sizeLine := by
          rw [PyProof.Rows.lm_len_rep_flat, sizeLine_eq]
          have a1 : j.toNat * xs.length ≤ 1000 * 1000 := Nat.mul_le_mul (by omega) c5
          omega
        exact op_repT pins s σ H _ _ v u Q I rx ry ⟨p, j, xs, rfl, rfl, sqT_mono sub sp, hx, c2, c3, c5, k.newT sub hz (rp.rep _)⟩
      · rw [if_neg c] at hd'; cases hd'
    | non => exact nomatch hd
    | bl _ => exact nomatch hd
    | str _ _ _ => exact nomatch hd
    | lst _ _ _ => exact nomatch hd
    | tup _ _ _ => exact nomatch hd
def bopOp : BOp → Operator
  | .add => .Add | .sub => .Sub | .mul => .Mult | .fdiv => .FloorDiv | .mod => .Mod | .pow => .Pow
theorem bop_ok : ∀ op : BOp, OpR X (binaryOp (bopOp op)) (rBin X.K (bop op))
  | .add => bop_add
  | .sub => bop_sub
  | .mul => bop_mul
  | .fdiv => bop_fdiv
  | .mod => bop_mod
  | .pow => bop_pow
end
end Ev

/-! EvD: comparisons, built-ins, items, slices, methods. -/
namespace Ev
variable [Memo]
open PySem PySem.Spec PyProof.Rows L2

/-- frozen, or a list of the frame's own with frozen items -/
def RB (K : PySem.W.Frag) (H Hf : Hp) (v : V) (d : PyData) : Prop :=
  Rp K Hf v d ∨ ∃ p vs ds, v = .ref p ∧ d = .list ds ∧ H p = some (.lst vs) ∧ vs.length ≤ sizeLine ∧ RpAll K Hf vs ds
section
variable {K : PySem.W.Frag} {H Hf H' Hf' : Hp} {v : V} {d : PyData} {ds : List PyData}
theorem RB.rp (s : Sub H Hf) (h : RB K H Hf v d) : Rp K H v d := by
  rcases h with h | ⟨p, vs, ds, rfl, rfl, h1, h2, h3⟩
  · exact h.mono s _ _
  · exact .lst (.of h1) h2 (h3.mono s _ _)
theorem RB.ext (e : Ext H Hf H' Hf') (h : RB K H Hf v d) : RB K H' Hf' v d := by
  rcases h with h | ⟨p, vs, ds, rfl, rfl, h1, h2, h3⟩
  · exact .inl (h.mono e.fr _ _)
  · exact .inr ⟨p, vs, ds, rfl, rfl, e.lst h1, h2, h3.mono e.fr _ _⟩
theorem RB.list (s : Sub H Hf) (h : RB K H Hf v (.list ds)) : ∃ p vs, v = .ref p ∧ SqL K H p vs ∧ vs.length ≤ sizeLine ∧ RpAll K Hf vs ds := by
  rcases h with h | ⟨p, vs, es, rfl, e, h1, h2, h3⟩
  · cases h with
    | lst a b c => exact ⟨_, _, rfl, s.seq a, b, c⟩
  · cases e; exact ⟨p, vs, rfl, .of h1, h2, h3⟩
theorem RB.tuple (h : RB K H Hf v (.tuple ds)) : ∃ p vs, v = .ref p ∧ SqT K Hf p vs ∧ vs.length ≤ sizeLine ∧ RpAll K Hf vs ds := by
  rcases h with h | ⟨p, vs, es, rfl, e, h1, h2, h3⟩
  · cases h with
    | tup a b c => exact ⟨_, _, rfl, a, b, c⟩
  · cases e
theorem RB.int {i : Int} (h : RB K H Hf v (.int i)) : v = .int i := by
  rcases h with h | ⟨p, vs, es, rfl, e, h1, h2, h3⟩
  · cases h; rfl
  · cases e
theorem RB.bool {i : Bool} (h : RB K H Hf v (.bool i)) : v = .bl i := by
  rcases h with h | ⟨p, vs, es, rfl, e, h1, h2, h3⟩
  · cases h; rfl
  · cases e
theorem RB.str {i : Str} (h : RB K H Hf v (.str i)) : v = .str i ∧ i.length ≤ sizeLine ∧ PyData.strOk i = true := by
  rcases h with h | ⟨p, vs, es, rfl, e, h1, h2, h3⟩
  · cases h with | str _ a b => exact ⟨rfl, a, b⟩
  · cases e
end
theorem intsOf_some : ∀ {ds : List PyData} {ns : List Int}, intsOf ds = some ns → ds = ns.map .int
  | [], ns, h => by cases h; rfl
  | d :: ds, ns, h => by
    cases d with
    | int i =>
      have h' : (intsOf ds).map (i :: ·) = some ns := h
      obtain ⟨ms, h1, h2⟩ := Option.map_eq_some_iff.mp h'
      subst h2
      rw [intsOf_some h1]; rfl
    | _ => exact nomatch h
theorem boolsOf_some : ∀ {ds : List PyData} {ns : List Bool}, boolsOf ds = some ns → ds = ns.map .bool
  | [], ns, h => by cases h; rfl
  | d :: ds, ns, h => by
    cases d with
    | bool i =>
      have h' : (boolsOf ds).map (i :: ·) = some ns := h
      obtain ⟨ms, h1, h2⟩ := Option.map_eq_some_iff.mp h'
      subst h2
      rw [boolsOf_some h1]; rfl
    | _ => exact nomatch h
theorem strsOf_some : ∀ {ds : List PyData} {ns : List Str}, strsOf ds = some ns → ds = ns.map .str
  | [], ns, h => by cases h; rfl
  | d :: ds, ns, h => by
    cases d with
    | str i =>
      have h' : (strsOf ds).map (i :: ·) = some ns := h
      obtain ⟨ms, h1, h2⟩ := Option.map_eq_some_iff.mp h'
      subst h2
      rw [strsOf_some h1]; rfl
    | _ => exact nomatch h

section
variable {X : Cx}
/-! ### comparisons -/
def rCop (K : PySem.W.Frag) (op : COp) : R2 := fun x y H Q => ∃ a b c, Rp K H x a ∧ Rp K H y b ∧ cop op a b = some c ∧ Q (.bl c) H
def copOp : COp → CmpOp
  | .eq => .Eq | .ne => .NotEq | .lt => .Lt | .le => .LtE | .gt => .Gt | .ge => .GtE | .isin => .In | .notin => .NotIn
theorem ite_some {c : Bool} {α : Type} {a b : α} (h : (if c = true then some a else none) = some b) : c = true ∧ a = b := by
  by_cases e : c = true
  · rw [if_pos e] at h; exact ⟨e, Option.some.inj h⟩
  · rw [if_neg e] at h; cases h
theorem cop_eq (hu : X.A.units + 64 < cLine) : OpR X (compareOp .Eq) (rCop X.K .eq) := by
  intro pins s σ H x y v u Q I rx ry h
  obtain ⟨d, e, c, hd, he, hc, q⟩ := h
  have hc' : (if eqOk d e = true then some (PyData.eqv d e) else none) = some c := by cases d <;> cases e <;> exact hc
  obtain ⟨h1, rfl⟩ := ite_some hc'
  obtain ⟨as, r1⟩ := Dp.reads I d x v (hd.dp _ _) rx
  obtain ⟨bs, r2⟩ := Dp.reads I e y u (he.dp _ _) ry
  have h2 := of_decide_eq_true h1
  exact SeqAt.compareEq_reads r1 r2 (hd.lay _ _) (he.lay _ _) (by omega) ⟨.bl _, H, I, rfl, q⟩
theorem cop_ne (hu : X.A.units + 64 < cLine) : OpR X (compareOp .NotEq) (rCop X.K .ne) := by
  intro pins s σ H x y v u Q I rx ry h
  obtain ⟨d, e, c, hd, he, hc, q⟩ := h
  have hc' : (if eqOk d e = true then some (!PyData.eqv d e) else none) = some c := by cases d <;> cases e <;> exact hc
  obtain ⟨h1, rfl⟩ := ite_some hc'
  obtain ⟨as, r1⟩ := Dp.reads I d x v (hd.dp _ _) rx
  obtain ⟨bs, r2⟩ := Dp.reads I e y u (he.dp _ _) ry
  have h2 := of_decide_eq_true h1
  exact SeqAt.compareNe_reads r1 r2 (hd.lay _ _) (he.lay _ _) (by omega) ⟨.bl _, H, I, rfl, q⟩
theorem in_cases {neg : Bool} {d e : PyData} {c : Bool} (hc : cop (if neg then .notin else .isin) d e = some c) :
    (∃ ds, e = .list ds ∧ inOk ds d = true ∧ c = cond neg (!ds.any fun z => PyData.eqv z d) (ds.any fun z => PyData.eqv z d)) ∨ (∃ ds, e = .tuple ds ∧ inOk ds d = true ∧ c = cond neg (!ds.any fun z => PyData.eqv z d) (ds.any fun z => PyData.eqv z d)) := by
  cases neg with
  | false =>
    cases e with
    | list ds =>
      have hc' : (if inOk ds d = true then some (ds.any fun z => PyData.eqv z d) else none) = some c := by cases d <;> exact hc
      obtain ⟨h1, rfl⟩ := ite_some hc'
      exact .inl ⟨ds, rfl, h1, rfl⟩
    | tuple ds =>
      have hc' : (if inOk ds d = true then some (ds.any fun z => PyData.eqv z d) else none) = some c := by cases d <;> exact hc
      obtain ⟨h1, rfl⟩ := ite_some hc'
      exact .inr ⟨ds, rfl, h1, rfl⟩
    | _ => cases d <;> exact nomatch hc
  | true =>
    cases e with
    | list ds =>
      have hc' : (if inOk ds d = true then some (!ds.any fun z => PyData.eqv z d) else none) = some c := by cases d <;> exact hc
      obtain ⟨h1, rfl⟩ := ite_some hc'
      exact .inl ⟨ds, rfl, h1, rfl⟩
    | tuple ds =>
      have hc' : (if inOk ds d = true then some (!ds.any fun z => PyData.eqv z d) else none) = some c := by cases d <;> exact hc
      obtain ⟨h1, rfl⟩ := ite_some hc'
      exact .inr ⟨ds, rfl, h1, rfl⟩
    | _ => cases d <;> exact nomatch hc
theorem cop_in (hu : X.A.units + 65 < cLine) : OpR X (compareOp .In) (rCop X.K .isin) := by
  intro pins s σ H x y v u Q I rx ry h
  obtain ⟨d, e, c, hd, he, hc, q⟩ := h
  obtain ⟨as, r1⟩ := Dp.reads I d x v (hd.dp _ _) rx
  obtain ⟨bs, r2⟩ := Dp.reads I e y u (he.dp _ _) ry
  have hl := he.lay _ _
  rcases in_cases (neg := false) hc with ⟨ds, rfl, h1, rfl⟩ | ⟨ds, rfl, h1, rfl⟩
  · have h2 := of_decide_eq_true h1
    simp only [PyData.canLay0] at hl
    exact SeqAt.in_list_reads r2 r1 hl (hd.lay _ _) (by omega) ⟨.bl _, H, I, rfl, q⟩
  · have h2 := of_decide_eq_true h1
    simp only [PyData.canLay0] at hl
    exact SeqAt.in_tuple_reads r2 r1 hl (hd.lay _ _) (by omega) ⟨.bl _, H, I, rfl, q⟩
theorem cop_notin (hu : X.A.units + 65 < cLine) : OpR X (compareOp .NotIn) (rCop X.K .notin) := by
  intro pins s σ H x y v u Q I rx ry h
  obtain ⟨d, e, c, hd, he, hc, q⟩ := h
  obtain ⟨as, r1⟩ := Dp.reads I d x v (hd.dp _ _) rx
  obtain ⟨bs, r2⟩ := Dp.reads I e y u (he.dp _ _) ry
  have hl := he.lay _ _
  rcases in_cases (neg := true) hc with ⟨ds, rfl, h1, rfl⟩ | ⟨ds, rfl, h1, rfl⟩
  · have h2 := of_decide_eq_true h1
    simp only [PyData.canLay0] at hl
    exact SeqAt.notIn_list_reads r2 r1 hl (hd.lay _ _) (by omega) ⟨.bl _, H, I, rfl, q⟩
  · have h2 := of_decide_eq_true h1
    simp only [PyData.canLay0] at hl
    exact SeqAt.notIn_tuple_reads r2 r1 hl (hd.lay _ _) (by omega) ⟨.bl _, H, I, rfl, q⟩
theorem cop_ints {op : COp} {g : Int → Int → Bool} {a b : PyData} {c : Bool} (hop : op = .le ∨ op = .gt ∨ op = .ge) (hg : ∀ i j, cop op (.int i) (.int j) = some (g i j)) (h : cop op a b = some c) : ∃ i j, a = .int i ∧ b = .int j ∧ c = g i j := by
  cases a with
  | int i =>
    cases b with
    | int j => rw [hg] at h; exact ⟨i, j, rfl, rfl, (Option.some.inj h).symm⟩
    | _ => rcases hop with rfl | rfl | rfl <;> exact nomatch h
  | _ => rcases hop with rfl | rfl | rfl <;> cases b <;> exact nomatch h
theorem cop_le : OpR X (compareOp .LtE) (rCop X.K .le) := OpR.imp op_le fun x y H Q ⟨a, b, c, ra, rb, hc, q⟩ => by
  obtain ⟨i, j, rfl, rfl, rfl⟩ := cop_ints (op := .le) (g := fun i j => decide (i ≤ j)) (by simp) (fun _ _ => rfl) hc
  cases ra; cases rb; exact ⟨i, j, rfl, rfl, q⟩
theorem cop_gt : OpR X (compareOp .Gt) (rCop X.K .gt) := OpR.imp op_gt fun x y H Q ⟨a, b, c, ra, rb, hc, q⟩ => by
  obtain ⟨i, j, rfl, rfl, rfl⟩ := cop_ints (op := .gt) (g := fun i j => decide (j < i)) (by simp) (fun _ _ => rfl) hc
  cases ra; cases rb; exact ⟨i, j, rfl, rfl, q⟩
theorem cop_ge : OpR X (compareOp .GtE) (rCop X.K .ge) := OpR.imp op_ge fun x y H Q ⟨a, b, c, ra, rb, hc, q⟩ => by
  obtain ⟨i, j, rfl, rfl, rfl⟩ := cop_ints (op := .ge) (g := fun i j => decide (j ≤ i)) (by simp) (fun _ _ => rfl) hc
  cases ra; cases rb; exact ⟨i, j, rfl, rfl, q⟩
theorem cop_lt (hu : X.A.units < cLine) : OpR X (compareOp .Lt) (rCop X.K .lt) := by
  refine OpR.imp (OpR.or op_lt (op_ltT hu)) fun x y H Q ⟨a, b, c, ra, rb, hc, q⟩ => ?_
  cases a with
  | int i =>
    cases b with
    | int j => cases hc; cases ra; cases rb; exact .inl ⟨i, j, rfl, rfl, q⟩
    | _ => exact nomatch hc
  | tuple as =>
    cases b with
    | tuple bs =>
      have hc' : ((intsOf as).bind fun x => (intsOf bs).map fun y => HT.lexLt x y) = some c := hc
      obtain ⟨ns, h1, hc'⟩ := Option.bind_eq_some_iff.mp hc'
      obtain ⟨ms, h2, rfl⟩ := Option.map_eq_some_iff.mp hc'
      cases ra with
      | tup sa za ra =>
        cases rb with
        | tup sb zb rb =>
          rw [intsOf_some h1] at ra
          rw [intsOf_some h2] at rb
          rw [ra.ints] at sa
          rw [rb.ints] at sb
          exact .inr ⟨_, _, ns, ms, rfl, rfl, sa, sb, q⟩
    | _ => exact nomatch hc
  | _ => cases b <;> exact nomatch hc
theorem cop_ok (hu : X.A.units + 65 < cLine) : ∀ op : COp, OpR X (compareOp (copOp op)) (rCop X.K op)
  | .eq => cop_eq (by omega)
  | .ne => cop_ne (by omega)
  | .lt => cop_lt (by omega)
  | .le => cop_le
  | .gt => cop_gt
  | .ge => cop_ge
  | .isin => cop_in hu
  | .notin => cop_notin hu

/-! ### built-ins of one argument -/
def rBlt (K : PySem.W.Frag) (b : Blt) : List V → Hp → VK → Prop := fun vs H Q => ∃ v Hf a d, vs = [v] ∧ Sub H Hf ∧ RB K H Hf v a ∧ blt b a = some d ∧ KF K H Hf d Q
theorem CallR.imp {f : Value} {r r' : List V → Hp → VK → Prop} (h : CallR X f r) (i : ∀ xs H Q, r' xs H Q → r xs H Q) : CallR X f r' :=
  fun pins s σ H xs us Q I rx q => h pins s σ H xs us Q I rx (i _ _ _ q)
theorem blt_len : CallR X (.builtin "len") (rBlt X.K .len) := by
  refine CallR.imp (CallR.or call_len_seq call_len_str) fun xs H Q ⟨v, Hf, a, d, e, sub, r, hd, k⟩ => ?_
  subst e
  cases a with
  | list ds =>
    obtain ⟨p, vs, rfl, s1, z, rr⟩ := r.list sub
    cases hd
    exact .inl ⟨p, vs, rfl, .inl s1, by rw [rr.length]; exact k.here sub (.int _)⟩
  | tuple ds =>
    obtain ⟨p, vs, rfl, s1, z, rr⟩ := r.tuple
    cases hd
    exact .inl ⟨p, vs, rfl, .inr (sqT_mono sub s1), by rw [rr.length]; exact k.here sub (.int _)⟩
  | str x =>
    obtain ⟨rfl, h1, h2⟩ := r.str
    cases hd
    exact .inr ⟨x, rfl, h1, k.here sub (.int _)⟩
  | _ => exact nomatch hd
theorem blt_int : CallR X (.type "int") (rBlt X.K .int) := by
  refine CallR.imp call_int1 fun xs H Q ⟨v, Hf, a, d, e, sub, r, hd, k⟩ => ?_
  subst e
  cases a with
  | int i => cases r.int; cases hd; exact .inl ⟨i, rfl, k.here sub (.int _)⟩
  | bool i => cases r.bool; cases hd; exact .inr ⟨i, rfl, k.here sub (.int _)⟩
  | _ => exact nomatch hd
theorem blt_tuple : CallR X (.type "tuple") (rBlt X.K .tuple) := by
  refine CallR.imp call_tuple_of fun xs H Q ⟨v, Hf, a, d, e, sub, r, hd, k⟩ => ?_
  subst e
  cases a with
  | list ds =>
    obtain ⟨p, vs, rfl, s1, z, rr⟩ := r.list sub
    cases hd
    exact ⟨p, vs, rfl, .inl ⟨s1, k.newT sub z rr⟩⟩
  | tuple ds =>
    obtain ⟨p, vs, rfl, s1, z, rr⟩ := r.tuple
    cases hd
    exact ⟨p, vs, rfl, .inr ⟨sqT_mono sub s1, k.here sub (.tup s1 z rr)⟩⟩
  | _ => exact nomatch hd
theorem blt_list : CallR X (.type "list") (rBlt X.K .list) := by
  refine CallR.imp call_list_of fun xs H Q ⟨v, Hf, a, d, e, sub, r, hd, k⟩ => ?_
  subst e
  cases a with
  | list ds =>
    obtain ⟨p, vs, rfl, s1, z, rr⟩ := r.list sub
    cases hd
    exact ⟨p, vs, rfl, .inl s1, k.newL sub z rr⟩
  | tuple ds =>
    obtain ⟨p, vs, rfl, s1, z, rr⟩ := r.tuple
    cases hd
    exact ⟨p, vs, rfl, .inr (sqT_mono sub s1), k.newL sub z rr⟩
  | _ => exact nomatch hd
theorem blt_all (hc : X.calm = true) : CallR X (.builtin "all") (rBlt X.K .all) := by
  refine CallR.imp (cr_all hc) fun xs H Q ⟨v, Hf, a, d, e, sub, r, hd, k⟩ => ?_
  subst e
  cases a with
  | list ds =>
    obtain ⟨p, vs, rfl, s1, z, rr⟩ := r.list sub
    obtain ⟨bs, h1, rfl⟩ := Option.map_eq_some_iff.mp (show (boolsOf ds).map (fun b => PyData.bool (b.all id)) = some d from hd)
    rw [boolsOf_some h1] at rr
    rw [rr.bls] at s1
    exact ⟨p, bs, rfl, s1, k.here sub (.bl _)⟩
  | _ => exact nomatch hd
theorem blt_any (hc : X.calm = true) : CallR X (.builtin "any") (rBlt X.K .any) := by
  refine CallR.imp (cr_any hc) fun xs H Q ⟨v, Hf, a, d, e, sub, r, hd, k⟩ => ?_
  subst e
  cases a with
  | list ds =>
    obtain ⟨p, vs, rfl, s1, z, rr⟩ := r.list sub
    obtain ⟨bs, h1, rfl⟩ := Option.map_eq_some_iff.mp (show (boolsOf ds).map (fun b => PyData.bool (b.any id)) = some d from hd)
    rw [boolsOf_some h1] at rr
    rw [rr.bls] at s1
    exact ⟨p, bs, rfl, s1, k.here sub (.bl _)⟩
  | _ => exact nomatch hd

/-! ### isinstance -/
def tyName : Ty → String
  | .int => "int" | .str => "str" | .bool => "bool" | .tuple => "tuple" | .list => "list"
def tyStr : Ty → Str
  | .int => "int" | .str => "str" | .bool => "bool" | .tuple => "tuple" | .list => "list"
def tyOfD : PyData → String
  | .none => "NoneType" | .bool _ => "bool" | .int _ => "int" | .str _ => "str" | .list _ => "list" | .tuple _ => "tuple" | .dict _ => "dict"
theorem rp_tyX {K : PySem.W.Frag} {H : Hp} {v : V} {d : PyData} (r : Rp K H v d) : TyX K H v (.type (tyOfD d)) := by
  cases r with
  | non => exact .base .non
  | bl b => exact .base (.bl b)
  | int i => exact .base (.int i)
  | str x _ _ => exact .base (.str x)
  | lst s _ _ =>
    rcases s with (s | ⟨o, s⟩) | ⟨o, its, n, h1, h2, _⟩
    · exact .base (.lst s)
    · exact .base (.frz s)
    · exact .kList h1 h2
  | tup s _ _ =>
    rcases s with (s | ⟨o, s⟩) | ⟨o, its, n, h1, h2, _⟩
    · exact .base (.tup s)
    · exact .fTuple s
    · exact .kTuple h1 h2
theorem kit_all (t : Ty) (d : PyData) (hd : ∀ kvs, d ≠ .dict kvs) : kitB (tyOfD d) (tyName t) = some (isTy t d) := by
  cases d with
  | dict kvs => exact absurd rfl (hd kvs)
  | none => cases t <;> (show kitB "NoneType" _ = some false) <;> decide +kernel
  | bool b => cases t <;> (first | (show kitB "bool" _ = some false; decide +kernel) | (show kitB "bool" _ = some true; decide +kernel))
  | int b => cases t <;> (first | (show kitB "int" _ = some false; decide +kernel) | (show kitB "int" _ = some true; decide +kernel))
  | str b => cases t <;> (first | (show kitB "str" _ = some false; decide +kernel) | (show kitB "str" _ = some true; decide +kernel))
  | list b => cases t <;> (first | (show kitB "list" _ = some false; decide +kernel) | (show kitB "list" _ = some true; decide +kernel))
  | tuple b => cases t <;> (first | (show kitB "tuple" _ = some false; decide +kernel) | (show kitB "tuple" _ = some true; decide +kernel))
def rIsI (K : PySem.W.Frag) (t : Ty) : List V → Hp → VK → Prop := fun vs H Q => ∃ v a, vs = [v, .ty (tyName t)] ∧ Rp K H v a ∧ Q (.bl (isTy t a)) H
theorem isi_ok (t : Ty) : CallR X (.builtin "isinstance") (rIsI X.K t) := by
  refine CallR.imp call_isi fun xs H Q ⟨v, a, e, r, q⟩ => ?_
  subst e
  refine ⟨v, .ty (tyName t), .type (tyOfD a), .type (tyName t), isTy t a, rfl, .ty _, rp_tyX r, kit_ty (kit_all t a fun kvs e => ?_), q⟩
  subst e
  cases r

/-! ### items, slices -/
theorem sign_ok {x : Str} {i : Int} {c : Nat} (h : PyData.strOk x = true) (e : atI x.cps.toList i = some c) : PyData.strOk ⟨#[c]⟩ = true := by
  obtain ⟨j, _, h2, _⟩ := atI_get e
  have h3 : c ∈ x.cps := by
    have := List.mem_of_getElem? h2
    simpa using this
  have h4 := Array.all_eq_true_iff_forall_mem.mp (show x.cps.all (· < 0x110000) = true from h) c h3
  show (#[c] : Array Nat).all (· < 0x110000) = true
  simpa using h4
theorem RpAll.atI {K : PySem.W.Frag} {H : Hp} {ds : List PyData} {vs : List V} {i : Int} {d : PyData} (r : RpAll K H vs ds) (h : L2.atI ds i = some d) : ∃ v, L2.atI vs i = some v ∧ Rp K H v d := by
  unfold L2.atI at h ⊢
  rw [r.length]
  obtain ⟨j, h1, h2⟩ := Option.bind_eq_some_iff.mp h
  obtain ⟨v, h3, h4⟩ := r.get h2
  exact ⟨v, by rw [h1]; exact h3, h4⟩
def rIxD (K : PySem.W.Frag) : R2 := fun x y H Q => ∃ Hf a b d, Sub H Hf ∧ RB K H Hf x a ∧ Rp K Hf y b ∧ ixD a b = some d ∧ KF K H Hf d Q
theorem ixD_ok : IxR X (rIxD X.K) := by
  intro value slice pins s σ H x y v u Q I rx ry h hpl
  obtain ⟨Hf, a, b, d, sub, ra, rb, hd, k⟩ := h
  refine ix_seq value slice pins s σ H x y v u Q I rx ry ?_ hpl
  cases b with
  | int i =>
    cases rb
    cases a with
    | list ds =>
      obtain ⟨p, vs, rfl, s1, z, rr⟩ := ra.list sub
      obtain ⟨w, h1, h2⟩ := rr.atI (show atI ds i = some d from hd)
      exact .inl ⟨p, vs, i, w, rfl, rfl, s1, h1, k.here sub h2⟩
    | tuple ds =>
      obtain ⟨p, vs, rfl, s1, z, rr⟩ := ra.tuple
      obtain ⟨w, h1, h2⟩ := rr.atI (show atI ds i = some d from hd)
      exact .inr (.inl ⟨p, vs, i, w, rfl, rfl, sqT_mono sub s1, h1, k.here sub h2⟩)
    | str z =>
      obtain ⟨rfl, h1, h2⟩ := ra.str
      obtain ⟨c, h3, rfl⟩ := Option.map_eq_some_iff.mp (show (atI z.cps.toList i).map (fun c => PyData.str ⟨#[c]⟩) = some d from hd)
      exact .inr (.inr ⟨z, i, c, rfl, rfl, h1, h3, k.here sub (.str _ (by show 1 ≤ sizeLine; decide) (sign_ok h2 h3))⟩)
    | _ => exact nomatch hd
  | _ => cases a <;> exact nomatch hd
theorem RpAll.cut {K : PySem.W.Frag} {H : Hp} {ds : List PyData} {vs : List V} (r : RpAll K H vs ds) (lo hi : Option Int) : RpAll K H (cutV vs lo hi) (cutD ds lo hi) := by
  unfold cutV cutD
  rw [r.length]
  exact (r.drop _).take _
def rSlD (K : PySem.W.Frag) : V → Option Int → Option Int → Hp → VK → Prop := fun x lo hi H Q => ∃ Hf a d, Sub H Hf ∧ RB K H Hf x a ∧ slD a lo hi = some d ∧ KF K H Hf d Q
theorem slD_ok : SlR X (rSlD X.K) := by
  intro pins s σ H x v vl vu lo hi sl Q I rx hs pl pu h
  obtain ⟨Hf, a, d, sub, ra, hd, k⟩ := h
  cases a with
  | list ds =>
    obtain ⟨p, vs, rfl, s1, z, rr⟩ := ra.list sub
    cases hd
    exact sl_list pins s σ H _ v vl vu lo hi sl Q I rx hs pl pu ⟨p, vs, rfl, s1, k.newL sub (Nat.le_trans (cutV_length vs lo hi) z) (rr.cut lo hi)⟩
  | tuple ds =>
    obtain ⟨p, vs, rfl, s1, z, rr⟩ := ra.tuple
    cases hd
    refine sl_tupA pins s σ H _ v vl vu lo hi sl Q I rx hs pl pu ⟨p, vs, rfl, sqT_mono sub s1, fun e => ?_, fun _ => k.newT sub (Nat.le_trans (cutV_length vs lo hi) z) (rr.cut lo hi)⟩
    have e2 : cutD ds lo hi = ds := by
      unfold cutD
      rw [← rr.length, e.1, e.2, List.drop_zero, Nat.sub_zero, rr.length, List.take_length]
    rw [e2] at k
    exact k.here sub (.tup s1 z rr)
  | _ => exact nomatch hd

/-! ### methods -/
theorem joinLen_eq (n : Nat) : ∀ xs : List Str, joinLen n xs = (xs.map (·.length)).sum + xs.length * n
  | [] => by simp [joinLen]
  | x :: r => by
    rw [joinLen, joinLen_eq n r, List.map_cons, List.sum_cons, List.length_cons, Nat.succ_mul]
    omega
theorem join_ok {a : Str} (ha : PyData.strOk a = true) : ∀ ys : List Str, (∀ y ∈ ys, PyData.strOk y = true) → PyData.strOk (Str.join a ys) = true ∧ (Str.join a ys).length ≤ joinLen a.length ys
  | [], _ => ⟨by show PyData.strOk Str.empty = true; decide +kernel, Nat.zero_le _⟩
  | [y], h => ⟨h y (by simp), by show y.length ≤ y.length + a.length + 0; omega⟩
  | y :: z :: r, h => by
    obtain ⟨h1, h2⟩ := join_ok ha (z :: r) (fun w hw => h w (List.mem_cons_of_mem _ hw))
    have e : Str.join a (y :: z :: r) = y ++ a ++ Str.join a (z :: r) := rfl
    rw [e]
    refine ⟨strOk_app (strOk_app (h y (by simp)) ha) h1, ?_⟩
    rw [len_app, len_app]
    have e2 : joinLen a.length (y :: z :: r) = y.length + a.length + joinLen a.length (z :: r) := rfl
    omega
theorem RpAll.strOks {K : PySem.W.Frag} {H : Hp} : ∀ {ns : List Str} {vs : List V}, RpAll K H vs (ns.map PyData.str) → ∀ y ∈ ns, PyData.strOk y = true
  | [], _, _ => fun y hy => absurd hy (by simp)
  | n :: ns, _, h => by
    cases h with
    | cons a b =>
      cases a with
      | str _ _ w =>
        intro y hy
        rcases List.mem_cons.mp hy with rfl | hy
        · exact w
        · exact RpAll.strOks b y hy
def rMet (K : PySem.W.Frag) (g : PyData → PyData → Option PyData) : V → List V → Hp → VK → Prop := fun x xs H Q => ∃ y Hf a b d, xs = [y] ∧ Sub H Hf ∧ RB K H Hf x a ∧ RB K H Hf y b ∧ g a b = some d ∧ KF K H Hf d Q
theorem MtR.imp {id : String} {r r' : V → List V → Hp → VK → Prop} (h : MtR X id r) (i : ∀ x xs H Q, r' x xs H Q → r x xs H Q) : MtR X id r' :=
  fun pins s σ H x xs v us Q I rx rs q => h pins s σ H x xs v us Q I rx rs (i _ _ _ _ q)
theorem joinD_ok : MtR X "str.join" (rMet X.K joinD) := by
  refine MtR.imp mt_join fun x xs H Q ⟨y, Hf, a, b, d, e, sub, ra, rb, hd, k⟩ => ?_
  subst e
  cases a with
  | str s =>
    cases b with
    | list ds =>
      obtain ⟨rfl, h1, h2⟩ := ra.str
      obtain ⟨p, vs, rfl, s1, z, rr⟩ := rb.list sub
      have hd' : ((strsOf ds).bind fun xs => if joinLen s.length xs ≤ sizeLine then some (PyData.str (Str.join s xs)) else none) = some d := hd
      obtain ⟨xs, h3, h4⟩ := Option.bind_eq_some_iff.mp hd'
      by_cases c : joinLen s.length xs ≤ sizeLine
      · rw [if_pos c] at h4
        cases h4
        rw [strsOf_some h3] at rr
        have hs := rr.strOks
        rw [rr.strs] at s1
        obtain ⟨j1, j2⟩ := join_ok h2 xs hs
        have c2 := c
        rw [joinLen_eq, sizeLine_eq] at c2
        exact ⟨s, p, xs, rfl, rfl, .inl s1, c2, by rw [TL.join_eq]; exact k.here sub (.str _ (Nat.le_trans j2 c) j1)⟩
      · rw [if_neg c] at h4; cases h4
    | _ => exact nomatch hd
  | _ => cases b <;> exact nomatch hd
theorem indexD_some {k : PyData} : ∀ {ds : List PyData} {j : Nat}, indexD k ds = some j → ∃ z, ds[j]? = some z ∧ PyData.eqv z k = true ∧ ∀ (m : Nat) (z' : PyData), m < j → ds[m]? = some z' → PyData.eqv z' k = false
  | [], _, h => by cases h
  | d :: r, j, h => by
    have h' : (if PyData.eqv d k = true then some 0 else (indexD k r).map (· + 1)) = some j := h
    by_cases c : PyData.eqv d k = true
    · rw [if_pos c] at h'
      cases h'
      exact ⟨d, rfl, c, fun m _ hm => absurd hm (Nat.not_lt_zero _)⟩
    · rw [if_neg c] at h'
      obtain ⟨i, h1, rfl⟩ := Option.map_eq_some_iff.mp h'
      obtain ⟨z, h2, h3, h4⟩ := indexD_some h1
      refine ⟨z, by simpa using h2, h3, fun m z' hm hz => ?_⟩
      cases m with
      | zero =>
        have : d = z' := Option.some.inj (by simpa using hz)
        subst this
        exact Bool.eq_false_iff.mpr c
      | succ m => exact h4 m z' (by omega) (by simpa using hz)
theorem index_run (hu : X.A.units + 65 < cLine) : MtR X "list.index" (fun x xs H Q => ∃ (a : Addr) (y : V) (d : PyData) (ds : List PyData) (j : Nat), x = V.ref a ∧ xs = [y] ∧ Rp X.K H (V.ref a) (.list ds) ∧ Rp X.K H y d ∧ inOk ds d = true ∧ indexD d ds = some j ∧ Q (.int (j : Nat)) H) := by
  intro pins s σ H x xs v us Q I rx rxs h
  obtain ⟨a, y, d, ds, j, rfl, rfl, hl, hy, hin, hj, q⟩ := h
  obtain ⟨z, hz, hzj, hno⟩ := indexD_some hj
  cases rx
  cases rxs with
  | cons ry rt =>
    rename_i uy ut
    cases rt
    obtain ⟨bs, r1⟩ := Dp.reads I d y uy (hy.dp _ _) ry
    have hxs : PyData.canLayAll0 ds = true := by
      have := hl.lay _ _
      simpa [PyData.canLay0] using this
    have hroom : X.A.units + 1 + min (PyData.depthAll ds) d.depth < cLine := by
      have := of_decide_eq_true hin
      omega
    cases hl.dp _ _ with
    | lst hs ha =>
      obtain ⟨its, rv, ⟨⟨cls, dd, data, sls⟩, n, ho, hc, hdn, hdt⟩, hlen⟩ := I.list hs
      simp only at hc hdt
      subst hc hdt
      obtain ⟨as, h4⟩ := Dp.readsAll I ds _ its ha rv
      have hn : its.length = ds.length := SeqAt.ReadsAll.length ds its as h4
      have hmap : its.map (SeqAt.readOf s.heap) = ds := SeqAt.readsAll_map ds its as hxs h4
      have hvl := rv.length
      have hsl := sizeLine_eq
      obtain ⟨hjd, _⟩ := List.getElem?_eq_some_iff.mp hz
      have hjl : j < its.length := by omega
      have hj : j < its.toArray.size := by simpa using hjl
      have at_ : ∀ (m : Nat) (hm : m < its.toArray.size) (z' : PyData), ds[m]? = some z' → SeqAt.readOf s.heap its.toArray[m] = z' := by
        intro m hm z' hz'
        have hml : m < its.length := by simpa using hm
        rw [← hmap, List.getElem?_map, List.getElem?_eq_getElem hml] at hz'
        have e1 : SeqAt.readOf s.heap its[m] = z' := Option.some.inj (show some (SeqAt.readOf s.heap its[m]) = some z' from hz')
        simpa using e1
      refine call_meets PySem.F.slot_list_index ⟨_, ho, rfl⟩ PySem.F.entry_list_index (PySem.F.args_list_index_2 _ _)
        (SeqAt.list_indexAt a its.toArray n dd sls uy (fun u => PyData.eqv (SeqAt.readOf s.heap u) d) j hj (by omega) ?_ ?_) ⟨ho, SeqAt.items_eqAt (vs := its.toArray) (show ReadsAll s.heap its.toArray.toList ds as from h4) r1 hxs (hy.lay _ _) hroom, ?_⟩
      · show PyData.eqv (SeqAt.readOf s.heap its.toArray[j]) d = true
        rw [at_ j hj z hz]
        exact hzj
      · intro m hm hmj
        have hmd : m < ds.length := by omega
        have hz' : ds[m]? = some ds[m] := List.getElem?_eq_getElem hmd
        show PyData.eqv (SeqAt.readOf s.heap its.toArray[m]) d = false
        rw [at_ m hm _ hz']
        exact hno m _ hmj hz'
      · exact ⟨.int (j : Nat), H, I.tok _, ⟨_, rfl⟩, q⟩
theorem idxD_ok (hu : X.A.units + 65 < cLine) : MtR X "list.index" (rMet X.K idxD) := by
  refine MtR.imp (index_run hu) fun x xs H Q ⟨y, Hf, a, b, d, e, sub, ra, rb, hd, k⟩ => ?_
  subst e
  cases a with
  | list ds =>
    have hd' : (if inOk ds b = true then (indexD b ds).map fun (j : Nat) => PyData.int (j : Int) else none) = some d := hd
    by_cases c : inOk ds b = true
    · rw [if_pos c] at hd'
      obtain ⟨j, h1, rfl⟩ := Option.map_eq_some_iff.mp hd'
      have r1 := ra.rp sub
      obtain ⟨p, vs, rfl, _⟩ := ra.list sub
      exact ⟨p, y, b, ds, j, rfl, rfl, r1, rb.rp sub, c, h1, k.here sub (.int _)⟩
    · rw [if_neg c] at hd'; cases hd'
  | _ => cases b <;> exact nomatch hd
end
end Ev

/-! EvE: expressions, one construct at a time. -/
namespace Ev
variable [Memo]
open PySem PySem.Spec PyProof.Rows L2

/-! ### readings -/
def tF (K : PySem.W.Frag) (f : Rho → Option PyData) : TE := fun σ H Q => ∃ Hf ρ d, ER K σ H Hf ρ ∧ f ρ = some d ∧ KF K H Hf d Q
def tBm (K : PySem.W.Frag) (f : Rho → Option PyData) : TE := fun σ H Q => ∃ Hf ρ d, ER K σ H Hf ρ ∧ f ρ = some d ∧ ∀ v H' Hf', Ext H Hf H' Hf' → RB K H' Hf' v d → Q v H'
def tT (K : PySem.W.Frag) (f : Rho → Option PyData) : TT := fun σ H Q => ∃ Hf ρ b, ER K σ H Hf ρ ∧ boolOf (f ρ) = some b ∧ ∀ H' Hf', Ext H Hf H' Hf' → Q b H'
def tAs (K : PySem.W.Frag) (f : Rho → Option (List PyData)) : TA := fun σ H Q => ∃ Hf ρ ds, ER K σ H Hf ρ ∧ f ρ = some ds ∧ ∀ vs H' Hf', Ext H Hf H' Hf' → RpAll K Hf' vs ds → Q vs H'

theorem boolOf_some {o : Option PyData} {b : Bool} (h : boolOf o = some b) : o = some (.bool b) := by
  cases o with
  | none => cases h
  | some d => cases d <;> first | (cases h; rfl) | cases h
section
variable {X : Cx}
theorem PEimp {e : Expr} {t t' : TE} (h : PE X e t) (i : ∀ σ H Q, t' σ H Q → t σ H Q) : PE X e t' := ⟨fun pins s σ H Q I q => h.run pins s σ H Q I (i _ _ _ q)⟩
theorem PTimp {e : Expr} {t t' : TT} (h : PT X e t) (i : ∀ σ H Q, t' σ H Q → t σ H Q) : PT X e t' := ⟨fun pins s σ H Q I q => h.run pins s σ H Q I (i _ _ _ q)⟩
theorem PWimp {e : Expr} {t t' : TT} (h : PW X e t) (i : ∀ σ H Q, t' σ H Q → t σ H Q) : PW X e t' := ⟨fun wh pins s σ H Q I q => h.run wh pins s σ H Q I (i _ _ _ q)⟩
theorem PAimp {es : List Expr} {t t' : TA} (h : PA X es t) (i : ∀ σ H Q, t' σ H Q → t σ H Q) : PA X es t' := ⟨fun pos pins s σ H Q I q => h.run pos pins s σ H Q I (i _ _ _ q)⟩
/-- what a frozen result is good for -/
theorem tF_B {K : PySem.W.Frag} {f : Rho → Option PyData} {σ : L2.St} {H : Hp} {Q : VK} (h : tBm K f σ H Q) : tF K f σ H Q := by
  obtain ⟨Hf, ρ, d, r, hd, k⟩ := h
  exact ⟨Hf, ρ, d, r, hd, fun v H' Hf' e rv => k v H' Hf' e (.inl rv)⟩
theorem bor_F {e : Expr} {p : PX} {f : Rho → Option PyData} (hv : ∀ i, p ≠ .var i) (h : PE X e (tF X.K f)) : PE X e (tBm X.K fun ρ => bor p ρ (f ρ)) := by
  have e1 : (fun ρ => bor p ρ (f ρ)) = f := by
    funext ρ
    cases p with
    | var i => exact absurd rfl (hv i)
    | _ => rfl
  rw [e1]
  exact PEimp h fun σ H Q q => tF_B q
theorem bor_var {e : Expr} {i : Nat} (h : PE X e (tVar i)) : PE X e (tBm X.K fun ρ => bor (.var i) ρ (getV i ρ)) := by
  refine PEimp h fun σ H Q ⟨Hf, ρ, d, r, hd, k⟩ => ?_
  have hd' : (match ρ[i]? with | some (.own ds) => some (PyData.list ds) | _ => getV i ρ) = some d := hd
  cases q : ρ[i]? with
  | none => rw [q] at hd'; simp only [getV, q] at hd'; cases hd'
  | some s =>
    cases s with
    | un => rw [q] at hd'; simp only [getV, q] at hd'; cases hd'
    | dic _ _ => rw [q] at hd'; simp only [getV, q] at hd'; cases hd'
    | val c =>
      rw [q] at hd'
      simp only [getV, q] at hd'
      cases hd'
      obtain ⟨v, h1, h2⟩ := r.val i d q
      exact ⟨v, h1, k v H Hf (Ext.refl r.sub) (.inl h2)⟩
    | own ds =>
      rw [q] at hd'
      cases hd'
      obtain ⟨p, vs, h1, h2, h3, h4, h5⟩ := r.own i ds q
      exact ⟨_, h1, k _ H Hf (Ext.refl r.sub) (.inr ⟨p, vs, ds, rfl, rfl, h2, h3, h4⟩)⟩
theorem pf_var {e : Expr} {i : Nat} (h : PE X e (tVar i)) : PE X e (tF X.K (getV i)) := by
  refine PEimp h fun σ H Q ⟨Hf, ρ, d, r, hd, k⟩ => ?_
  cases q : ρ[i]? with
  | none => simp only [getV, q] at hd; cases hd
  | some s =>
    cases s with
    | un => simp only [getV, q] at hd; cases hd
    | own ds => simp only [getV, q] at hd; cases hd
    | dic _ _ => simp only [getV, q] at hd; cases hd
    | val c =>
      simp only [getV, q] at hd
      cases hd
      obtain ⟨v, h1, h2⟩ := r.val i d q
      exact ⟨v, h1, k.here r.sub h2⟩
/-- a value that hangs on nothing -/
theorem pf_const {e : Expr} {v : V} {d : PyData} (h : PE X e (tC v)) (r : ∀ H, Rp X.K H v d) : PE X e (tF X.K fun _ => some d) := by
  refine PEimp h fun σ H Q ⟨Hf, ρ, d', er, hd, k⟩ => ?_
  cases hd
  exact k.here er.sub (r _)
/-- as a test -/
theorem pt_of {e : Expr} {f : Rho → Option PyData} (h : PE X e (tF X.K f)) (he : ∀ whole, isTrue e X.env whole = (do let v ← whole; standAt e.pos; holding [v] (truthy v))) : PT X e (tT X.K f) := by
  refine PTimp (pt_val h he) fun σ H Q ⟨Hf, ρ, b, er, hb, k⟩ => ?_
  refine ⟨Hf, ρ, .bool b, er, boolOf_some hb, fun v H' Hf' e rv => ?_⟩
  cases rv
  exact ⟨b, rfl, k H' Hf' e⟩
/-- two operands -/
theorem two {K : PySem.W.Frag} {fa fb : Rho → Option PyData} {σ : L2.St} {H Hf : Hp} {ρ : Rho} {a b : PyData} {R : V → V → Hp → Prop} (er : ER K σ H Hf ρ) (ha : fa ρ = some a) (hb : fb ρ = some b)
    (k : ∀ x y H' Hf', Ext H Hf H' Hf' → Rp K Hf' x a → Rp K Hf' y b → R x y H') : tF K fa σ H fun x H1 => tF K fb σ H1 fun y H2 => R x y H2 :=
  ⟨Hf, ρ, a, er, ha, fun x H1 Hf1 e1 r1 => ⟨Hf1, ρ, b, er.ext e1, hb, fun y H2 Hf2 e2 r2 => k x y H2 Hf2 (e1.trans e2) (r1.mono e2.fr _ _) r2⟩⟩
theorem twoB {K : PySem.W.Frag} {fa fb : Rho → Option PyData} {σ : L2.St} {H Hf : Hp} {ρ : Rho} {a b : PyData} {R : V → V → Hp → Prop} (er : ER K σ H Hf ρ) (ha : fa ρ = some a) (hb : fb ρ = some b)
    (k : ∀ x y H' Hf', Ext H Hf H' Hf' → RB K H' Hf' x a → RB K H' Hf' y b → R x y H') : tBm K fa σ H fun x H1 => tBm K fb σ H1 fun y H2 => R x y H2 :=
  ⟨Hf, ρ, a, er, ha, fun x H1 Hf1 e1 r1 => ⟨Hf1, ρ, b, er.ext e1, hb, fun y H2 Hf2 e2 r2 => k x y H2 Hf2 (e1.trans e2) (r1.ext e2) r2⟩⟩
theorem twoBF {K : PySem.W.Frag} {fa fb : Rho → Option PyData} {σ : L2.St} {H Hf : Hp} {ρ : Rho} {a b : PyData} {R : V → V → Hp → Prop} (er : ER K σ H Hf ρ) (ha : fa ρ = some a) (hb : fb ρ = some b)
    (k : ∀ x y H' Hf', Ext H Hf H' Hf' → RB K H' Hf' x a → Rp K Hf' y b → R x y H') : tBm K fa σ H fun x H1 => tF K fb σ H1 fun y H2 => R x y H2 :=
  ⟨Hf, ρ, a, er, ha, fun x H1 Hf1 e1 r1 => ⟨Hf1, ρ, b, er.ext e1, hb, fun y H2 Hf2 e2 r2 => k x y H2 Hf2 (e1.trans e2) (r1.ext e2) r2⟩⟩
theorem KF.ext {K : PySem.W.Frag} {H Hf H' Hf' : Hp} {d : PyData} {Q : VK} (k : KF K H Hf d Q) (e : Ext H Hf H' Hf') : KF K H' Hf' d Q := fun v H2 Hf2 e2 r => k v H2 Hf2 (e.trans e2) r
variable {a b c : Expr} {fa fb fc : Rho → Option PyData} {pos : Pos}
theorem pf_bin {op : BOp} (ha : PE X a (tF X.K fa)) (hb : PE X b (tF X.K fb)) : PE X (.BinOp a (bopOp op) b pos) (tF X.K fun ρ => (fa ρ).bind fun x => (fb ρ).bind fun y => bop op x y) := by
  refine PEimp (pe_op (bop_ok op) ha hb) fun σ H Q ⟨Hf, ρ, d, er, hd, k⟩ => ?_
  obtain ⟨x, h1, hd⟩ := Option.bind_eq_some_iff.mp hd
  obtain ⟨y, h2, hd⟩ := Option.bind_eq_some_iff.mp hd
  exact two er h1 h2 fun u v H' Hf' e r1 r2 => ⟨Hf', x, y, d, e.sub, r1, r2, hd, k.ext e⟩
theorem pf_neg (ha : PE X a (tF X.K fa)) : PE X (.UnaryOp .USub a pos) (tF X.K fun ρ => (fa ρ).bind fun x => (intOf x).map fun i => .int (-i)) := by
  refine PEimp (pe_un un_neg ha) fun σ H Q ⟨Hf, ρ, d, er, hd, k⟩ => ?_
  obtain ⟨x, h1, hd⟩ := Option.bind_eq_some_iff.mp hd
  obtain ⟨i, h2, rfl⟩ := Option.map_eq_some_iff.mp hd
  have h3 : x = .int i := by cases x <;> first | (cases h2; rfl) | cases h2
  subst h3
  refine ⟨Hf, ρ, _, er, h1, fun v H' Hf' e r => ?_⟩
  cases r
  exact ⟨i, rfl, (k.ext e).here e.sub (.int _)⟩
theorem pf_not (ha : PE X a (tF X.K fa)) : PE X (.UnaryOp .Not a pos) (tF X.K fun ρ => (boolOf (fa ρ)).map fun b => .bool (!b)) := by
  refine PEimp (pe_not ha) fun σ H Q ⟨Hf, ρ, d, er, hd, k⟩ => ?_
  obtain ⟨i, h2, rfl⟩ := Option.map_eq_some_iff.mp hd
  refine ⟨Hf, ρ, _, er, boolOf_some h2, fun v H' Hf' e r => ?_⟩
  cases r
  exact ⟨i, rfl, (k.ext e).here e.sub (.bl _)⟩
theorem ptt_not (ha : PT X a (tT X.K fa)) : PT X (.UnaryOp .Not a pos) (tT X.K fun ρ => (boolOf (fa ρ)).map fun b => .bool (!b)) := by
  refine PTimp (pt_not ha) fun σ H Q ⟨Hf, ρ, b, er, hb, k⟩ => ?_
  have h1 := boolOf_some hb
  obtain ⟨i, h2, h3⟩ := Option.map_eq_some_iff.mp h1
  cases h3
  exact ⟨Hf, ρ, i, er, h2, k⟩
/-- and, or -/
abbrev fAnd (fa fb : Rho → Option PyData) : Rho → Option PyData := fun ρ => (boolOf (fa ρ)).bind fun x => if x then fb ρ else some (.bool false)
abbrev fOr (fa fb : Rho → Option PyData) : Rho → Option PyData := fun ρ => (boolOf (fa ρ)).bind fun x => if x then some (.bool true) else fb ρ
theorem pf_and {rest : List Expr} (ha : PE X a (tF X.K fa)) (hb : PE X (.BoolOp .And (b :: rest) pos) (tF X.K fb)) : PE X (.BoolOp .And (a :: b :: rest) pos) (tF X.K (fAnd fa fb)) := by
  refine PEimp (pe_and ha hb) fun σ H Q ⟨Hf, ρ, d, er, hd, k⟩ => ?_
  obtain ⟨x, h1, hd⟩ := Option.bind_eq_some_iff.mp hd
  refine ⟨Hf, ρ, _, er, boolOf_some h1, fun v H' Hf' e r => ?_⟩
  cases r
  refine ⟨x, rfl, ?_⟩
  cases x with
  | true => exact ⟨Hf', ρ, d, er.ext e, hd, k.ext e⟩
  | false => cases hd; exact (k.ext e).here e.sub (.bl _)
theorem pf_or {rest : List Expr} (ha : PE X a (tF X.K fa)) (hb : PE X (.BoolOp .Or (b :: rest) pos) (tF X.K fb)) : PE X (.BoolOp .Or (a :: b :: rest) pos) (tF X.K (fOr fa fb)) := by
  refine PEimp (pe_or ha hb) fun σ H Q ⟨Hf, ρ, d, er, hd, k⟩ => ?_
  obtain ⟨x, h1, hd⟩ := Option.bind_eq_some_iff.mp hd
  refine ⟨Hf, ρ, _, er, boolOf_some h1, fun v H' Hf' e r => ?_⟩
  cases r
  refine ⟨x, rfl, ?_⟩
  cases x with
  | false => exact ⟨Hf', ρ, d, er.ext e, hd, k.ext e⟩
  | true => cases hd; exact (k.ext e).here e.sub (.bl _)
theorem pw_andF {rest : List Expr} (ha : PT X a (tT X.K fa)) (hb : PW X (.BoolOp .And (b :: rest) pos) (tT X.K fb)) : PW X (.BoolOp .And (a :: b :: rest) pos) (tT X.K (fAnd fa fb)) := by
  refine PWimp (pw_and ha hb) fun σ H Q ⟨Hf, ρ, d, er, hd, k⟩ => ?_
  obtain ⟨x, h1, hd⟩ := Option.bind_eq_some_iff.mp (boolOf_some hd)
  refine ⟨Hf, ρ, x, er, h1, fun H' Hf' e => ?_⟩
  cases x with
  | true =>
    rw [if_pos rfl]
    exact ⟨Hf', ρ, d, er.ext e, by rw [show fb ρ = some (.bool d) from hd]; rfl, fun H2 Hf2 e2 => k H2 Hf2 (e.trans e2)⟩
  | false =>
    rw [if_neg Bool.false_ne_true]
    cases hd
    exact k H' Hf' e
theorem pw_orF {rest : List Expr} (ha : PT X a (tT X.K fa)) (hb : PW X (.BoolOp .Or (b :: rest) pos) (tT X.K fb)) : PW X (.BoolOp .Or (a :: b :: rest) pos) (tT X.K (fOr fa fb)) := by
  refine PWimp (pw_or ha hb) fun σ H Q ⟨Hf, ρ, d, er, hd, k⟩ => ?_
  obtain ⟨x, h1, hd⟩ := Option.bind_eq_some_iff.mp (boolOf_some hd)
  refine ⟨Hf, ρ, x, er, h1, fun H' Hf' e => ?_⟩
  cases x with
  | false =>
    rw [if_neg Bool.false_ne_true]
    exact ⟨Hf', ρ, d, er.ext e, by rw [show fb ρ = some (.bool d) from hd]; rfl, fun H2 Hf2 e2 => k H2 Hf2 (e.trans e2)⟩
  | true =>
    rw [if_pos rfl]
    cases hd
    exact k H' Hf' e
/-- comparisons -/
abbrev fCmp (op : COp) (fa fb : Rho → Option PyData) : Rho → Option PyData := fun ρ => (fa ρ).bind fun x => (fb ρ).bind fun y => (cop op x y).map .bool
theorem cmp_in {op : COp} {σ : L2.St} {H : Hp} {Q : VK} (h : tF X.K (fCmp op fa fb) σ H Q) : tOp (rCop X.K op) (tBm X.K fa) (tBm X.K fb) σ H Q := by
  obtain ⟨Hf, ρ, d, er, hd, k⟩ := h
  obtain ⟨x, h1, hd⟩ := Option.bind_eq_some_iff.mp hd
  obtain ⟨y, h2, hd⟩ := Option.bind_eq_some_iff.mp hd
  obtain ⟨c, h3, rfl⟩ := Option.map_eq_some_iff.mp hd
  exact twoB er h1 h2 fun u v H' Hf' e r1 r2 => ⟨x, y, c, r1.rp e.sub, r2.rp e.sub, h3, (k.ext e).here e.sub (.bl _)⟩
theorem pf_cmp {op : COp} (hu : X.A.units + 65 < cLine) (ha : PE X a (tBm X.K fa)) (hb : PE X b (tBm X.K fb)) (hm : behindInMarks (copOp op) b = false) : PE X (.Compare a [copOp op] [b] pos) (tF X.K (fCmp op fa fb)) :=
  PEimp (pe_cmpR (cop_ok hu op) ha hb hm) fun σ H Q h => cmp_in h
theorem ptt_cmp {op : COp} (hu : X.A.units + 65 < cLine) (ha : PE X a (tBm X.K fa)) (hb : PE X b (tBm X.K fb)) (hm : behindInMarks (copOp op) b = false) : PT X (.Compare a [copOp op] [b] pos) (tT X.K (fCmp op fa fb)) := by
  refine PTimp (pt_cmpR (cop_ok hu op) ha hb hm) fun σ H Q ⟨Hf, ρ, d, er, hd, k⟩ => ?_
  refine cmp_in ⟨Hf, ρ, _, er, boolOf_some hd, fun v H' Hf' e r => ?_⟩
  cases r
  exact ⟨d, rfl, k H' Hf' e⟩
/-- is None -/
theorem rb_none {K : PySem.W.Frag} {H Hf : Hp} {v : V} {d : PyData} (h : RB K H Hf v d) : decide (v = .non) = isNone d := by
  rcases h with h | ⟨p, vs, ds, rfl, rfl, _⟩
  · cases h <;> rfl
  · rfl
abbrev fIsN (ng : Bool) (fa : Rho → Option PyData) : Rho → Option PyData := fun ρ => (fa ρ).map fun x => .bool (xor ng (isNone x))
theorem pf_isN {ng : Bool} {j : Nat} {pos' : Pos} (ha : PE X a (tBm X.K fa)) : PE X (.Compare a [if ng then .IsNot else .Is] [.Constant .none j pos'] pos) (tF X.K (fIsN ng fa)) := by
  cases ng with
  | false =>
    refine PEimp (pe_cmp (pc_isN ha) rfl) fun σ H Q ⟨Hf, ρ, d, er, hd, k⟩ => ?_
    obtain ⟨x, h1, rfl⟩ := Option.map_eq_some_iff.mp hd
    refine ⟨Hf, ρ, x, er, h1, fun v H' Hf' e r => ?_⟩
    show Q (.bl (decide (v = .non))) H'
    rw [rb_none r]
    have := (k.ext e).here e.sub (.bl _)
    rwa [Bool.false_xor] at this
  | true =>
    refine PEimp (pe_cmp (pc_notN ha) rfl) fun σ H Q ⟨Hf, ρ, d, er, hd, k⟩ => ?_
    obtain ⟨x, h1, rfl⟩ := Option.map_eq_some_iff.mp hd
    refine ⟨Hf, ρ, x, er, h1, fun v H' Hf' e r => ?_⟩
    show Q (.bl (!decide (v = .non))) H'
    rw [rb_none r]
    have := (k.ext e).here e.sub (.bl _)
    rwa [Bool.true_xor] at this
theorem ptt_isN {ng : Bool} {j : Nat} {pos' : Pos} (ha : PE X a (tBm X.K fa)) : PT X (.Compare a [if ng then .IsNot else .Is] [.Constant .none j pos'] pos) (tT X.K (fIsN ng fa)) := by
  cases ng with
  | false =>
    refine PTimp (pt_cmp (pc_isN ha) rfl) fun σ H Q ⟨Hf, ρ, d, er, hd, k⟩ => ?_
    obtain ⟨x, h1, h2⟩ := Option.map_eq_some_iff.mp (boolOf_some hd)
    cases h2
    refine ⟨Hf, ρ, x, er, h1, fun v H' Hf' e r => ⟨_, rfl, ?_⟩⟩
    rw [rb_none r]
    have := k H' Hf' e
    rwa [Bool.false_xor] at this
  | true =>
    refine PTimp (pt_cmp (pc_notN ha) rfl) fun σ H Q ⟨Hf, ρ, d, er, hd, k⟩ => ?_
    obtain ⟨x, h1, h2⟩ := Option.map_eq_some_iff.mp (boolOf_some hd)
    cases h2
    refine ⟨Hf, ρ, x, er, h1, fun v H' Hf' e r => ⟨_, rfl, ?_⟩⟩
    rw [rb_none r]
    have := k H' Hf' e
    rwa [Bool.true_xor] at this
/-- a < b < c -/
abbrev fChain (o1 o2 : COp) (fa fb fc : Rho → Option PyData) : Rho → Option PyData := fun ρ => (fa ρ).bind fun x => (fb ρ).bind fun y => (cop o1 x y).bind fun k => if k then (fc ρ).bind fun z => (cop o2 y z).map .bool else some (.bool false)
theorem chain_in {o1 o2 : COp} {σ : L2.St} {H : Hp} {Q : VK} (h : tF X.K (fChain o1 o2 fa fb fc) σ H Q) : tChain (rCop X.K o1) (rCop X.K o2) (tF X.K fa) (tF X.K fb) (tF X.K fc) σ H Q := by
  obtain ⟨Hf, ρ, d, er, hd, k⟩ := h
  obtain ⟨x, h1, hd⟩ := Option.bind_eq_some_iff.mp hd
  obtain ⟨y, h2, hd⟩ := Option.bind_eq_some_iff.mp hd
  obtain ⟨c, h3, hd⟩ := Option.bind_eq_some_iff.mp hd
  refine two er h1 h2 fun u v H' Hf' e r1 r2 => ⟨x, y, c, r1.mono e.sub _ _, r2.mono e.sub _ _, h3, c, rfl, ?_⟩
  cases c with
  | false =>
    rw [if_neg Bool.false_ne_true]
    cases hd
    exact (k.ext e).here e.sub (.bl _)
  | true =>
    rw [if_pos rfl]
    obtain ⟨z, h4, hd⟩ := Option.bind_eq_some_iff.mp hd
    obtain ⟨c2, h5, rfl⟩ := Option.map_eq_some_iff.mp hd
    exact ⟨Hf', ρ, z, er.ext e, h4, fun w H2 Hf2 e2 r3 => ⟨y, z, c2, r2.mono (e2.fr.trans e2.sub) _ _, r3.mono e2.sub _ _, h5, ((k.ext e).ext e2).here e2.sub (.bl _)⟩⟩
/-- a if c else b -/
theorem pf_ife (hc : PT X c (tT X.K fc)) (ha : PE X a (tF X.K fa)) (hb : PE X b (tF X.K fb)) : PE X (.IfExp c a b pos) (tF X.K fun ρ => (boolOf (fc ρ)).bind fun x => if x then fa ρ else fb ρ) := by
  refine PEimp (pe_ifExp hc ha hb) fun σ H Q ⟨Hf, ρ, d, er, hd, k⟩ => ?_
  obtain ⟨x, h1, hd⟩ := Option.bind_eq_some_iff.mp hd
  refine ⟨Hf, ρ, x, er, h1, fun H' Hf' e => ?_⟩
  cases x with
  | true => exact ⟨Hf', ρ, d, er.ext e, hd, k.ext e⟩
  | false => exact ⟨Hf', ρ, d, er.ext e, hd, k.ext e⟩
/-- argument lists -/
theorem pa_nilF : PA X [] (tAs X.K fun _ => some []) := PAimp pa_nil fun σ H Q ⟨Hf, ρ, ds, er, hd, k⟩ => by
  cases hd
  exact k [] H Hf (Ext.refl er.sub) .nil
theorem pa_consF {es : List Expr} {fs : Rho → Option (List PyData)} (ha : PE X a (tF X.K fa)) (hr : PA X es (tAs X.K fs)) (hs : starEach (a :: es) X.env = (false, eval a X.env) :: starEach es X.env) :
    PA X (a :: es) (tAs X.K fun ρ => (fa ρ).bind fun d => (fs ρ).map (d :: ·)) := by
  refine PAimp (pa_cons ha hr hs) fun σ H Q ⟨Hf, ρ, ds, er, hd, k⟩ => ?_
  obtain ⟨x, h1, hd⟩ := Option.bind_eq_some_iff.mp hd
  obtain ⟨xs, h2, rfl⟩ := Option.map_eq_some_iff.mp hd
  exact ⟨Hf, ρ, x, er, h1, fun v H1 Hf1 e1 r1 => ⟨Hf1, ρ, xs, er.ext e1, h2, fun vs H2 Hf2 e2 r2 => k (v :: vs) H2 Hf2 (e1.trans e2) (.cons (r1.mono e2.fr _ _) r2)⟩⟩
theorem pf_tup {es : List Expr} {x1 : Nat} {fs : Rho → Option (List PyData)} (h : PA X es (tAs X.K fs)) : PE X (.Tuple es x1 pos) (tF X.K fun ρ => (fs ρ).bind fun ds => if ds.length ≤ 1000 then some (.tuple ds) else none) := by
  refine PEimp (pe_tup h) fun σ H Q ⟨Hf, ρ, d, er, hd, k⟩ => ?_
  obtain ⟨ds, h1, hd⟩ := Option.bind_eq_some_iff.mp hd
  by_cases c : ds.length ≤ 1000
  · rw [if_pos c] at hd
    cases hd
    refine ⟨Hf, ρ, ds, er, h1, fun vs H' Hf' e r => ?_⟩
    have z : vs.length ≤ sizeLine := by rw [r.length, sizeLine_eq]; omega
    exact ⟨z, (k.ext e).newT e.sub z r⟩
  · rw [if_neg c] at hd; cases hd
/-- a new list, not yet frozen -/
def tO (K : PySem.W.Frag) (f : Rho → Option PyData) : TE := fun σ H Q => ∃ Hf ρ ds, ER K σ H Hf ρ ∧ f ρ = some (.list ds) ∧
  ∀ p vs H' Hf', Ext H Hf H' Hf' → H p = none → H' p = some (.lst vs) → Hf' p = none → vs.length ≤ sizeLine → RpAll K Hf' vs ds → Q (.ref p) H'
/-- frozen at once -/
theorem tO_F {K : PySem.W.Frag} {f : Rho → Option PyData} {σ : L2.St} {H : Hp} {Q : VK} (hl : ∀ ρ d, f ρ = some d → ∃ ds, d = .list ds) (h : tF K f σ H Q) : tO K f σ H Q := by
  obtain ⟨Hf, ρ, d, er, hd, k⟩ := h
  obtain ⟨ds, rfl⟩ := hl ρ d hd
  refine ⟨Hf, ρ, ds, er, hd, fun p vs H' Hf' e hp hp' hn z r => ?_⟩
  exact k (.ref p) H' (upd Hf' p (.lst vs)) (e.frz hp hn hp') (.lst (.of upd_same) z (r.mono (same_upd hn _) _ _))
theorem po_lst {es : List Expr} {fs : Rho → Option (List PyData)} (h : PA X es (tAs X.K fs)) : PE X (.List es pos) (tO X.K fun ρ => (fs ρ).bind fun ds => if ds.length ≤ 1000 then some (.list ds) else none) := by
  refine PEimp (pe_lst h) fun σ H Q ⟨Hf, ρ, d0, er, hd, k⟩ => ?_
  obtain ⟨ds, h1, hd⟩ := Option.bind_eq_some_iff.mp hd
  by_cases c : ds.length ≤ 1000
  · rw [if_pos c] at hd
    obtain rfl : ds = d0 := by injection hd with hd; injection hd
    refine ⟨Hf, ρ, ds, er, h1, fun vs H' Hf' e r => ?_⟩
    have z : vs.length ≤ sizeLine := by rw [r.length, sizeLine_eq]; omega
    refine ⟨z, fun p hp => ?_⟩
    exact k p vs _ Hf' (e.trans (Ext.allocO e.sub hp _)) (e.free hp) upd_same (sub_none e.sub hp) z r
  · rw [if_neg c] at hd; cases hd
/-- items, slices -/
theorem pf_ix (ha : PE X a (tBm X.K fa)) (hb : PE X b (tF X.K fb)) (hs : PlainIx b) : PE X (.Subscript a b pos) (tF X.K fun ρ => (fa ρ).bind fun x => (fb ρ).bind fun y => ixD x y) := by
  refine PEimp (pe_ix ixD_ok ha hb hs) fun σ H Q ⟨Hf, ρ, d, er, hd, k⟩ => ?_
  obtain ⟨x, h1, hd⟩ := Option.bind_eq_some_iff.mp hd
  obtain ⟨y, h2, hd⟩ := Option.bind_eq_some_iff.mp hd
  exact twoBF er h1 h2 fun u v H' Hf' e r1 r2 => ⟨Hf', x, y, d, e.sub, r1, r2, hd, k.ext e⟩
def tPO (K : PySem.W.Frag) (f : Rho → Option (Option Int)) : TO := fun σ H Q => ∃ Hf ρ o, ER K σ H Hf ρ ∧ f ρ = some o ∧ ∀ H' Hf', Ext H Hf H' Hf' → Q o H'
theorem POimp {e : Option Expr} {t t' : TO} (h : PO X e t) (i : ∀ σ H Q, t' σ H Q → t σ H Q) : PO X e t' := ⟨fun pins s σ H Q I q => h.run pins s σ H Q I (i _ _ _ q)⟩
theorem po_noneF : PO X none (tPO X.K fun _ => some none) := POimp po_none fun σ H Q ⟨Hf, ρ, o, er, hd, k⟩ => by
  cases hd
  exact k H Hf (Ext.refl er.sub)
theorem po_someF (ha : PE X a (tF X.K fa)) : PO X (some a) (tPO X.K fun ρ => (fa ρ).bind fun l => (intOf l).map some) := POimp (po_some ha) fun σ H Q ⟨Hf, ρ, o, er, hd, k⟩ => by
  obtain ⟨x, h1, hd⟩ := Option.bind_eq_some_iff.mp hd
  obtain ⟨i, h2, rfl⟩ := Option.map_eq_some_iff.mp hd
  have h3 : x = .int i := by cases x <;> first | (cases h2; rfl) | cases h2
  subst h3
  refine ⟨Hf, ρ, _, er, h1, fun v H' Hf' e r => ?_⟩
  cases r
  exact ⟨i, rfl, k H' Hf' e⟩
theorem pf_slc {lo hi : Option Expr} {p2 : Pos} {fl fh : Rho → Option (Option Int)} (ha : PE X a (tBm X.K fa)) (hl : PO X lo (tPO X.K fl)) (hh : PO X hi (tPO X.K fh)) :
    PE X (.Subscript a (.Slice lo hi none p2) pos) (tF X.K fun ρ => (fa ρ).bind fun x => (fl ρ).bind fun l => (fh ρ).bind fun h => slD x l h) := by
  refine PEimp (pe_slice slD_ok ha hl hh) fun σ H Q ⟨Hf, ρ, d, er, hd, k⟩ => ?_
  obtain ⟨x, h1, hd⟩ := Option.bind_eq_some_iff.mp hd
  obtain ⟨l, h2, hd⟩ := Option.bind_eq_some_iff.mp hd
  obtain ⟨h, h3, hd⟩ := Option.bind_eq_some_iff.mp hd
  exact ⟨Hf, ρ, x, er, h1, fun v H1 Hf1 e1 r1 => ⟨Hf1, ρ, l, er.ext e1, h2, fun H2 Hf2 e2 => ⟨Hf2, ρ, h, (er.ext e1).ext e2, h3, fun H3 Hf3 e3 =>
    ⟨Hf3, x, d, e3.sub, (r1.ext e2).ext e3, hd, ((k.ext e1).ext e2).ext e3⟩⟩⟩⟩
theorem pf_rev {k : Nat} {p1 p2 p3 : Pos} (ha : PE X a (tBm X.K fa)) (hl : ∀ ρ d, fa ρ = some d → ∃ ds, d = .list ds) : PE X (.Subscript a (.Slice none none (some (.UnaryOp .USub (.Constant (.int 1) k p1) p2)) p3) pos) (tF X.K fun ρ => (fa ρ).bind revD) := by
  refine PEimp (pe_revL ha) fun σ H Q ⟨Hf, ρ, d, er, hd, k⟩ => ?_
  obtain ⟨x, h1, hd⟩ := Option.bind_eq_some_iff.mp hd
  obtain ⟨ds, rfl⟩ := hl ρ x h1
  cases hd
  refine ⟨Hf, ρ, _, er, h1, fun v H' Hf' e r => ?_⟩
  obtain ⟨p, vs, rfl, s1, z, rr⟩ := r.list e.sub
  exact ⟨p, vs, rfl, s1, (k.ext e).newL e.sub (by rw [List.length_reverse]; exact z) rr.reverse⟩
/-- a built-in of one argument -/
def tB1 (K : PySem.W.Frag) (f : Rho → Option PyData) : TA := fun σ H Q => ∃ Hf ρ d, ER K σ H Hf ρ ∧ f ρ = some d ∧ ∀ v H' Hf', Ext H Hf H' Hf' → RB K H' Hf' v d → Q [v] H'
theorem pa_one (ha : PE X a (tBm X.K fa)) (hs : starEach [a] X.env = (false, eval a X.env) :: starEach [] X.env) : PA X [a] (tB1 X.K fa) := by
  refine PAimp (pa_cons ha pa_nil hs) fun σ H Q ⟨Hf, ρ, ds, er, hd, k⟩ => ?_
  exact ⟨Hf, ρ, ds, er, hd, fun v H' Hf' e r => k v H' Hf' e r⟩
theorem blt_in {bl : Blt} {σ : L2.St} {H : Hp} {Q : VK} (h : tF X.K (fun ρ => (fa ρ).bind fun x => blt bl x) σ H Q) : tCB (rBlt X.K bl) (tB1 X.K fa) σ H Q := by
  obtain ⟨Hf, ρ, d, er, hd, k⟩ := h
  obtain ⟨x, h1, hd⟩ := Option.bind_eq_some_iff.mp hd
  exact ⟨Hf, ρ, x, er, h1, fun v H' Hf' e r => ⟨v, Hf', x, d, rfl, e.sub, r, hd, k.ext e⟩⟩
/-- isinstance -/
theorem pf_isI {t : Ty} {p q pos : Pos} (hg : Gl X "isinstance") (hm : X.mg "isinstance" = none) (hg2 : Gl X (tyStr t)) (hm2 : X.mg (tyStr t) = none) (ha : PE X a (tBm X.K fa)) (hs : ∀ es, starEach (a :: es) X.env = (false, eval a X.env) :: starEach es X.env) :
    PE X (.Call (.Name "isinstance" p) [a, .Name (tyStr t) q] [] pos) (tF X.K fun ρ => (fa ρ).map fun x => .bool (isTy t x)) := by
  have hty : PE X (.Name (tyStr t) q) (tC (.ty (tyName t))) := by
    cases t with
    | int => exact pe_bltn (v := .ty "int") hg2 hm2 PyProof.Rows.boot_int rfl (by decide) (by decide)
    | str => exact pe_bltn (v := .ty "str") hg2 hm2 PyProof.Rows.boot_str rfl (by decide) (by decide)
    | bool => exact pe_bltn (v := .ty "bool") hg2 hm2 PyProof.Rows.boot_bool rfl (by decide) (by decide)
    | tuple => exact pe_bltn (v := .ty "tuple") hg2 hm2 PyProof.Rows.boot_tuple rfl (by decide) (by decide)
    | list => exact pe_bltn (v := .ty "list") hg2 hm2 PyProof.Rows.boot_list rfl (by decide) (by decide)
  refine PEimp (pe_callB (isi_ok t) hg hm PyProof.Rows.boot_isinstance (pa_cons ha (pa_cons hty pa_nil) (hs _)) (by decide) (by decide) (hs _) rfl) fun σ H Q ⟨Hf, ρ, d, er, hd, k⟩ => ?_
  obtain ⟨y, h1, rfl⟩ := Option.map_eq_some_iff.mp hd
  exact ⟨Hf, ρ, y, er, h1, fun v H' Hf' e r => ⟨v, y, rfl, r.rp e.sub, (k.ext e).here e.sub (.bl _)⟩⟩
end
end Ev

/-! EvF: what is walked, comprehensions, calls. -/
namespace Ev
variable [Memo]
open PySem PySem.Spec PyProof.Rows L2

theorem Ext.keepNone {H Hf H' Hf' : Hp} {p : Addr} {o : HO} (e : Ext H Hf H' Hf') (hn : Hf p = none) (hp : H p = some o) : Hf' p = none := by
  cases q : Hf' p with
  | none => rfl
  | some u =>
    rcases e.new p u q with z | z
    · rw [hn] at z; cases z
    · rw [hp] at z; cases z
/-! ### what is walked -/
def GI (K : PySem.W.Frag) (J : It) (ds : List PyData) (Hf1 G : Hp) : Prop := ∀ (i : Nat) (H Hf : Hp), Same Hf1 Hf → Sub H Hf → HardS G H →
  (i = ds.length → J.stop i H) ∧ (∀ d, ds[i]? = some d → J.go i H ∧ ∀ x H', J.yld i H x H' → ∃ Hf', Ext H Hf H' Hf' ∧ Rp K Hf' x d)
def tI (K : PySem.W.Frag) (b : Bool) (f : Rho → Option (List PyData)) : TI := fun σ H R => ∃ Hf ρ ds, ER K σ H Hf ρ ∧ f ρ = some ds ∧
  ∀ J H' Hf', Ext H Hf H' Hf' → ds.length ≤ sizeLine → GI K J ds Hf' (if b then H' else Hf') → R J H'
section
variable {K : PySem.W.Frag} {ds es : List PyData} {vs ws : List V} {a b : Addr} {Hf1 G : Hp}
theorem gi_list (hs : SqL K G a vs) (r : RpAll K Hf1 vs ds) : GI K (Itl K a) ds Hf1 G := fun i H Hf s1 s2 s3 => by
  have hs' := s3.seq hs
  refine ⟨fun e => ⟨vs, hs', by rw [r.length, e]; exact Nat.le_refl _⟩, fun d hd => ?_⟩
  obtain ⟨v, h1, h2⟩ := r.get hd
  refine ⟨⟨vs, v, hs', h1⟩, fun x H' ⟨e, y⟩ => ?_⟩
  subst e
  have := y vs hs'
  rw [h1] at this
  cases this
  exact ⟨Hf, Ext.refl s2, h2.mono s1 _ _⟩
theorem gi_tup (hs : SqT K G a vs) (r : RpAll K Hf1 vs ds) : GI K (Itt K a) ds Hf1 G := fun i H Hf s1 s2 s3 => by
  have hs' := s3.sqT hs
  refine ⟨fun e => ⟨vs, hs', by rw [r.length, e]; exact Nat.le_refl _⟩, fun d hd => ?_⟩
  obtain ⟨v, h1, h2⟩ := r.get hd
  refine ⟨⟨vs, v, hs', h1⟩, fun x H' ⟨e, y⟩ => ?_⟩
  subst e
  have := y vs hs'
  rw [h1] at this
  cases this
  exact ⟨Hf, Ext.refl s2, h2.mono s1 _ _⟩
theorem gi_rng {lo : Int} {n : Nat} : GI K (Itr lo n) ((List.range n).map fun (i : Nat) => PyData.int (lo + (i : Int))) Hf1 G := fun i H Hf s1 s2 s3 => by
  refine ⟨fun e => by simp at e; exact Nat.le_of_eq e.symm, fun d hd => ?_⟩
  rw [List.getElem?_map] at hd
  obtain ⟨j, h1, rfl⟩ := Option.map_eq_some_iff.mp hd
  obtain ⟨h2, h3⟩ := List.getElem?_eq_some_iff.mp h1
  simp at h2 h3
  subst h3
  refine ⟨h2, fun x H' ⟨e, y⟩ => ?_⟩
  subst e y
  exact ⟨Hf, Ext.refl s2, .int _⟩
theorem zipD_get : ∀ {ds es : List PyData} {i : Nat} {d : PyData}, (zipD ds es)[i]? = some d → ∃ x y, ds[i]? = some x ∧ es[i]? = some y ∧ d = .tuple [x, y]
  | [], _, _, _, h => by simp [zipD] at h
  | _ :: _, [], _, _, h => by simp [zipD] at h
  | a :: r, b :: s, 0, d, h => ⟨a, b, rfl, rfl, (Option.some.inj (show some (PyData.tuple [a, b]) = some d by simpa [zipD] using h)).symm⟩
  | a :: r, b :: s, i + 1, d, h => by
    obtain ⟨x, y, h1, h2, h3⟩ := zipD_get (ds := r) (es := s) (i := i) (d := d) (by simpa [zipD] using h)
    exact ⟨x, y, by simpa using h1, by simpa using h2, h3⟩
theorem zipD_length : ∀ {ds es : List PyData}, ds.length = es.length → (zipD ds es).length = ds.length
  | [], _, _ => by simp [zipD]
  | _ :: _, [], h => by simp at h
  | _ :: r, _ :: s, h => by
    have := zipD_length (ds := r) (es := s) (by simpa using h)
    simp [zipD, this]
theorem pair_new {H Hf : Hp} {T : Addr} {x y : V} {d e : PyData} (s : Sub H Hf) (hT : H T = none) (r1 : Rp K Hf x d) (r2 : Rp K Hf y e) : ∃ Hf', Ext H Hf (upd H T (.tup [x, y])) Hf' ∧ Rp K Hf' (.ref T) (.tuple [d, e]) :=
  ⟨_, Ext.alloc s hT _, .tup (.of upd_same) (by show 2 ≤ sizeLine; decide) (.cons (r1.mono (same_upd (sub_none s hT) _) _ _) (.cons (r2.mono (same_upd (sub_none s hT) _) _ _) .nil))⟩
theorem gi_zipL (hl : ds.length = es.length) (hs : SqL K G a vs) (ht : SqL K G b ws) (r : RpAll K Hf1 vs ds) (q : RpAll K Hf1 ws es) : GI K (Itz K a b) (zipD ds es) Hf1 G := fun i H Hf s1 s2 s3 => by
  have hs' := s3.seq hs
  have ht' := s3.seq ht
  refine ⟨fun e => ⟨vs, ws, hs', ht', .inl (by rw [r.length, e, zipD_length hl]; exact Nat.le_refl _)⟩, fun d hd => ?_⟩
  obtain ⟨x, y, h1, h2, rfl⟩ := zipD_get hd
  obtain ⟨v, g1, g2⟩ := r.get h1
  obtain ⟨w, g3, g4⟩ := q.get h2
  refine ⟨⟨vs, ws, v, w, hs', ht', g1, g3⟩, fun z H' ⟨T, x', y', e1, hT, e2, k1, k2⟩ => ?_⟩
  subst e1 e2
  have z1 := k1 vs hs'
  have z2 := k2 ws ht'
  rw [g1] at z1; cases z1
  rw [g3] at z2; cases z2
  exact pair_new s2 hT (g2.mono s1 _ _) (g4.mono s1 _ _)
theorem gi_zipT (hl : ds.length = es.length) (hs : SqT K G a vs) (ht : SqT K G b ws) (r : RpAll K Hf1 vs ds) (q : RpAll K Hf1 ws es) : GI K (RZ.ItzT K a b) (zipD ds es) Hf1 G := fun i H Hf s1 s2 s3 => by
  have hs' := s3.sqT hs
  have ht' := s3.sqT ht
  refine ⟨fun e => ⟨vs, ws, hs', ht', .inl (by rw [r.length, e, zipD_length hl]; exact Nat.le_refl _)⟩, fun d hd => ?_⟩
  obtain ⟨x, y, h1, h2, rfl⟩ := zipD_get hd
  obtain ⟨v, g1, g2⟩ := r.get h1
  obtain ⟨w, g3, g4⟩ := q.get h2
  refine ⟨⟨vs, ws, v, w, hs', ht', g1, g3⟩, fun z H' ⟨T, x', y', e1, hT, e2, k1, k2⟩ => ?_⟩
  subst e1 e2
  have z1 := k1 vs hs'
  have z2 := k2 ws ht'
  rw [g1] at z1; cases z1
  rw [g3] at z2; cases z2
  exact pair_new s2 hT (g2.mono s1 _ _) (g4.mono s1 _ _)
end
section
variable {X : Cx} {tg e e2 : Expr} {fa fb : Rho → Option PyData}
theorem PIimp {wi wi' : TI} (h : PI X tg e wi) (i : ∀ σ H R, wi' σ H R → wi σ H R) : PI X tg e wi' := ⟨fun pins s σ H R I q => h.run pins s σ H R I (i _ _ _ q)⟩
/-- a list or a tuple -/
theorem pi_seq {tl : TE} (hl : PE X e tl) : PI X tg e (fun σ H R => tl σ H fun x H1 => ∃ a, x = .ref a ∧ (((∃ xs, SqL X.K H1 a xs) ∧ R (Itl X.K a) H1) ∨ ((∃ xs, SqT X.K H1 a xs) ∧ R (Itt X.K a) H1))) := by
  refine ⟨fun pins s σ H R I h => ?_⟩
  refine thn (hl.run pins s σ H _ I h) fun v s1 ⟨x, H1, I1, r1, q1⟩ => ?_
  obtain ⟨a, e, q⟩ := q1
  subst e
  cases r1
  rcases q with ⟨⟨xs, hq⟩, q⟩ | ⟨⟨xs, hq⟩, q⟩
  · obtain ⟨its, rv, p, hz⟩ := I1.list hq
    refine wpAny_pyIter_list p.isList ?_
    refine ⟨s1.heap.objs.size, [s1.heap.objs.size], _, _, H1, rfl, I1.kept (t' := s1.toks) fun b o e => Heap.get?_push_of_some _ e, turn_list a _, ⟨_, Heap.get?_push_size _ rfl, rfl, rfl⟩, fun b hb => ?_, q⟩
    have e : b = s1.heap.objs.size := by simpa using hb
    subst e
    exact I1.fpOk (Nat.le_refl _) (I1.hok.fresh (Nat.le_refl _))
  · obtain ⟨its, rv, p, hz⟩ := I1.tuple hq
    refine wpAny_pyIter_tuple (show s1.heap.IsTuple a its.toArray from p) ?_
    refine ⟨s1.heap.objs.size, [s1.heap.objs.size], _, _, H1, rfl, I1.kept (t' := s1.toks) fun b o e => Heap.get?_push_of_some _ e, turn_tuple a _, ⟨_, Heap.get?_push_size _ rfl, rfl, rfl⟩, fun b hb => ?_, q⟩
    have e : b = s1.heap.objs.size := by simpa using hb
    subst e
    exact I1.fpOk (Nat.le_refl _) (I1.hok.fresh (Nat.le_refl _))
theorem pi_seqB (ha : PE X e (tBm X.K fa)) : PI X tg e (tI X.K true fun ρ => (fa ρ).bind seqD) := by
  refine PIimp (pi_seq ha) fun σ H R ⟨Hf, ρ, ds, er, hd, k⟩ => ?_
  obtain ⟨d, h1, hd⟩ := Option.bind_eq_some_iff.mp hd
  refine ⟨Hf, ρ, d, er, h1, fun v H' Hf' e r => ?_⟩
  cases d with
  | list es =>
    cases hd
    obtain ⟨p, vs, rfl, s1, z, rr⟩ := r.list e.sub
    exact ⟨p, rfl, .inl ⟨⟨vs, s1⟩, k _ _ Hf' e (by rw [← rr.length]; exact z) (gi_list s1 rr)⟩⟩
  | tuple es =>
    cases hd
    obtain ⟨p, vs, rfl, s1, z, rr⟩ := r.tuple
    exact ⟨p, rfl, .inr ⟨⟨vs, sqT_mono e.sub.same s1⟩, k _ _ Hf' e (by rw [← rr.length]; exact z) (gi_tup (sqT_mono e.sub.same s1) rr)⟩⟩
  | _ => exact nomatch hd
theorem pi_seqF (ha : PE X e (tF X.K fa)) : PI X tg e (tI X.K false fun ρ => (fa ρ).bind seqD) := by
  refine PIimp (pi_seq ha) fun σ H R ⟨Hf, ρ, ds, er, hd, k⟩ => ?_
  obtain ⟨d, h1, hd⟩ := Option.bind_eq_some_iff.mp hd
  refine ⟨Hf, ρ, d, er, h1, fun v H' Hf' e r => ?_⟩
  cases r with
  | lst s1 z rr =>
    cases hd
    exact ⟨_, rfl, .inl ⟨⟨_, sqL_sub e.sub.same s1⟩, k _ _ Hf' e (by rw [← rr.length]; exact z) (gi_list s1 rr)⟩⟩
  | tup s1 z rr =>
    cases hd
    exact ⟨_, rfl, .inr ⟨⟨_, sqT_mono e.sub.same s1⟩, k _ _ Hf' e (by rw [← rr.length]; exact z) (gi_tup s1 rr)⟩⟩
  | _ => exact nomatch hd
theorem intOf_some {d : PyData} {i : Int} (h : intOf d = some i) : d = .int i := by cases d <;> first | (cases h; rfl) | cases h
theorem rngOk_some {n : Int} (h : rngOk n = true) : -(2 ^ 62) ≤ n ∧ n < 2 ^ 62 ∧ n ≤ 16777216 := by
  rw [rngOk_iff] at h
  omega
theorem pi_rng1 {p pos : Pos} {b : Bool} (hg : Gl X "range") (hm : X.mg "range" = none) (ha : PE X e (tF X.K fa)) (hs : ∀ es, starEach (e :: es) X.env = (false, eval e X.env) :: starEach es X.env) :
    PI X tg (.Call (.Name "range" p) [e] [] pos) (tI X.K b fun ρ => (fa ρ).bind fun x => (intOf x).bind fun n => if rngOk n then some (rgD n) else none) := by
  refine PIimp (pi_range1 hg hm (pa_cons ha pa_nil (hs _)) (hs _)) fun σ H R ⟨Hf, ρ, ds, er, hd, k⟩ => ?_
  obtain ⟨x, h1, hd⟩ := Option.bind_eq_some_iff.mp hd
  obtain ⟨n, h2, hd⟩ := Option.bind_eq_some_iff.mp hd
  obtain ⟨h3, rfl⟩ := ite_some hd
  obtain ⟨b1, b2, b3⟩ := rngOk_some h3
  have := intOf_some h2
  subst this
  refine ⟨Hf, ρ, _, er, h1, fun v H' Hf' e r => ?_⟩
  cases r
  refine ⟨n, rfl, b1, b2, k _ _ Hf' e ?_ ?_⟩
  · unfold rgD; rw [List.length_map, List.length_range, sizeLine_eq]; omega
  · have e2 : rgD n = (List.range n.toNat).map fun (i : Nat) => PyData.int ((0 : Int) + (i : Int)) := by
      unfold rgD
      exact List.map_congr_left fun i _ => by rw [Int.zero_add]
    rw [e2]
    exact gi_rng
theorem pi_rng2 {p pos : Pos} {b : Bool} (hg : Gl X "range") (hm : X.mg "range" = none) (ha : PE X e (tF X.K fa)) (hb : PE X e2 (tF X.K fb)) (hs : ∀ es, starEach (e :: es) X.env = (false, eval e X.env) :: starEach es X.env) (hs2 : ∀ es, starEach (e2 :: es) X.env = (false, eval e2 X.env) :: starEach es X.env) :
    PI X tg (.Call (.Name "range" p) [e, e2] [] pos) (tI X.K b fun ρ => (fa ρ).bind fun x => (fb ρ).bind fun y => (intOf x).bind fun n => (intOf y).bind fun m => if rngOk n && rngOk m && rngOk (m - n) then some (rg2 n m) else none) := by
  refine PIimp (pi_range2 hg hm (pa_cons ha (pa_cons hb pa_nil (hs2 _)) (hs _)) (by rw [hs, hs2]; rfl) (by rw [hs2]; rfl)) fun σ H R ⟨Hf, ρ, ds, er, hd, k⟩ => ?_
  obtain ⟨x, h1, hd⟩ := Option.bind_eq_some_iff.mp hd
  obtain ⟨y, h1', hd⟩ := Option.bind_eq_some_iff.mp hd
  obtain ⟨n, h2, hd⟩ := Option.bind_eq_some_iff.mp hd
  obtain ⟨m, h2', hd⟩ := Option.bind_eq_some_iff.mp hd
  obtain ⟨h3, rfl⟩ := ite_some hd
  simp only [Bool.and_eq_true] at h3
  obtain ⟨b1, b2, b3⟩ := rngOk_some h3.1.1
  obtain ⟨c1, c2, c3⟩ := rngOk_some h3.1.2
  obtain ⟨d1, d2, d3⟩ := rngOk_some h3.2
  have := intOf_some h2
  subst this
  have := intOf_some h2'
  subst this
  refine two er h1 h1' fun v w H' Hf' e r1 r2 => ?_
  cases r1
  cases r2
  refine ⟨n, m, rfl, ⟨b1, b2, c1, c2⟩, k _ _ Hf' e ?_ ?_⟩
  · unfold rg2; rw [List.length_map, List.length_range, sizeLine_eq]; omega
  · exact gi_rng
theorem pi_zipF {p pos tpos : Pos} {elts : List Expr} {kk : Nat} {b : Bool} (hg : Gl X "zip") (hm : X.mg "zip" = none) (ha : PE X e (tF X.K fa)) (hb : PE X e2 (tF X.K fb)) (hs : ∀ es, starEach (e :: es) X.env = (false, eval e X.env) :: starEach es X.env) (hs2 : ∀ es, starEach (e2 :: es) X.env = (false, eval e2 X.env) :: starEach es X.env) :
    PI X (.Tuple elts kk tpos) (.Call (.Name "zip" p) [e, e2] [] pos) (tI X.K b fun ρ => (fa ρ).bind fun x => (fb ρ).bind fun y => zipDD x y) := by
  refine PIimp (RZ.pi_zipA hg hm (pa_cons ha (pa_cons hb pa_nil (hs2 _)) (hs _)) (hs _) (by rw [hs2]; rfl)) fun σ H R ⟨Hf, ρ, ds, er, hd, k⟩ => ?_
  obtain ⟨x, h1, hd⟩ := Option.bind_eq_some_iff.mp hd
  obtain ⟨y, h1', hd⟩ := Option.bind_eq_some_iff.mp hd
  refine two er h1 h1' fun v w H' Hf' e r1 r2 => ?_
  cases r1 with
  | @tup a vs as s1 z1 q1 =>
    cases r2 with
    | @tup c us bs s2 z2 q2 =>
      have hd' : (if as.length = bs.length then some (zipD as bs) else none) = some ds := hd
      by_cases cc : as.length = bs.length
      · rw [if_pos cc] at hd'
        cases hd'
        have G : GI X.K (RZ.ItzT X.K a c) (zipD as bs) Hf' (if b then H' else Hf') := by
          cases b with
          | true => exact gi_zipT cc (sqT_mono e.sub.same s1) (sqT_mono e.sub.same s2) q1 q2
          | false => exact gi_zipT cc s1 s2 q1 q2
        exact ⟨a, c, vs, us, rfl, .inr ⟨sqT_mono e.sub.same s1, sqT_mono e.sub.same s2, k _ _ Hf' e (by rw [zipD_length cc, ← q1.length]; exact z1) G⟩⟩
      · rw [if_neg cc] at hd'; cases hd'
    | _ => exact nomatch hd
  | @lst a vs as s1 z1 q1 =>
    cases r2 with
    | @lst c us bs s2 z2 q2 =>
      have hd' : (if as.length = bs.length then some (zipD as bs) else none) = some ds := hd
      by_cases cc : as.length = bs.length
      · rw [if_pos cc] at hd'
        cases hd'
        have G : GI X.K (Itz X.K a c) (zipD as bs) Hf' (if b then H' else Hf') := by
          cases b with
          | true => exact gi_zipL cc (sqL_sub e.sub.same s1) (sqL_sub e.sub.same s2) q1 q2
          | false => exact gi_zipL cc s1 s2 q1 q2
        exact ⟨a, c, vs, us, rfl, .inl ⟨sqL_sub e.sub.same s1, sqL_sub e.sub.same s2, k _ _ Hf' e (by rw [zipD_length cc, ← q1.length]; exact z1) G⟩⟩
      · rw [if_neg cc] at hd'; cases hd'
    | _ => exact nomatch hd
  | _ => cases r2 <;> exact nomatch hd
end

/-! ### targets -/
def gAll : List Nat → TGs
  | [] => gNil
  | i :: is => gCons (gName i) (gAll is)
def tgG (K : PySem.W.Frag) : Tg → TG
  | .nm i => gName i
  | .tp is => gTup K is.length (gAll is)
def tgIds : Tg → List Nat
  | .nm i => [i]
  | .tp is => is
/-- the same but at some places -/
def Upto (l : List Nat) (σ σ' : L2.St) : Prop := σ'.length = σ.length ∧ ∀ j, j ∉ l → σ'[j]? = σ[j]?
section
variable {K : PySem.W.Frag} {H Hf : Hp}
/-- stores keep it -/
def Sets (K : PySem.W.Frag) (Hf : Hp) (P : L2.St → Rho → Prop) : Prop := ∀ (σ : L2.St) ρ i v d, Rp K Hf v d → P σ ρ → P (σ.set i (some v)) (ρ.set i (.val d))
theorem gAll_ok {P : L2.St → Rho → Prop} (hP : Sets K Hf P) : ∀ {is : List Nat} {vs : List V} {ds : List PyData} {σ : L2.St} {ρ : Rho} {Q : L2.St → Hp → Prop}, RpAll K Hf vs ds → is.length = ds.length → P σ ρ →
    (∀ σ', P σ' (setAll is ds ρ) → Upto is σ σ' → Q σ' H) → gAll is vs σ H Q
  | [], vs, ds, σ, ρ, Q, r, hl, p, k => by
    have : ds = [] := List.eq_nil_of_length_eq_zero hl.symm
    subst this
    cases r
    exact ⟨rfl, k σ p ⟨rfl, fun _ _ => rfl⟩⟩
  | i :: is, vs, ds, σ, ρ, Q, r, hl, p, k => by
    cases r with
    | nil => simp at hl
    | @cons v vs d ds r1 r2 =>
      refine ⟨v, vs, rfl, ?_⟩
      show gAll is vs (σ.set i (some v)) H Q
      refine gAll_ok hP r2 (by simpa using hl) (hP σ ρ i v d r1 p) fun σ' p' u => k σ' p' ⟨by rw [u.1, List.length_set], fun j hj => ?_⟩
      simp only [List.mem_cons, not_or] at hj
      rw [u.2 j hj.2, List.getElem?_set_ne (Ne.symm hj.1)]
theorem tgG_ok {P : L2.St → Rho → Prop} (hP : Sets K Hf P) (sub : Sub H Hf) {tg : Tg} {v : V} {d : PyData} {σ : L2.St} {ρ ρ' : Rho} {Q : L2.St → Hp → Prop} (r : Rp K Hf v d) (p : P σ ρ) (h : asg tg d ρ = some ρ')
    (k : ∀ σ', P σ' ρ' → Upto (tgIds tg) σ σ' → Q σ' H) : tgG K tg v σ H Q := by
  cases tg with
  | nm i =>
    cases h
    refine k _ (hP _ _ _ _ _ r p) ⟨List.length_set, fun j hj => ?_⟩
    simp only [tgIds, List.mem_singleton] at hj
    rw [List.getElem?_set_ne (Ne.symm hj)]
  | tp is =>
    cases r with
    | @tup a vs ds s1 z rr =>
      have h' : (if is.length = ds.length then some (setAll is ds ρ) else none) = some ρ' := h
      by_cases c : is.length = ds.length
      · rw [if_pos c] at h'
        cases h'
        exact ⟨a, vs, rfl, sqT_mono sub s1, by rw [rr.length, c], gAll_ok hP rr c p k⟩
      · rw [if_neg c] at h'; cases h'
    | _ => exact nomatch h
end
theorem sets_er {K : PySem.W.Frag} {H Hf : Hp} : Sets K Hf fun σ ρ => ER K σ H Hf ρ := fun _ _ _ _ _ hv r => r.set hv
theorem sets_sr {K : PySem.W.Frag} {H0 Hf0 H Hf : Hp} : Sets K Hf fun σ ρ => SR K H0 Hf0 σ H Hf ρ := fun _ _ _ _ _ hv r => r.set hv
theorem wipe_in {σ : L2.St} {i : Nat} : ∀ {vs : List Nat}, i ∈ vs → i < σ.length → (L2.wipe σ vs)[i]? = some none
  | v :: vs, h, hl => by
    show ((L2.wipe σ vs).set v none)[i]? = some none
    by_cases e : v = i
    · subst e
      rw [List.getElem?_set_self (by rw [wipe_length]; exact hl)]
    · rw [List.getElem?_set_ne e]
      exact wipe_in ((List.mem_cons.mp h).resolve_left (Ne.symm e)) hl
theorem wipe_upto {σ σ' : L2.St} {l vs : List Nat} (hs : ∀ i ∈ l, i ∈ vs) (u : Upto l (L2.wipe σ vs) σ') : L2.wipe σ' vs = L2.wipe σ vs := by
  have hl : σ'.length = σ.length := by rw [u.1, wipe_length]
  apply List.ext_getElem?
  intro j
  by_cases hj : j ∈ vs
  · by_cases hjl : j < σ.length
    · rw [wipe_in hj hjl, wipe_in hj (by omega)]
    · rw [List.getElem?_eq_none (by rw [wipe_length]; omega), List.getElem?_eq_none (by rw [wipe_length]; omega)]
  · rw [wipe_out hj, wipe_out hj, u.2 j fun z => hj (hs j z), wipe_out hj]

/-! ### comprehensions -/
theorem compR_cons {tg : Tg} {c : Rho → Option Bool} {e : Rho → Option PyData} {ρ : Rho} {d : PyData} {ds out : List PyData} (h : compR tg c e ρ (d :: ds) = some out) :
    ∃ ρ1 b, asg tg d ρ = some ρ1 ∧ c ρ1 = some b ∧ ((b = true ∧ ∃ y r, e ρ1 = some y ∧ compR tg c e ρ ds = some r ∧ out = y :: r) ∨ (b = false ∧ compR tg c e ρ ds = some out)) := by
  have h' : ((asg tg d ρ).bind fun ρ1 => (c ρ1).bind fun b => if b then (e ρ1).bind fun y => (compR tg c e ρ ds).map (y :: ·) else compR tg c e ρ ds) = some out := h
  obtain ⟨ρ1, h1, h'⟩ := Option.bind_eq_some_iff.mp h'
  obtain ⟨b, h2, h'⟩ := Option.bind_eq_some_iff.mp h'
  refine ⟨ρ1, b, h1, h2, ?_⟩
  cases b with
  | true =>
    rw [if_pos rfl] at h'
    obtain ⟨y, h3, h'⟩ := Option.bind_eq_some_iff.mp h'
    obtain ⟨r, h4, rfl⟩ := Option.map_eq_some_iff.mp h'
    exact .inl ⟨rfl, y, r, h3, h4, rfl⟩
  | false =>
    rw [if_neg Bool.false_ne_true] at h'
    exact .inr ⟨rfl, h'⟩
theorem lc_in {K : PySem.W.Frag} {fi : Rho → Option (List PyData)} {tg : Tg} {fc fe : Rho → Option PyData} {ws : List Nat} {σ : L2.St} {H : Hp} {Q : VK} (hw : ∀ i ∈ tgIds tg, i ∈ ws)
    (h : tO K (fun ρ => (fi ρ).bind fun ds => (compR tg (fun ρ1 => boolOf (fc ρ1)) fe (wipeR ρ ws) ds).map .list) σ H Q) : tLc (tI K true fi) (tgG K tg) (tT K fc) (tF K fe) ws σ H Q := by
  obtain ⟨Hf, ρ, out, er, hd, k⟩ := h
  obtain ⟨ds, h1, hd⟩ := Option.bind_eq_some_iff.mp hd
  obtain ⟨out', h2, h3⟩ := Option.map_eq_some_iff.mp hd
  cases h3
  refine ⟨Hf, ρ, ds, er, h1, fun J H1 Hf1 e1 hz gi D hD => ?_⟩
  have gi : GI K J ds Hf1 H1 := gi
  have er1 := er.ext e1
  let Pv : Nat → Hp → Prop := fun i H2 => ∃ Hf2 vs acc r, Ext H1 Hf1 H2 Hf2 ∧ H2 D = some (.lst vs) ∧ Hf2 D = none ∧ vs.length ≤ i ∧ RpAll K Hf2 vs acc ∧ compR tg (fun ρ1 => boolOf (fc ρ1)) fe (wipeR ρ ws) (ds.drop i) = some r ∧ out = acc ++ r
  refine ⟨fun i m H2 => m = ds.length - i ∧ i ≤ ds.length ∧ Pv i H2, ⟨ds.length, by simp, Nat.zero_le _, Hf1, [], [], out, Ext.allocO e1.sub hD _, upd_same, sub_none e1.sub hD, Nat.le_refl _, .nil, by simpa using h2, by simp⟩, ?_⟩
  rintro i m H2 ⟨rfl, hi, Hf2, vs, acc, r, e2, hD2, hn2, hl2, rr, hr, ho⟩
  obtain ⟨g1, g2⟩ := gi i H2 Hf2 e2.fr e2.sub e2.hs
  by_cases hlt : i < ds.length
  · refine .inr ?_
    have hx : ds[i]? = some ds[i] := List.getElem?_eq_getElem hlt
    obtain ⟨go, yld⟩ := g2 _ hx
    rw [List.drop_eq_getElem_cons hlt] at hr
    obtain ⟨ρ1, b, q1, q2, q3⟩ := compR_cons hr
    refine ⟨go, Pv (i + 1), fun H' p' => ⟨ds.length - (i + 1), by omega, rfl, hlt, p'⟩, fun x H3 y3 => ?_⟩
    obtain ⟨Hf3, e3, rx⟩ := yld x H3 y3
    have er3 : ER K (L2.wipe σ ws) H3 Hf3 (wipeR ρ ws) := ((er1.ext e2).ext e3).wipe ws
    refine tgG_ok (P := fun σ ρ => ER K σ H3 Hf3 ρ) sets_er e3.sub rx er3 q1 fun σ4 er4 u4 => ⟨wipe_upto hw u4, Hf3, ρ1, b, er4, q2, fun H5 Hf5 e5 => ?_⟩
    have hD3 := e3.lst hD2
    have hn3 := e3.keepNone hn2 hD2
    have hD5 := e5.lst hD3
    have hn5 := e5.keepNone hn3 hD3
    rcases q3 with ⟨rfl, y, r', q4, q5, rfl⟩ | ⟨rfl, q4⟩
    · refine iteT ?_
      refine ⟨Hf5, ρ1, y, er4.ext e5, q4, fun v H6 Hf6 e6 rv => ?_⟩
      have hD6 := e6.lst hD5
      have hn6 := e6.keepNone hn5 hD5
      refine ⟨vs, hD6, by omega, Hf6, vs ++ [v], acc ++ [y], r', Ext.poke _ ((e2.trans e3).trans (e5.trans e6)) hD hn6 hD6, upd_same, hn6, ?_, ?_, q5, by rw [ho, List.append_assoc]; rfl⟩
      · rw [List.length_append, List.length_singleton]; omega
      · exact ((rr.mono (e3.trans (e5.trans e6)).fr _ _)).append (.cons rv .nil)
    · refine iteF ?_
      exact ⟨Hf5, vs, acc, r, (e2.trans e3).trans e5, hD5, hn5, by omega, rr.mono (e3.trans e5).fr _ _, q4, ho⟩
  · have ei : i = ds.length := by omega
    subst ei
    rw [List.drop_length] at hr
    cases hr
    rw [List.append_nil] at ho
    subst ho
    exact .inl ⟨g1 rfl, k D vs H2 Hf2 (e1.trans e2) (e1.free hD) hD2 hn2 (by omega) rr⟩

/-! ### calls -/
/-- what a pure def promises -/
def spD (K : PySem.W.Frag) (f : List PyData → Option PyData) : Sp := fun vs H Q _ => ∃ Hf ds d, Sub H Hf ∧ RpAll K Hf vs ds ∧ f ds = some d ∧ KF K H Hf d Q
theorem call_in {K : PySem.W.Frag} {f : List PyData → Option PyData} {fs : Rho → Option (List PyData)} {E : XK} {σ : L2.St} {H : Hp} {Q : VK} (h : tF K (fun ρ => (fs ρ).bind f) σ H Q) : tCall (spD K f) [] E (tAs K fs) σ H Q := by
  obtain ⟨Hf, ρ, d, er, hd, k⟩ := h
  obtain ⟨ds, h1, hd⟩ := Option.bind_eq_some_iff.mp hd
  refine ⟨Hf, ρ, ds, er, h1, fun vs H' Hf' e r => ?_⟩
  show spD K f (vs ++ []) H' Q E
  rw [List.append_nil]
  exact ⟨Hf', ds, d, e.sub, r, hd, k.ext e⟩
end Ev

/-! EvK: enumerate over a list or a tuple, as a walk of the small language. -/
namespace Ev
variable [Memo]
open PySem PySem.Spec PyProof.Rows L2
open Sem (wp)
open PySem.Calls

theorem meets_enumT (t : Addr) (items : Array Value) :
    Meets (Builtin.«enumerate.__new__» ⟨[.type "enumerate", .ref t], []⟩) (fun _ R s => s.heap.IsTuple t items ∧
      R (.ok (.ret (.ref (s.heap.push { cls := .type "tuple_iterator", data := .fields #[.ref t, .int 0 0] }).objs.size)))
        { s with heap := (s.heap.push { cls := .type "tuple_iterator", data := .fields #[.ref t, .int 0 0] }).push { cls := .type "enumerate", data := .fields #[.none, .bool false, .ref s.heap.objs.size, rawInt 0, .none, .none] } }) :=
  .of_wp fun prog w A R s h => by
    obtain ⟨hp, g, d, tk, os⟩ := s; obtain ⟨h1, h⟩ := h
    have hsub := sub_enumerate
    have q1 : ∀ {A' : Around} {E : Value → Shared → Prop} {Q : Value → Shared → Prop}, Q (.ref hp.objs.size) ⟨hp.push { cls := .type "tuple_iterator", data := .fields #[.ref t, .int 0 0] }, g, d, tk, os⟩ → wpAny (model prog w) A' (pyIter (.ref t)) Q E ⟨hp, g, d, tk, os⟩ :=
      fun q => (begins_tuple t items).iter prog w _ _ ⟨hp, g, d, tk, os⟩ _ h1 q
    wp_walk using q1
    refine wpAny_stack_any fun st => wpAny_pure ?_
    split
    · rename_i c _ _ _ _ _
      cases (c == Value.type "enumerate")
      · wp_walk using q1
        exact ⟨_, rfl, h⟩
      · wp_walk using q1
        exact ⟨_, rfl, h⟩
    · wp_walk using q1
      exact ⟨_, rfl, h⟩
theorem call_enumT {prog : Program} {w : World} {A : Around} {E : Value → Shared → Prop} {s : Shared} {t : Addr} {items : Array Value} {Q : Value → Shared → Prop} (hT : s.heap.IsTuple t items)
    (h : ∀ h', IsEnum h' (s.heap.objs.size + 1) s.heap.objs.size 0 .none → h'.IsTupleIter s.heap.objs.size t 0 → h'.objs.size = s.heap.objs.size + 2 →
      (∀ b o, s.heap.get? b = some o → h'.get? b = some o) → Q (.ref (s.heap.objs.size + 1)) { s with heap := h' }) :
    wpAny (model prog w) A (call (.type "enumerate") [.ref t]) Q E s := by
  refine callType_new F.called_enumerate (by decide) (F.typeCall_enumerate_1 _) (F.newCall_enumerate_1 _) (fun obj => F.args_object_init_2 obj _) F.entry_enumerate_new
    (meets_enumT t items) ⟨hT, ?_⟩
  have hz : (s.heap.push { cls := .type "tuple_iterator", data := .fields #[.ref t, .int 0 0] }).objs.size = s.heap.objs.size + 1 := Heap.size_push ..
  show _ ∧ _
  rw [hz]
  have he : IsEnum ((s.heap.push { cls := .type "tuple_iterator", data := .fields #[.ref t, .int 0 0] }).push { cls := .type "enumerate", data := .fields #[.none, .bool false, .ref s.heap.objs.size, rawInt 0, .none, .none] }) (s.heap.objs.size + 1) s.heap.objs.size 0 .none := by
    have := Heap.get?_push_size (s.heap.push { cls := .type "tuple_iterator", data := .fields #[.ref t, .int 0 0] }) (o := { cls := .type "enumerate", data := .fields #[.none, .bool false, .ref s.heap.objs.size, rawInt 0, .none, .none] }) rfl
    rw [hz] at this; exact this
  refine ⟨⟨_, he, rfl⟩, h _ he ⟨_, Heap.get?_push_of_some _ (Heap.get?_push_size _ rfl), rfl, rfl⟩ (by rw [Heap.size_push, hz]) fun b o x => Heap.get?_push_of_some _ (Heap.get?_push_of_some _ x)⟩

theorem wpAny_pyNext_enum_endD' {prog : Program} {w : World} {A : Around} {E : Value → Shared → Prop} {s : Shared} {e it t : Addr} {i : Nat} {items : Array Value} {c : Int} {old : Value} {Q : Option Value → Shared → Prop}
    (hh : A.handled = none) (he : IsEnum s.heap e it c old) (hit : s.heap.IsTupleIter it t i) (ht : s.heap.IsTuple t items) (hx : items[i]? = none)
    (hQ : ∀ h', Heap.ExtBut it s.heap h' → Q none { s with heap := h' }) : wpAny (model prog w) A (pyNext (.ref e)) Q E s := by
  have hT : s.TypeIs (.ref e) "enumerate" := ⟨_, he, rfl⟩
  unfold pyNext
  refine wpAny_bind (wpAny_attempt (wpAny_callSpecial?_slot (name := Str.ofString "__next__") hT F.slot_enumerate_next
    (wpAny_call_entry F.slot_enumerate_next hT F.entry_enumerate_next ?_ (F.args_enumerate_next_1 _))))
  show wpAny _ _ (field (.ref e) 2 >>= _) _ _ _
  refine wpAny_bind (wpAny_field he rfl (x := .ref it) rfl ?_)
  refine wpAny_bind (wpAny_nextOf_tuple_end (A := A.in1) (by first | exact hh | simpa using hh) hit ht hx fun h' x he' hx' => ?_)
  obtain ⟨o, ho, hc⟩ := hx'
  refine wpAny_bind (wpAny_isInstance (T := "StopIteration") (b := true) ⟨o, ho, hc⟩ isSubtype_stop ?_)
  exact wpAny_pure (hQ _ he')

/-- the tuple at a, each item in a new pair with its place -/
def IteT (K : PySem.W.Frag) (a : Addr) : It :=
  ⟨fun i H => ∃ (xs : List V) (x : V), SqT K H a xs ∧ xs[i]? = some x, fun i H v H' => ∃ T x, v = .ref T ∧ H T = none ∧ H' = upd H T (.tup [.int (i : Nat), x]) ∧ ∀ xs, SqT K H a xs → xs[i]? = some x, fun i H => ∃ xs : List V, SqT K H a xs ∧ xs.length ≤ i⟩
theorem turn_enumT {P : Program} {w : World} {K : PySem.W.Frag} {elts : List Expr} {kk : Nat} {tpos : Pos} (a e it : Addr) :
    Turn P w K (.Tuple elts kk tpos) (IteT K a) [e, it] e (fun i h => (∃ old, IsEnum h e it ((i : Nat) : Int) old) ∧ h.IsTupleIter it a i ∧ e ≠ it ∧ a ≠ it ∧ a ≠ e) where
  mem := by simp
  obj := fun i h st b hb => by
    obtain ⟨⟨old, he⟩, ⟨o, ho, hc, hd⟩, _⟩ := st
    have e' : b = e ∨ b = it := by simpa using hb
    rcases e' with z | z
    · rw [z]; exact ⟨_, he, fun v q => nomatch q⟩
    · rw [z]; exact ⟨o, ho, fun v q => by rw [hd] at q; cases q⟩
  keep := fun i h h' st k => let ⟨⟨old, he⟩, hi, hne, ha⟩ := st; ⟨⟨old, k e (by simp) _ he⟩, hi.at fun o q => k it (by simp) o q, hne, ha⟩
  item := by
    intro X hP hw hK hc i pins s σ H E I hf st hg
    subst hP hw hK
    obtain ⟨⟨old, he⟩, hit, hne, ha, ha2⟩ := st
    obtain ⟨xs, x, hq, hx⟩ := hg
    obtain ⟨its, rv, p, hz⟩ := I.tuple hq
    obtain ⟨u, hu, ru⟩ := rv.get hx
    have hel : e < s.heap.objs.size := Heap.lt_size he
    have hil : it < s.heap.objs.size := by obtain ⟨_, q, _⟩ := hit; exact Heap.lt_size q
    have hu' : its.toArray[i]? = some u := by simpa using hu
    have hlt : i < its.toArray.size := by
      rcases Nat.lt_or_ge i its.toArray.size with z | z
      · exact z
      · rw [Array.getElem?_eq_none z] at hu'; cases hu'
    refine wpAny_pyNext_enum_itemD (Draws.tuple (A := X.A.in1) (I.ok.hd hc) it a ha its.toArray) he ⟨hit, p⟩ hlt hne (by simp; exact ⟨hne, Ne.symm ha2⟩) fun x' h' tk hx' ho hit' hT hsz hk => ?_
    have hx2 : x' = u := by rw [hu'] at hx'; exact (Option.some.inj hx').symm
    subst hx2
    refine ⟨_, rfl, wpAny_letOwnedTupleGo_enum (s := { s with heap := h', toks := tk + 1 }) ho fun h'' he' sb => ?_⟩
    have hT2 : h''.get? s.heap.objs.size = some { cls := .type "tuple", data := .seq #[.int i tk, x'] } := (sb.2 _ (Nat.ne_of_gt hel)).trans hT
    have new : ObjOk X.prog X.w (upd H s.heap.objs.size (.tup [.int (i : Nat), x])) h'' s.heap.objs.size (.tup [.int (i : Nat), x]) :=
      ⟨by show 2 ≤ sizeLine; decide, [.int i tk, x'], .cons ⟨_, rfl⟩ (.cons ru .nil), ⟨_, hT2, rfl, _, rfl⟩⟩
    have I1 : Inv X pins σ (upd H s.heap.objs.size (.tup [.int (i : Nat), x])) { s with heap := h'', toks := tk + 1 } :=
      I.turnedNew (ch := [e, it]) (fun b ob hb q => (sb.2 b (fun z => hb (by simp [z]))).trans (hk b ob (fun z => hb (by simp [z])) (fun z => hb (by simp [z])) q)) hf (Nat.le_refl _) new
    refine ⟨.ref s.heap.objs.size, _, I1, rfl, ⟨_, x, rfl, I.hok.fresh (Nat.le_refl _), rfl, fun ys hy => by rw [I.tuple_inj hy hq]; exact hx⟩, ⟨⟨x', ?_⟩, hit'.1.at fun o q => (sb.2 it (Ne.symm hne)).trans q, hne, ha, ha2⟩, fun b hb => ?_⟩
    · have e1 : ((i + 1 : Nat) : Int) = (i : Int) + 1 := by omega
      rw [e1]; exact he'
    · have hb' : b < s.heap.objs.size := by
        have e' : b = e ∨ b = it := by simpa using hb
        rcases e' with z | z
        · rw [z]; exact hel
        · rw [z]; exact hil
      rw [upd_ne (Nat.ne_of_lt hb')]
      exact (hf b hb).1
  done := by
    intro X hP hw hK hc i pins s σ H E I hf st hg
    subst hP hw hK
    obtain ⟨⟨old, he⟩, hit, hne, ha, ha2⟩ := st
    obtain ⟨xs, hq, hx⟩ := hg
    obtain ⟨its, rv, p, hz⟩ := I.tuple hq
    obtain ⟨f0, f1, f2, f3, f4, f5⟩ := hf it (by simp)
    have hl := rv.length
    refine wpAny_pyNext_enum_endD' (I.ok.hd hc) he hit p (by simp; omega) fun h' eb => ⟨rfl, I.turned (t' := s.toks) (fun b o hb q => eb b o hb q) f0 f1 f3 f4 f5⟩
  self := fun A i s Q E st h => let ⟨⟨_, he⟩, _⟩ := st; wpAny_pyIter_enum he h
def iEnumA (K : PySem.W.Frag) (ta : TA) : TI := fun σ H R => ta σ H fun vs H1 => ∃ a xs, vs = [.ref a] ∧ ((SqL K H1 a xs ∧ R (Ite K a) H1) ∨ (SqT K H1 a xs ∧ R (IteT K a) H1))
theorem pi_enumA {X : Cx} {e : Expr} {ta : TA} {p pos tpos : Pos} {elts : List Expr} {kk : Nat} (hg : Gl X "enumerate") (hm : X.mg "enumerate" = none) (ha : PA X [e] ta) (hs : starEach [e] X.env = [(false, eval e X.env)] := by rfl) :
    PI X (.Tuple elts kk tpos) (.Call (.Name "enumerate" p) [e] [] pos) (iEnumA X.K ta) := by
  refine ⟨fun pins s σ H R I h => ?_⟩
  refine Call_ (ld_blt I hg hm boot_enumerate (PyProof.Rows.callWith_type1 (thn (ha.run pos pins s σ H _ I h) fun us s1 ⟨vs, H1, I1, r1, q1⟩ => ?_) hs rfl))
  obtain ⟨a, xs, ex, q1⟩ := q1
  subst ex
  cases r1 with
  | cons r rr =>
    cases rr
    cases r
    have fresh : ∀ b ∈ [s1.heap.objs.size + 1, s1.heap.objs.size], FpOk X pins H1 b := fun b hb => by
      have e' : b = s1.heap.objs.size + 1 ∨ b = s1.heap.objs.size := by simpa using hb
      have hle : s1.heap.objs.size ≤ b := by
        rcases e' with z | z
        · rw [z]; exact Nat.le_add_right _ _
        · rw [z]; exact Nat.le_refl _
      exact I1.fpOk hle (I1.hok.fresh hle)
    rcases q1 with ⟨hq, q⟩ | ⟨hq, q⟩
    · obtain ⟨its, rv, p', hz⟩ := I1.list hq
      refine call_enumerate_list p'.isList fun h' he hit hsz hk => wpAny_pyIter_enum he ?_
      have I2 : Inv X pins σ H1 { s1 with heap := h' } := I1.kept (t' := s1.toks) hk
      exact ⟨s1.heap.objs.size + 1, [s1.heap.objs.size + 1, s1.heap.objs.size], _, _, H1, rfl, I2, turn_enum a (s1.heap.objs.size + 1) s1.heap.objs.size, ⟨⟨.none, he⟩, hit, Nat.succ_ne_self _⟩, fresh, q⟩
    · obtain ⟨its, rv, p', hz⟩ := I1.tuple hq
      obtain ⟨oo, hoo, _⟩ := id p'
      have hlt : a < s1.heap.objs.size := Heap.lt_size hoo
      refine call_enumT (show s1.heap.IsTuple a its.toArray from p') fun h' he hit hsz hk => wpAny_pyIter_enum he ?_
      have I2 : Inv X pins σ H1 { s1 with heap := h' } := I1.kept (t' := s1.toks) hk
      exact ⟨s1.heap.objs.size + 1, [s1.heap.objs.size + 1, s1.heap.objs.size], _, _, H1, rfl, I2, turn_enumT a (s1.heap.objs.size + 1) s1.heap.objs.size, ⟨⟨.none, he⟩, hit, Nat.succ_ne_self _, Nat.ne_of_lt hlt, Nat.ne_of_lt (Nat.lt_succ_of_lt hlt)⟩, fresh, q⟩
section
variable {K : PySem.W.Frag} {Hf1 G : Hp} {a : Addr} {vs : List V} {ds : List PyData}
theorem enumD_get : ∀ {ds : List PyData} {i k : Nat} {d : PyData}, (enumD k ds)[i]? = some d → ∃ x, ds[i]? = some x ∧ d = .tuple [.int ((k + i : Nat) : Int), x]
  | [], _, _, _, h => by simp [enumD] at h
  | a :: r, 0, k, d, h => ⟨a, rfl, (Option.some.inj (show some (PyData.tuple [.int ((k : Nat) : Int), a]) = some d by simpa [enumD] using h)).symm⟩
  | a :: r, i + 1, k, d, h => by
    obtain ⟨x, h1, h2⟩ := enumD_get (ds := r) (i := i) (k := k + 1) (d := d) (by simpa [enumD] using h)
    exact ⟨x, by simpa using h1, by rw [h2, show k + 1 + i = k + (i + 1) by omega]⟩
theorem enumD_length : ∀ {ds : List PyData} {k : Nat}, (enumD k ds).length = ds.length
  | [], _ => rfl
  | a :: r, k => by rw [enumD, List.length_cons, enumD_length, List.length_cons]
theorem gi_enumL (hs : SqL K G a vs) (r : RpAll K Hf1 vs ds) : GI K (Ite K a) (enumD 0 ds) Hf1 G := fun i H Hf s1 s2 s3 => by
  have hs' := s3.seq hs
  refine ⟨fun e => ⟨vs, hs', by rw [r.length, e, enumD_length]; exact Nat.le_refl _⟩, fun d hd => ?_⟩
  obtain ⟨x, h1, rfl⟩ := enumD_get hd
  obtain ⟨v, g1, g2⟩ := r.get h1
  refine ⟨⟨vs, v, hs', g1⟩, fun z H' ⟨T, x', e1, hT, e2, k1⟩ => ?_⟩
  subst e1 e2
  have z1 := k1 vs hs'
  rw [g1] at z1; cases z1
  exact pair_new s2 hT (by rw [Nat.zero_add]; exact .int _) (g2.mono s1 _ _)
theorem gi_enumT (hs : SqT K G a vs) (r : RpAll K Hf1 vs ds) : GI K (IteT K a) (enumD 0 ds) Hf1 G := fun i H Hf s1 s2 s3 => by
  have hs' := s3.sqT hs
  refine ⟨fun e => ⟨vs, hs', by rw [r.length, e, enumD_length]; exact Nat.le_refl _⟩, fun d hd => ?_⟩
  obtain ⟨x, h1, rfl⟩ := enumD_get hd
  obtain ⟨v, g1, g2⟩ := r.get h1
  refine ⟨⟨vs, v, hs', g1⟩, fun z H' ⟨T, x', e1, hT, e2, k1⟩ => ?_⟩
  subst e1 e2
  have z1 := k1 vs hs'
  rw [g1] at z1; cases z1
  exact pair_new s2 hT (by rw [Nat.zero_add]; exact .int _) (g2.mono s1 _ _)
end
section
variable {X : Cx} {e : Expr} {fa : Rho → Option PyData}
theorem pi_enumB {p pos tpos : Pos} {elts : List Expr} {kk : Nat} (hg : Gl X "enumerate") (hm : X.mg "enumerate" = none) (ha : PE X e (tBm X.K fa)) (hs : starEach [e] X.env = [(false, eval e X.env)]) :
    PI X (.Tuple elts kk tpos) (.Call (.Name "enumerate" p) [e] [] pos) (tI X.K true fun ρ => (fa ρ).bind fun x => (seqD x).map (enumD 0)) := by
  refine PIimp (pi_enumA hg hm (pa_one ha (by rw [hs]; rfl)) hs) fun σ H R ⟨Hf, ρ, ds, er, hd, k⟩ => ?_
  obtain ⟨d, h1, hd⟩ := Option.bind_eq_some_iff.mp hd
  refine ⟨Hf, ρ, d, er, h1, fun v H' Hf' e r => ?_⟩
  cases d with
  | list es =>
    cases hd
    obtain ⟨p, vs, rfl, s1, z, rr⟩ := r.list e.sub
    exact ⟨p, vs, rfl, .inl ⟨s1, k _ _ Hf' e (by rw [enumD_length, ← rr.length]; exact z) (gi_enumL s1 rr)⟩⟩
  | tuple es =>
    cases hd
    obtain ⟨p, vs, rfl, s1, z, rr⟩ := r.tuple
    exact ⟨p, vs, rfl, .inr ⟨sqT_mono e.sub.same s1, k _ _ Hf' e (by rw [enumD_length, ← rr.length]; exact z) (gi_enumT (sqT_mono e.sub.same s1) rr)⟩⟩
  | _ => exact nomatch hd
theorem pi_enumF {p pos tpos : Pos} {elts : List Expr} {kk : Nat} (hg : Gl X "enumerate") (hm : X.mg "enumerate" = none) (ha : PE X e (tF X.K fa)) (hs : starEach [e] X.env = [(false, eval e X.env)]) :
    PI X (.Tuple elts kk tpos) (.Call (.Name "enumerate" p) [e] [] pos) (tI X.K false fun ρ => (fa ρ).bind fun x => (seqD x).map (enumD 0)) := by
  refine PIimp (pi_enumA hg hm (pa_cons ha pa_nil (by rw [hs]; rfl)) hs) fun σ H R ⟨Hf, ρ, ds, er, hd, k⟩ => ?_
  obtain ⟨d, h1, hd⟩ := Option.bind_eq_some_iff.mp hd
  refine ⟨Hf, ρ, d, er, h1, fun v H' Hf' e r => ?_⟩
  cases r with
  | lst s1 z rr =>
    cases hd
    exact ⟨_, _, rfl, .inl ⟨sqL_sub e.sub.same s1, k _ _ Hf' e (by rw [enumD_length, ← rr.length]; exact z) (gi_enumL s1 rr)⟩⟩
  | tup s1 z rr =>
    cases hd
    exact ⟨_, _, rfl, .inr ⟨sqT_mono e.sub.same s1, k _ _ Hf' e (by rw [enumD_length, ← rr.length]; exact z) (gi_enumT s1 rr)⟩⟩
  | _ => exact nomatch hd
end
/-! ### dicts with written texts as keys -/
section
variable {K : PySem.W.Frag} {H : Hp}
theorem valV_no {kvs : List (L2.Key × V)} {k : L2.Key} (h : k ∉ kvs.map (·.1)) : valV kvs k = none := by
  induction kvs with
  | nil => rfl
  | cons p r ih =>
    rw [List.map_cons, List.mem_cons, not_or] at h
    rw [valV_neg (fun e => h.1 e.symm)]
    exact ih h.2
theorem mergeK_nd : ∀ (more acc : List (L2.Key × V)), (acc.map (·.1) ++ more.map (·.1)).Nodup → mergeK acc more = acc ++ more
  | [], acc, _ => by rw [List.append_nil]; rfl
  | p :: r, acc, h => by
    have hn : p.1 ∉ acc.map (·.1) := fun q => (List.nodup_append.mp h).2.2 _ q _ (by simp) rfl
    have e : putK acc p.1 p.2 = acc ++ [p] := putK_new _ (valV_no hn)
    show mergeK (putK acc p.1 p.2) r = _
    rw [e, mergeK_nd r (acc ++ [p]) (by rw [List.map_append, List.append_assoc]; exact h), List.append_assoc]
    rfl
theorem kvOf_keys : ∀ (ks : List Str) (vs : List V), ∀ k ∈ (kvOf ks vs).map (·.1), ∃ x ∈ ks, k = .inr x
  | [], _, k, h => by simp [kvOf] at h
  | _ :: _, [], k, h => by simp [kvOf] at h
  | x :: ks, v :: vs, k, h => by
    rw [kvOf, List.map_cons, List.mem_cons] at h
    rcases h with rfl | h
    · exact ⟨x, by simp, rfl⟩
    · obtain ⟨y, h1, h2⟩ := kvOf_keys ks vs k h
      exact ⟨y, List.mem_cons_of_mem _ h1, h2⟩
theorem kvOf_nd : ∀ {ks : List Str} {vs : List V}, ks.Nodup → ((kvOf ks vs).map (·.1)).Nodup
  | [], _, _ => by simp [kvOf]
  | _ :: _, [], _ => by simp [kvOf]
  | x :: ks, v :: vs, h => by
    rw [kvOf, List.map_cons, List.nodup_cons]
    rw [List.nodup_cons] at h
    refine ⟨fun q => ?_, kvOf_nd h.2⟩
    obtain ⟨y, h1, h2⟩ := kvOf_keys ks vs _ q
    cases h2
    exact h.1 h1
theorem kvOf_len : ∀ (ks : List Str) (vs : List V), (kvOf ks vs).length ≤ ks.length
  | [], _ => by simp [kvOf]
  | _ :: _, [] => by simp [kvOf]
  | x :: ks, v :: vs => by rw [kvOf, List.length_cons, List.length_cons]; have := kvOf_len ks vs; omega
theorem kv_pick : ∀ {ks : List Str} {vs : List V} {ds : List PyData} (x : Str), RpAll K H vs ds → (∀ d, pickD ks ds x = some d → ∃ v, valV (kvOf ks vs) (.inr x) = some v ∧ Rp K H v d) ∧ (pickD ks ds x = none → valV (kvOf ks vs) (.inr x) = none)
  | [], vs, ds, x, _ => ⟨fun d h => by cases ds <;> simp [pickD] at h, fun _ => by simp [kvOf, valV_nil]⟩
  | k :: ks, _, [], x, r => by cases r; exact ⟨fun d h => by simp [pickD] at h, fun _ => by simp [kvOf, valV_nil]⟩
  | k :: ks, _, d0 :: ds, x, r => by
    cases r with
    | @cons v vs _ _ a b =>
      obtain ⟨i1, i2⟩ := kv_pick (ks := ks) x b
      by_cases e : k = x
      · subst e
        rw [kvOf, valV_pos rfl]
        exact ⟨fun d h => by rw [pickD, if_pos rfl] at h; cases h; exact ⟨_, rfl, a⟩, fun h => by rw [pickD, if_pos rfl] at h; cases h⟩
      · rw [kvOf, valV_neg (by simpa using e)]
        exact ⟨fun d h => by rw [pickD, if_neg e] at h; exact i1 d h, fun h => by rw [pickD, if_neg e] at h; exact i2 h⟩
end
def kvV (kvs : List (L2.Key × V)) : List (V × V) := kvs.map fun kv => (kV kv.1, kv.2)
def PrOk (K : PySem.W.Frag) (trs : List (TE × TE)) (ks : List Str) (fs : Rho → Option (List PyData)) : Prop := ∀ (σ : L2.St) (H Hf : Hp) (ρ : Rho) (ds : List PyData) (R : List (V × V) → Hp → Prop), ER K σ H Hf ρ → fs ρ = some ds →
  (∀ vs H' Hf', Ext H Hf H' Hf' → RpAll K Hf' vs ds → R (kvV (kvOf ks vs)) H') → tPairs trs σ H R
theorem pr_nil {K : PySem.W.Frag} : PrOk K [] [] (fun _ => some []) := fun σ H Hf ρ ds R er hd k => by
  cases hd
  exact k [] H Hf (Ext.refl er.sub) .nil
theorem pr_cons {K : PySem.W.Frag} {trs : List (TE × TE)} {k : Str} {ks : List Str} {f : Rho → Option PyData} {fs : Rho → Option (List PyData)} (h : PrOk K trs ks fs) : PrOk K ((tC (.str k), tF K f) :: trs) (k :: ks) (fun ρ => (f ρ).bind fun d => (fs ρ).map (d :: ·)) :=
  fun σ H Hf ρ ds R er hd q => by
    obtain ⟨d, h1, hd⟩ := Option.bind_eq_some_iff.mp hd
    obtain ⟨ds', h2, rfl⟩ := Option.map_eq_some_iff.mp hd
    show tF K f σ H fun y H2 => tPairs trs σ H2 fun ps H3 => R ((V.str k, y) :: ps) H3
    refine ⟨Hf, ρ, d, er, h1, fun v H1 Hf1 e1 r1 => h σ H1 Hf1 ρ ds' _ (er.ext e1) h2 fun vs H2 Hf2 e2 r2 => ?_⟩
    exact q (v :: vs) H2 Hf2 (e1.trans e2) (.cons (r1.mono e2.fr _ _) r2)
section
variable {X : Cx}
def tDc (K : PySem.W.Frag) (ks : List Str) (fs : Rho → Option (List PyData)) : TE := fun σ H Q => ∃ Hf ρ ds, ER K σ H Hf ρ ∧ fs ρ = some ds ∧ ∀ v H' Hf', Ext H Hf H' Hf' → DicAt K Hf' v ks ds → Q v H'
theorem pd_disp {pos : Pos} {keys : List (Option Expr)} {values : List Expr} {trs : List (TE × TE)} {ks : List Str} {fs : Rho → Option (List PyData)} (h : PPs X pos keys values trs) (ok : PrOk X.K trs ks fs) (nd : ks.Nodup) (hall : keys.all (·.isSome) = true) (hl : keys.length = values.length) (h0 : keys ≠ [])
    (h15 : keys.length ≤ 15) (hk : ks.length ≤ 15) : PE X (.Dict keys values pos) (tDc X.K ks fs) := by
  refine PEimp (pe_disp h hall hl h0 h15) fun σ H Q ⟨Hf, ρ, ds, er, hd, k⟩ => ?_
  intro p hp
  have e0 := Ext.allocO er.sub hp (.dK [])
  have hfp : Hf p = none := sub_none er.sub hp
  refine ok σ _ Hf ρ ds _ (er.ext e0) hd fun vs H' Hf' e r => ?_
  have gp : H' p = some (.dK []) := e.hs _ _ trivial upd_same
  have np : Hf' p = none := e.keepNone hfp upd_same
  refine ⟨gp, kvOf ks vs, rfl, Nat.le_trans (kvOf_len _ _) hk, ?_⟩
  rw [mergeK_nd (kvOf ks vs) [] (by simpa using kvOf_nd nd), List.nil_append]
  have e1 : Ext H Hf (upd H' p (.dK (kvOf ks vs))) (upd Hf' p (.dK (kvOf ks vs))) := ((e0.trans e).poke (.dK (kvOf ks vs)) hp np gp).frz hp np upd_same
  exact k _ _ _ e1 ⟨p, vs, rfl, upd_same, r.mono (same_upd np _) _ _⟩
variable {o r d : Expr} {fr fd : Rho → Option PyData} {fs : Rho → Option (List PyData)} {ks : List Str} {pos : Pos}
theorem pf_pick (hu : X.A.units + 65 < cLine) (ho : PE X o (tDc X.K ks fs)) (hr : PE X r (tF X.K fr)) (hs : NoSl r) : PE X (.Subscript o r pos) (tF X.K fun ρ => (fs ρ).bind fun ds => (fr ρ).bind fun x => pickX ks ds x) := by
  refine PEimp (pe_dget (by omega) ho hr hs) fun σ H Q ⟨Hf, ρ, y, er, hd, k⟩ => ?_
  obtain ⟨ds, h1, hd⟩ := Option.bind_eq_some_iff.mp hd
  obtain ⟨x, h2, hd⟩ := Option.bind_eq_some_iff.mp hd
  refine ⟨Hf, ρ, ds, er, h1, fun v H1 Hf1 e1 D => ⟨Hf1, ρ, x, er.ext e1, h2, fun u H2 Hf2 e2 r2 => ?_⟩⟩
  obtain ⟨p, vs, rfl, D1, D2⟩ := D.mono e2.fr
  cases x with
  | str x =>
    cases r2
    obtain ⟨w, h3, h4⟩ := (kv_pick x D2).1 y hd
    exact ⟨p, w, rfl, by have := DGet.k (k := .inr x) (e2.sub.same _ _ D1); rw [h3] at this; exact this, (k.ext (e1.trans e2)).here e2.sub h4⟩
  | _ => exact nomatch hd
theorem pf_getd {apos : Pos} (hu : X.A.units + 65 < cLine) (ho : PE X o (tDc X.K ks fs)) (hr : PE X r (tF X.K fr)) (hd : PE X d (tF X.K fd)) (m : M2 X o "get" apos r d pos) :
    PE X (.Call (.Attribute o "get" apos) [r, d] [] pos) (tF X.K fun ρ => (fs ρ).bind fun ds => (fr ρ).bind fun x => (fd ρ).bind fun y => getX ks ds x y) := by
  refine PEimp (pe_dget2 (by omega) ho hr hd m) fun σ H Q ⟨Hf, ρ, z, er, hz, k⟩ => ?_
  obtain ⟨ds, h1, hz⟩ := Option.bind_eq_some_iff.mp hz
  obtain ⟨x, h2, hz⟩ := Option.bind_eq_some_iff.mp hz
  obtain ⟨y, h3, hz⟩ := Option.bind_eq_some_iff.mp hz
  refine ⟨Hf, ρ, ds, er, h1, fun v H1 Hf1 e1 D => ?_⟩
  obtain ⟨p, vs, rfl, D1, D2⟩ := id D
  refine ⟨p, rfl, .inl ⟨_, .inl (e1.sub.same _ _ D1)⟩, Hf1, ρ, x, er.ext e1, h2, fun u H2 Hf2 e2 r2 => ⟨Hf2, ρ, y, (er.ext e1).ext e2, h3, fun w H3 Hf3 e3 r3 => ?_⟩⟩
  cases x with
  | str x =>
    cases r2
    have D1' : H3 p = some (.dK (kvOf ks vs)) := e3.sub.same _ _ (e3.fr _ _ (e2.fr _ _ D1))
    have D2' := (D2.mono e2.fr _ _).mono e3.fr _ _
    have g := DGet.k (k := .inr x) D1'
    have hz : some ((pickD ks ds x).getD y) = some z := hz
    cases q : pickD ks ds x with
    | none =>
      rw [q] at hz
      cases hz
      refine ⟨_, g, ?_⟩
      rw [(kv_pick x D2').2 q]
      exact (((k.ext e1).ext e2).ext e3).here e3.sub r3
    | some c =>
      rw [q] at hz
      cases hz
      obtain ⟨w', h3, h4⟩ := (kv_pick x D2').1 _ q
      refine ⟨_, g, ?_⟩
      rw [h3]
      exact (((k.ext e1).ext e2).ext e3).here e3.sub h4
  | _ => exact nomatch hz
/-- a local name that holds a dict -/
theorem pd_var {i : Nat} (h : PE X o (tVar i)) (hu : X.A.units + 65 < cLine) (hr : PE X r (tF X.K fr)) (hs : NoSl r) : PE X (.Subscript o r pos) (tF X.K fun ρ => (fr ρ).bind fun x => pickS ρ i x) := by
  refine PEimp (pe_dget (by omega) h hr hs) fun σ H Q ⟨Hf, ρ, y, er, hd, k⟩ => ?_
  obtain ⟨x, h2, hd⟩ := Option.bind_eq_some_iff.mp hd
  cases q : ρ[i]? with
  | none => simp only [pickS, q] at hd; cases hd
  | some s =>
    cases s with
    | dic ks ds =>
      simp only [pickS, q] at hd
      obtain ⟨v, g1, D⟩ := er.dic i ks ds q
      refine ⟨v, g1, Hf, ρ, x, er, h2, fun u H2 Hf2 e2 r2 => ?_⟩
      obtain ⟨p, vs, rfl, D1, D2⟩ := D.mono e2.fr
      cases x with
      | str x =>
        cases r2
        obtain ⟨w, h3, h4⟩ := (kv_pick x D2).1 y hd
        exact ⟨p, w, rfl, by have := DGet.k (k := .inr x) (e2.sub.same _ _ D1); rw [h3] at this; exact this, (k.ext e2).here e2.sub h4⟩
      | _ => exact nomatch hd
    | _ => simp only [pickS, q] at hd; cases hd
end
/-! ### sorted -/
section
variable {K : PySem.W.Frag} {H : Hp} {h : Heap}
theorem each_rp : ∀ {vs : List V} {us : List Value} {ds : List PyData}, RpAll K H vs ds → Vals vs us → PySem.W.EachIs (fun u d => ∃ x : V, RelV x u ∧ Rp K H x d) us ds
  | _, _, [], r, v => by cases r; cases v; exact .nil
  | _, _, d :: ds, r, v => by
    cases r with
    | cons a b => cases v with
      | cons c e => exact .cons ⟨_, c, a⟩ (each_rp b e)
theorem rp_each : ∀ {us : List Value} {ds : List PyData}, PySem.W.EachIs (fun u d => ∃ x : V, RelV x u ∧ Rp K H x d) us ds → ∃ vs, Vals vs us ∧ RpAll K H vs ds
  | _, _, .nil => ⟨[], .nil, .nil⟩
  | _, _, .cons ⟨x, a, b⟩ t => by
    obtain ⟨vs, h1, h2⟩ := rp_each t
    exact ⟨x :: vs, .cons a h1, .cons b h2⟩
theorem each_reads {X : Cx} {pins : List (Addr × Obj)} {σ : L2.St} {H : Hp} {s : Shared} (I : Inv X pins σ H s) : ∀ {vs : List V} {us : List Value} {ds : List PyData}, RpAll X.K H vs ds → Vals vs us → PySem.W.EachIs (fun u d => ∃ as, Reads s.heap u (id d) as) us ds
  | _, _, [], r, v => by cases r; cases v; exact .nil
  | _, _, d :: ds, r, v => by
    cases r with
    | cons a b => cases v with
      | cons c e => exact .cons (Dp.reads I d _ _ (Rp.dp d _ a) c) (each_reads I b e)
end
theorem sortOk_parts {ds : List PyData} (h : sortOk ds = true) : PySem.W.AllAlike ds ∧ PySem.W.Sortable ds ∧ ∀ d ∈ ds, d.depth ≤ 60 := by
  simp only [sortOk, Bool.and_eq_true, Bool.or_eq_true, List.all_eq_true, decide_eq_true_eq] at h
  obtain ⟨⟨h1, h2⟩, h3⟩ := h
  refine ⟨fun d hd e he => h1 d hd e he, ?_, h3⟩
  rcases h2 with h2 | h2
  · left
    intro d hd
    have := h2 d hd
    cases d <;> simp [neTup] at this
    rename_i xs
    cases xs with
    | nil => simp [neTup] at this
    | cons x r => exact ⟨x, r, rfl⟩
  · right
    intro d hd
    have := h2 d hd
    refine ⟨fun e => ?_, fun xs e => ?_⟩ <;> (subst e; simp [noTup] at this)
end Ev

/-! EvM: more operators: a tuple turned round, str of an int, sorted of a tuple, a module's dict. -/
namespace Ev
variable [Memo]
open PySem PySem.Spec PyProof.Rows L2
open PySem.Calls

/-! ### t[::-1] -/
section
variable {prog : Program} {w : World} {A : Around} {E : Value → Shared → Prop} {s : Shared}
theorem fm_congr {α β : Type} : ∀ (l : List α) {f g : α → Option β}, (∀ m ∈ l, f m = g m) → l.filterMap f = l.filterMap g
  | [], _, _, _ => rfl
  | a :: l, f, g, h => by
    rw [List.filterMap_cons, List.filterMap_cons, h a (by simp), fm_congr l fun m hm => h m (List.mem_cons_of_mem _ hm)]
theorem fm_all {α : Type} : ∀ (l : List α), (List.range l.length).filterMap (fun m => l[m]?) = l
  | [] => rfl
  | a :: l => by
    rw [List.length_cons, List.range_succ_eq_map, List.filterMap_cons]
    simp only [List.getElem?_cons_zero, List.filterMap_map]
    exact congrArg (a :: ·) (fm_all l)
theorem rev_pick (xs : Array Value) : ((List.range xs.size).filterMap fun (m : Nat) => xs[(((xs.size : Int) - 1) + (m : Int) * (-1)).toNat]?).toArray = xs.toList.reverse.toArray := by
  congr 1
  have e : ((List.range xs.size).filterMap fun (m : Nat) => xs[(((xs.size : Int) - 1) + (m : Int) * (-1)).toNat]?) = (List.range xs.toList.reverse.length).filterMap fun m => xs.toList.reverse[m]? := by
    rw [List.length_reverse, Array.length_toList]
    refine fm_congr _ fun m hm => ?_
    have hm' : m < xs.size := by simpa using hm
    have h1 : (((xs.size : Int) - 1) + (m : Int) * (-1)).toNat = xs.size - 1 - m := by omega
    rw [h1, List.getElem?_reverse (by simpa using hm')]
    simp
  rw [e, fm_all]
theorem sl_rev (n : Nat) : Builtin.Slice.sliceAdjust none none (-1) (n : Int) = ((n : Int) - 1, -1) ∧ Builtin.Slice.slicePlaces ((n : Int) - 1) (-1) (-1) = n := by
  constructor
  · unfold Builtin.Slice.sliceAdjust
    simp
  · unfold Builtin.Slice.slicePlaces
    simp
    split <;> omega
theorem getItem_tup_rev {t sl : Addr} {xs : Array Value} {vs : Value} {Q : Value → Shared → Prop} (ht : IsTup s.heap t xs) (hs : s.heap.IsSliceOf sl .none .none vs) (ps : IsPart vs (some (-1))) (hsz : xs.size ≤ sizeLine)
    (k : Q (.ref s.heap.objs.size) { s with heap := s.heap.push { cls := .type "tuple", data := .seq xs.toList.reverse.toArray } }) : wpAny (model prog w) A (getItem (.ref t) (.ref sl)) Q E s := by
  obtain ⟨os, h1, h2, h3⟩ := id hs
  have hT : s.TypeIs (.ref sl) "slice" := ⟨os, h1, h2⟩
  have hok : sizeOk (.seq xs.toList.reverse.toArray) := by
    show xs.toList.reverse.toArray.size ≤ sizeLine
    simpa using hsz
  unfold getItem
  try with_reducible refine wpAny_holding ?_
  first | refine wpAny_bind (wpAny_pure ?_) | skip
  refine wpAny_bind (wpAny_sequenceKey ht.typeIs (by decide) ?_)
  refine wpAny_bind (wpAny_callSpecial?_slot (name := Str.ofString "__getitem__") ht.typeIs PyProof.Rows.slot_tuple_getitem (wpAny_call_entry PyProof.Rows.slot_tuple_getitem ht.typeIs entry_tuple_getitem ?_ (args_tuple_getitem _ _)))
  show wpAny _ _ (Builtin.Tuple.tupleItemsOf (.ref t) >>= _) _ _ s
  refine wpAny_bind (tupleItemsOf_ ht (wpAny_bind (wpAny_typeOf hT ?_)))
  rw [if_pos (by decide)]
  have ap : ∀ {R : Int × Int × Nat → Shared → Prop}, R ((xs.size : Int) - 1, -1, xs.size) s → wpAny (model prog w) A.in1 (Builtin.Slice.sliceApplied (.ref sl) (pure (xs.size : Int))) R E s := by
    intro R hR
    unfold Builtin.Slice.sliceApplied Builtin.Slice.sliceFields
    refine wpAny_bind (wpAny_bind (wpAny_field h1 h3 (x := .none) rfl (wpAny_bind (wpAny_field h1 h3 (x := .none) rfl (wpAny_bind (wpAny_field h1 h3 (x := vs) rfl (wpAny_pure ?_)))))))
    refine wpAny_bind (HT.slicePart_ ps ?_)
    show wpAny _ _ (if ((-1 : Int) == 0) = true then _ else _) _ _ s
    rw [if_neg (by decide)]
    refine wpAny_bind (HT.slicePart_ .none (wpAny_bind (HT.slicePart_ .none (wpAny_bind (wpAny_pure ?_)))))
    obtain ⟨g1, g2⟩ := sl_rev xs.size
    show wpAny _ _ (match Builtin.Slice.sliceAdjust none none (-1) (xs.size : Int) with | (lo, hi) => pure (lo, (-1 : Int), Builtin.Slice.slicePlaces lo hi (-1))) _ _ s
    rw [g1]
    show wpAny _ _ (pure ((xs.size : Int) - 1, (-1 : Int), Builtin.Slice.slicePlaces ((xs.size : Int) - 1) (-1) (-1))) _ _ s
    rw [g2]
    exact wpAny_pure hR
  refine wpAny_bind (ap ?_)
  have no : ¬ ((((xs.size : Int) - 1) == 0 && (-1 : Int) == 1 && xs.size == xs.size) = true) := by
    rw [show ((-1 : Int) == 1) = false from rfl, Bool.and_false, Bool.false_and]
    exact Bool.false_ne_true
  show wpAny _ _ (if (((xs.size : Int) - 1) == 0 && (-1 : Int) == 1 && xs.size == xs.size) = true then _ else _) _ _ s
  rw [if_neg no, rev_pick]
  first
    | exact wpAny_bind (m := Builtin.Tuple.tupleExact _) (wpAny_newObj_type (wpAny_pure ⟨_, rfl, wpAny_pure k⟩) hok)
    | exact wpAny_bind (m := Builtin.Tuple.tupleExact _) (wpAny_newObj_type (wpAny_bind (wpAny_pure (wpAny_pure ⟨_, rfl, wpAny_pure k⟩))) hok)
    | exact wpAny_bind (wpAny_bind (m := Builtin.Tuple.tupleExact _) (wpAny_newObj_type (wpAny_pure (wpAny_pure ⟨_, rfl, wpAny_pure k⟩)) hok))
    | exact wpAny_bind (wpAny_bind (m := Builtin.Tuple.tupleExact _) (wpAny_newObj_type (wpAny_pure ⟨_, rfl, wpAny_pure k⟩) hok))
end
section
variable {X : Cx}
/-- what is turned round: a list or a tuple -/
def tRevA (K : PySem.W.Frag) (te : TE) : TE := fun σ H Q => te σ H fun x H1 => ∃ a xs, x = .ref a ∧ ((SqL K H1 a xs ∧ ∀ p, H1 p = none → Q (.ref p) (upd H1 p (.lst xs.reverse))) ∨ (SqT K H1 a xs ∧ ∀ p, H1 p = none → Q (.ref p) (upd H1 p (.tup xs.reverse))))
theorem pe_revA {e : Expr} {te : TE} {k : Nat} {p1 p2 p3 pos : Pos} (he : PE X e te) : PE X (.Subscript e (.Slice none none (some (.UnaryOp .USub (.Constant (.int 1) k p1) p2)) p3) pos) (tRevA X.K te) := by
  refine ⟨fun pins s σ H Q I h => ?_⟩
  refine Subscript_ (thn (he.run pins s σ H _ I h) fun v s1 ⟨x, H1, I1, r1, q1⟩ => ?_)
  obtain ⟨a, xs, ex, q⟩ := q1
  subst ex
  cases r1
  have hst : PO X (some (.UnaryOp .USub (.Constant (.int 1) k p1) p2)) (tPart (tUn (rU fun i => .int (-i)) (tC (.int 1)))) := po_some (pe_un un_neg pe_int)
  refine wpAny_Slice (thn (po_none.run pins s1 σ H1 (fun o G => o = none ∧ G = H1) I1 ⟨rfl, rfl⟩) fun vl s2 ⟨l, H2, I2, pl, el, e2⟩ => ?_)
  subst el e2
  refine thn (po_none.run pins s2 σ H2 (fun o G => o = none ∧ G = H2) I2 ⟨rfl, rfl⟩) fun vu s3 ⟨u, H3, I3, pu, eu, e3⟩ => ?_
  subst eu e3
  refine thn (hst.run pins s3 σ H3 (fun o G => o = some (-1) ∧ G = H3) I3 ⟨1, rfl, -1, rfl, rfl, rfl⟩) fun vs s4 ⟨o, H4, I4, ps, eo, e4⟩ => ?_
  subst eo e4
  have I5 : Inv X pins σ H4 { s4 with heap := s4.heap.push { cls := .type "slice", data := .fields #[vl, vu, vs] } } := I4.kept (t' := s4.toks) fun b ob z => Heap.get?_push_of_some _ z
  show wpAny (model X.prog X.w) X.A (subscriptTail e (.Slice none none (some (.UnaryOp .USub (.Constant (.int 1) k p1) p2)) p3) (.ref a) (.ref s4.heap.objs.size)) (EP X pins σ Q) X.xe { s4 with heap := s4.heap.push { cls := .type "slice", data := .fields #[vl, vu, vs] } }
  cases pl
  cases pu
  rcases q with ⟨hx, q⟩ | ⟨hx, q⟩
  · obtain ⟨its, r, ht, hz⟩ := I5.list hx
    have hlen := r.length
    refine tail_any (ops := [.ref a, .ref s4.heap.objs.size]) ht.isList.typeIs (PySem.slot_list_getitem.lookup) ?_ (by with_unfolding_all rfl)
    refine wpAny_getItem_list_slice ht.isList (Heap.IsSliceOf.new _ _ _ vs) .none .none ps (by decide) ?_ (by rw [List.size_toArray]; omega)
    rw [PySem.W.krv_pick]
    exact ⟨.ref _, _, I5.laid (t' := s4.toks) (o := .lst xs.reverse) (fun b ob z => Heap.get?_push_of_some _ z) (Nat.le_refl _) ⟨by rw [List.length_reverse]; exact hz, _, 0, r.reverse, Heap.get?_push_size _ rfl⟩, rfl, q _ (I5.hok.fresh (Nat.le_refl _))⟩
  · obtain ⟨its, r, ht, hz⟩ := I5.tuple hx
    have hlen := r.length
    refine tail_any (ops := [.ref a, .ref s4.heap.objs.size]) ht.typeIs (PyProof.Rows.slot_tuple_getitem.lookup) ?_ (by with_unfolding_all rfl)
    refine getItem_tup_rev ht (Heap.IsSliceOf.new _ _ _ vs) ps (by rw [List.size_toArray]; omega) ?_
    exact ⟨.ref _, _, I5.laid (t' := s4.toks) (o := .tup xs.reverse) (fun b ob z => Heap.get?_push_of_some _ z) (Nat.le_refl _) ⟨by rw [List.length_reverse]; exact hz, _, r.reverse, IsTup.new _ _⟩, rfl, q _ (I5.hok.fresh (Nat.le_refl _))⟩
theorem pf_revA {a : Expr} {fa : Rho → Option PyData} {k : Nat} {p1 p2 p3 pos : Pos} (ha : PE X a (tBm X.K fa)) : PE X (.Subscript a (.Slice none none (some (.UnaryOp .USub (.Constant (.int 1) k p1) p2)) p3) pos) (tF X.K fun ρ => (fa ρ).bind revD) := by
  refine PEimp (pe_revA ha) fun σ H Q ⟨Hf, ρ, d, er, hd, k⟩ => ?_
  obtain ⟨x, h1, hd⟩ := Option.bind_eq_some_iff.mp hd
  cases x with
  | list ds =>
    cases hd
    refine ⟨Hf, ρ, _, er, h1, fun v H' Hf' e r => ?_⟩
    obtain ⟨p, vs, rfl, s1, z, rr⟩ := r.list e.sub
    exact ⟨p, vs, rfl, .inl ⟨s1, (k.ext e).newL e.sub (by rw [List.length_reverse]; exact z) rr.reverse⟩⟩
  | tuple ds =>
    cases hd
    refine ⟨Hf, ρ, _, er, h1, fun v H' Hf' e r => ?_⟩
    obtain ⟨p, vs, rfl, s1, z, rr⟩ := r.tuple
    exact ⟨p, vs, rfl, .inr ⟨sqT_mono e.sub.same s1, (k.ext e).newT e.sub (by rw [List.length_reverse]; exact z) rr.reverse⟩⟩
  | _ => exact nomatch hd

/-! ### str(n) -/
theorem str_digit {i : Int} (h0 : 0 ≤ i) (h9 : i ≤ 9) : Str.ofString (toString i) = ⟨#[48 + i.toNat]⟩ := by
  have h : i = 0 ∨ i = 1 ∨ i = 2 ∨ i = 3 ∨ i = 4 ∨ i = 5 ∨ i = 6 ∨ i = 7 ∨ i = 8 ∨ i = 9 := by omega
  rcases h with rfl | rfl | rfl | rfl | rfl | rfl | rfl | rfl | rfl | rfl <;> decide +kernel
theorem blt_str : CallR X (.type "str") (rBlt X.K .str) := by
  refine CallR.imp call_str_int fun xs H Q ⟨v, Hf, a, d, e, sub, r, hd, k⟩ => ?_
  subst e
  cases a with
  | int i =>
    cases r.int
    obtain ⟨h1, rfl⟩ := ite_some (c := decide (0 ≤ i) && decide (i ≤ 9)) hd
    simp only [Bool.and_eq_true, decide_eq_true_eq] at h1
    have e : (toString i : Str) = ⟨#[48 + i.toNat]⟩ := str_digit h1.1 h1.2
    have hl : i.natAbs.log2 < 1920 := by
      have h : i = 0 ∨ i = 1 ∨ i = 2 ∨ i = 3 ∨ i = 4 ∨ i = 5 ∨ i = 6 ∨ i = 7 ∨ i = 8 ∨ i = 9 := by omega
      rcases h with rfl | rfl | rfl | rfl | rfl | rfl | rfl | rfl | rfl | rfl <;> decide +kernel
    refine ⟨i, rfl, hl, ?_⟩
    show Q (.str (Str.ofString (toString i))) H
    rw [str_digit h1.1 h1.2]
    refine k.here sub (.str _ (by show 1 ≤ sizeLine; decide) ?_)
    show (#[48 + i.toNat] : Array Nat).all (· < 0x110000) = true
    simp
    omega
  | _ => exact nomatch hd

/-! ### sorted of a tuple -/
theorem collect_tup {prog : Program} {w : World} {A : Around} {E : Value → Shared → Prop} {s : Shared} {t : Addr} {vs : List Value} {R : List Value → Shared → Prop} (ht : IsTup s.heap t vs.toArray) (hz : vs.length ≤ sizeLine)
    (k : R vs { s with heap := (s.heap.push (seqObj "list" #[] 0)).update s.heap.objs.size (Obj.mapSeq (· ++ vs.toArray)) }) : wpAny (model prog w) A (collect (.ref t)) R E s := by
  obtain ⟨o, ho, hc, n, hd⟩ := id ht
  unfold collect
  refine wpAny_bind (wpAny_runValue (codeAny_builtin entry_proto_collect' ?_))
  show wpAny _ _ (do again (.builtin "list.__iadd__" ⟨[← newList [], .ref t], []⟩)) _ _ s
  refine wpAny_bind (wpAny_newList (wpAny_pure ⟨Code.quiet_builtin _ (by decide +kernel), codeAny_builtin entry_list_iadd' ?_⟩))
  show wpAny _ _ (Builtin.List.listExtendWith (.ref s.heap.objs.size) (.ref t) (.ref s.heap.objs.size)) _ _ { s with heap := s.heap.push (seqObj "list" #[] 0) }
  unfold Builtin.List.listExtendWith
  have h1 : (s.heap.push (seqObj "list" #[] 0)).get? t = some o := Heap.get?_push_of_some _ ho
  refine wpAny_bind (wpAny_typeOf (T := "tuple") ⟨o, h1, hc⟩ ?_)
  have h2 : (Value.type "tuple" == Value.type "tuple") = true := by rfl
  rw [if_pos (by rw [h2]; simp)]
  refine wpAny_bind (listItems_at h1 hd ?_)
  refine wpAny_bind (listItems_at (n := 0) (xs := #[]) (Heap.get?_push_size _ rfl) rfl ?_)
  rw [if_neg (by simp)]
  refine wpAny_bind (listUpdate_at (n := 0) (xs := #[]) (Heap.get?_push_size _ rfl) rfl ?_ (Nat.zero_le _) (by show (#[] ++ vs.toArray).size ≤ sizeLine + 1; simp; omega))
  refine wpAny_pure ?_
  show wpAny (model prog w) A (do
      let ob ← load s.heap.objs.size
      match ob.data with
      | .seq xs _ => pure xs.toList
      | _ => unsupported "internal:collect") R E { s with heap := (s.heap.push (seqObj "list" #[] 0)).update s.heap.objs.size (Obj.mapSeq (· ++ vs.toArray)) }
  refine wpAny_bind (wpAny_load (get?_update_seq (Heap.get?_push_size _ rfl) _) ?_)
  show wpAny _ _ (pure ((#[] : Array Value) ++ vs.toArray).toList) R E _
  have e : ((#[] : Array Value) ++ vs.toArray).toList = vs := by simp
  rw [e]
  exact wpAny_pure k
end
section
variable {prog : Program} {w : World} {A : Around} {E : Value → Shared → Prop} {s : Shared} {κ : PyProof.Rows.KeyKind}
theorem sorted_shellT {t : Addr} {vs : List Value} {R : Value → Shared → Prop} (ht : IsTup s.heap t vs.toArray) (hz : vs.length ≤ sizeLine)
    (inner : ∀ E0 : Value → Shared → Prop, wpAny (model prog w) A.in1.in1 (Builtin.«list.sort» ⟨[.ref (s.heap.objs.size + 1)], []⟩) (fun f z => f = .done (.ret .none) ∧ R (.ref (s.heap.objs.size + 1)) z) E0 { s with heap := PySem.W.copyHeap s.heap vs }) :
    wpAny (model prog w) A (call (.builtin "sorted") [.ref t]) R E s := by
  refine call_function_entry kind_sorted plain_sorted entry_sorted (args_sorted1 _) ?_
  unfold Builtin.«sorted»
  refine wpAny_bind (m := checkCount "sorted" 1 1 _) (wpAny_pure ?_)
  refine wpAny_bind (collect_tup ht hz ?_)
  refine wpAny_bind (wpAny_newList ?_ hz)
  have hn : ((s.heap.push (seqObj "list" #[] 0)).update s.heap.objs.size (Obj.mapSeq (· ++ vs.toArray))).objs.size = s.heap.objs.size + 1 := by rw [Heap.size_update, size_push']
  show wpAny _ _ _ _ _ { s with heap := PySem.W.copyHeap s.heap vs }
  rw [hn]
  refine wpAny_bind (wpAny_holding (wpAny_call_entry slot_list_sort ⟨_, PySem.W.copyHeap_at s.heap vs, rfl⟩ entry_list_sort ?_ (args_list_sort _)))
  refine wpAny_mono (inner _) (fun f z hf => ?_) fun _ _ e => e
  obtain ⟨rfl, q⟩ := hf
  exact ⟨_, rfl, wpAny_pure ⟨_, rfl, q⟩⟩
theorem sorted_tdata {β : Type} {enc : β → PyData} {R : Value → β → Prop} {bs : List β} {vs : List Value} {t : Addr} {Q : Value → Shared → Prop} (ht : IsTup s.heap t vs.toArray) (e : PySem.W.EachIs R vs bs) (er : PySem.W.EachIs (fun v b => ∃ as, Reads s.heap v (enc b) as) vs bs)
    (hal : PySem.W.AllAlike (bs.map enc)) (hk : PySem.W.Sortable (bs.map enc)) (hz : bs.length ≤ sizeLine) (hu : ∀ b, b ∈ bs → A.units + 2 + (enc b).depth < cLine)
    (k : ∀ out, out.length = bs.length → PySem.W.EachIs R out (bs.mergeSort (PySem.W.dataLe false enc)) → Q (.ref (s.heap.objs.size + 1)) { s with heap := sortedAll s.heap vs (List.toArray out) }) :
    wpAny (model prog w) A (call (.builtin "sorted") [.ref t]) Q E s := by
  have er2 : PySem.W.EachIs (fun v b => ∃ as, Reads (PySem.W.sortingHeap (PySem.W.copyHeap s.heap vs) (s.heap.objs.size + 1) vs) v (enc b) as) vs bs := er.mono fun _ _ ⟨as, r⟩ => ⟨as, PyProof.Rows.Reads.keeps (fun _ _ => PySem.W.sorting_copy_old) r⟩
  have hzv : vs.length ≤ sizeLine := by rw [e.length]; exact hz
  refine sorted_shellT ht hzv fun _ => PySem.W.list_sort_vals (s := { s with heap := PySem.W.copyHeap s.heap vs }) (PySem.W.copyHeap_at s.heap vs)
    (PySem.W.SortsAt.data (s := { s with heap := PySem.W.sortingHeap (PySem.W.copyHeap s.heap vs) (s.heap.objs.size + 1) vs }) (PySem.W.each_map (R := fun v d => ∃ as, Reads (PySem.W.sortingHeap (PySem.W.copyHeap s.heap vs) (s.heap.objs.size + 1) vs) v d as) enc er2) hal hk (PySem.W.bound_map (A := A.in1.in1) hu)) hzv ⟨rfl, ?_⟩
  exact k _ (by rw [PySem.W.sortVals_length false rfl]; exact e.length) (PySem.W.sortVals_data false e er2 hal)
end
theorem blt_sorted {X : Cx} (hu : X.A.units + 65 < cLine) : CallR X (.builtin "sorted") (rBlt X.K .sorted) := by
  intro pins s σ H vs us Q I r h
  obtain ⟨v, Hf, a, d, rfl, sub, rb, hd, k⟩ := h
  obtain ⟨u, rfl, ru⟩ := vals1 r
  have kp : ∀ (its : List Value) (out : List Value) b o, s.heap.get? b = some o → (sortedAll s.heap its out.toArray).get? b = some o := fun _ _ _ _ => sortedAll_old
  have fin : ∀ {ds : List PyData} {xs : List V} {its out : List Value}, xs.length ≤ sizeLine → RpAll X.K Hf xs ds → KF X.K H Hf (.list (sortD ds)) Q → PySem.W.EachIs (fun u d => ∃ x : V, RelV x u ∧ Rp X.K Hf x d) out (ds.mergeSort (PySem.W.dataLe false id)) →
      EP X pins σ Q (.ref (s.heap.objs.size + 1)) { s with heap := sortedAll s.heap its out.toArray } := by
    intro ds xs its out z rr k eo
    obtain ⟨ys, h1, h2⟩ := rp_each eo
    obtain ⟨c, hc⟩ := sortedAll_at s.heap its out.toArray
    have hyl : ys.length ≤ sizeLine := by rw [h2.length, List.length_mergeSort, ← rr.length]; exact z
    refine ⟨.ref (s.heap.objs.size + 1), upd H (s.heap.objs.size + 1) (.lst ys), I.laid (t' := s.toks) (kp its out) (Nat.le_succ _) ⟨hyl, out, c, h1, hc⟩, rfl, ?_⟩
    exact k.newL sub hyl h2 _ (I.hok.fresh (Nat.le_succ _))
  cases a with
  | list ds =>
    have hd' : (if sortOk ds then some (PyData.list (sortD ds)) else none) = some d := hd
    by_cases c : sortOk ds = true
    · rw [if_pos c] at hd'
      cases hd'
      obtain ⟨c1, c2, c3⟩ := sortOk_parts c
      obtain ⟨p, xs, rfl, s1, z, rr⟩ := rb.list sub
      obtain rfl : u = Value.ref p := ru
      obtain ⟨its, rv, hl, hz⟩ := I.list s1
      have hle : ds.length ≤ sizeLine := by rw [← rr.length]; exact z
      exact PySem.W.sorted_data (R := fun u d => ∃ x : V, RelV x u ∧ Rp X.K Hf x d) (enc := id) (bs := ds) hl.isList (each_rp rr rv) (each_reads I (rr.mono sub _ _) rv) (by rw [List.map_id]; exact c1) (by rw [List.map_id]; exact c2) hle
        (fun b hb => by have := c3 b hb; simp only [id]; omega) fun out ho eo => fin z rr k eo
    · rw [if_neg c] at hd'; cases hd'
  | tuple ds =>
    have hd' : (if sortOk ds then some (PyData.list (sortD ds)) else none) = some d := hd
    by_cases c : sortOk ds = true
    · rw [if_pos c] at hd'
      cases hd'
      obtain ⟨c1, c2, c3⟩ := sortOk_parts c
      obtain ⟨p, xs, rfl, s1, z, rr⟩ := rb.tuple
      obtain rfl : u = Value.ref p := ru
      obtain ⟨its, rv, hl, hz⟩ := I.tuple (sqT_mono sub s1)
      have hle : ds.length ≤ sizeLine := by rw [← rr.length]; exact z
      exact sorted_tdata (R := fun u d => ∃ x : V, RelV x u ∧ Rp X.K Hf x d) (enc := id) (bs := ds) hl (each_rp rr rv) (each_reads I (rr.mono sub _ _) rv) (by rw [List.map_id]; exact c1) (by rw [List.map_id]; exact c2) hle
        (fun b hb => by have := c3 b hb; simp only [id]; omega) fun out ho eo => fin z rr k eo
    · rw [if_neg c] at hd'; cases hd'
  | _ => exact nomatch hd
end Ev

/-! EvN: sorted(set(t)), t a tuple of ints or of pairs of ints. -/
namespace Ev
variable [Memo]
open PySem PySem.Spec PyProof.Rows L2
open PySem.Calls

/-! ### strictly rising lists -/
theorem rise_uniq {α : Type} {lt : α → α → Prop} (ir : ∀ a, ¬ lt a a) (tr : ∀ a b c, lt a b → lt b c → lt a c) : ∀ {l m : List α}, l.Pairwise lt → m.Pairwise lt → (∀ x, x ∈ l ↔ x ∈ m) → l = m
  | [], [], _, _, _ => rfl
  | [], b :: m, _, _, h => absurd ((h b).mpr (by simp)) (by simp)
  | a :: l, [], _, _, h => absurd ((h a).mp (by simp)) (by simp)
  | a :: l, b :: m, hl, hm, h => by
    obtain ⟨l1, l2⟩ := List.pairwise_cons.mp hl
    obtain ⟨m1, m2⟩ := List.pairwise_cons.mp hm
    have hab : a = b := by
      rcases List.mem_cons.mp ((h a).mp (by simp)) with e | e
      · exact e
      · rcases List.mem_cons.mp ((h b).mpr (by simp)) with e2 | e2
        · exact e2.symm
        · exact absurd (tr _ _ _ (m1 a e) (l1 b e2)) (ir _)
    subst hab
    congr 1
    refine rise_uniq ir tr l2 m2 fun x => ⟨fun hx => ?_, fun hx => ?_⟩
    · rcases List.mem_cons.mp ((h x).mp (List.mem_cons_of_mem _ hx)) with e | e
      · subst e; exact absurd (l1 _ hx) (ir _)
      · exact e
    · rcases List.mem_cons.mp ((h x).mpr (List.mem_cons_of_mem _ hx)) with e | e
      · subst e; exact absurd (m1 _ hx) (ir _)
      · exact e
theorem mem_insI {i x : Int} : ∀ {l : List Int}, x ∈ insI i l ↔ x = i ∨ x ∈ l
  | [] => by simp [insI]
  | j :: r => by
    unfold insI
    split
    · simp
    · split
      · rename_i h; subst h; simp
      · simp only [List.mem_cons, mem_insI (l := r)]
        constructor
        · rintro (h | h | h) <;> simp [h]
        · rintro (h | h | h) <;> simp [h]
theorem rise_insI {i : Int} : ∀ {l : List Int}, l.Pairwise (· < ·) → (insI i l).Pairwise (· < ·)
  | [], _ => by simp [insI]
  | j :: r, h => by
    obtain ⟨h1, h2⟩ := List.pairwise_cons.mp h
    unfold insI
    split
    · rename_i c
      refine List.pairwise_cons.mpr ⟨fun x hx => ?_, h⟩
      rcases List.mem_cons.mp hx with e | e
      · subst e; exact c
      · exact Int.lt_trans c (h1 x e)
    · split
      · exact h
      · refine List.pairwise_cons.mpr ⟨fun x hx => ?_, rise_insI h2⟩
        rcases mem_insI.mp hx with e | e
        · subst e; omega
        · exact h1 x e
theorem mem_setI {x : Int} : ∀ {l : List Int}, x ∈ setI l ↔ x ∈ l
  | [] => by simp [setI]
  | i :: l => by
    show x ∈ insI i (setI l) ↔ _
    rw [mem_insI, mem_setI, List.mem_cons]
theorem rise_setI : ∀ l : List Int, (setI l).Pairwise (· < ·)
  | [] => by simp [setI]
  | i :: l => rise_insI (rise_setI l)
theorem setI_uniq {l m : List Int} (h : l.Pairwise (· < ·)) (hm : ∀ x, x ∈ l ↔ x ∈ m) : l = setI m :=
  rise_uniq (fun a => Int.lt_irrefl a) (fun a b c => Int.lt_trans) h (rise_setI m) fun x => by rw [hm, mem_setI]
theorem ltP_iff {p q : Int × Int} : ltP p q = true ↔ p.1 < q.1 ∨ (p.1 = q.1 ∧ p.2 < q.2) := by
  unfold ltP
  simp
theorem mem_insP {i x : Int × Int} : ∀ {l : List (Int × Int)}, x ∈ insP i l ↔ x = i ∨ x ∈ l
  | [] => by simp [insP]
  | j :: r => by
    unfold insP
    split
    · simp
    · split
      · rename_i h; subst h; simp
      · simp only [List.mem_cons, mem_insP (l := r)]
        constructor
        · rintro (h | h | h) <;> simp [h]
        · rintro (h | h | h) <;> simp [h]
theorem ltP_trans {p q r : Int × Int} (a : ltP p q = true) (b : ltP q r = true) : ltP p r = true := by
  rw [ltP_iff] at *
  omega
theorem ltP_irr (p : Int × Int) : ¬ ltP p p = true := by
  rw [ltP_iff]; omega
theorem ltP_tri {p q : Int × Int} (a : ¬ ltP p q = true) (b : ¬ p = q) : ltP q p = true := by
  rw [ltP_iff] at *
  obtain ⟨x, y⟩ := p
  obtain ⟨z, w⟩ := q
  simp only [Prod.mk.injEq] at *
  omega
theorem rise_insP {i : Int × Int} : ∀ {l : List (Int × Int)}, l.Pairwise (fun p q => ltP p q = true) → (insP i l).Pairwise (fun p q => ltP p q = true)
  | [], _ => by simp [insP]
  | j :: r, h => by
    obtain ⟨h1, h2⟩ := List.pairwise_cons.mp h
    unfold insP
    split
    · rename_i c
      refine List.pairwise_cons.mpr ⟨fun x hx => ?_, h⟩
      rcases List.mem_cons.mp hx with e | e
      · subst e; exact c
      · exact ltP_trans c (h1 x e)
    · split
      · exact h
      · rename_i c1 c2
        refine List.pairwise_cons.mpr ⟨fun x hx => ?_, rise_insP h2⟩
        rcases mem_insP.mp hx with e | e
        · subst e; exact ltP_tri c1 c2
        · exact h1 x e
theorem mem_setP {x : Int × Int} : ∀ {l : List (Int × Int)}, x ∈ setP l ↔ x ∈ l
  | [] => by simp [setP]
  | i :: l => by
    show x ∈ insP i (setP l) ↔ _
    rw [mem_insP, mem_setP, List.mem_cons]
theorem rise_setP : ∀ l : List (Int × Int), (setP l).Pairwise (fun p q => ltP p q = true)
  | [] => by simp [setP]
  | i :: l => rise_insP (rise_setP l)
theorem setP_uniq {l m : List (Int × Int)} (h : l.Pairwise (fun p q => ltP p q = true)) (hm : ∀ x, x ∈ l ↔ x ∈ m) : l = setP m :=
  rise_uniq (lt := fun p q => ltP p q = true) (fun a => ltP_irr a) (fun a b c => ltP_trans) h (rise_setP m) fun x => by rw [hm, mem_setP]

/-! ### set(t), t a tuple of tuples of ints -/
section
variable {P : Program} {w : World} {A : Around} {E : Value → Shared → Prop} {s : Shared}
abbrev fset (w : World) : Obj := { cls := .type "set", dict := none, data := .set #[] 0 (.fresh 0 0 (!w.params.followText "set-order")) }
set_option maxRecDepth 100000 in
set_option maxHeartbeats 6400000 in
theorem call_set_tt {l : Addr} {xs : Array Value} (ks : List (Addr × List Int)) {R : Value → Shared → Prop} (h0 : A.handled = none) (hl : s.heap.IsTuple l xs) (hx : xs.toList = ks.map fun p => Value.ref p.1)
    (hk : ∀ p ∈ ks, IsT P w s.heap p.2 p.1) (few : ks.length < 64) (hu : A.units + 3 < cLine)
    (k : ∀ (h' : Heap) (tk : Nat) L es ep t, SetTR P w h' s.heap.objs.size L es ep t → Got ks ks.length L → (∀ b o, s.heap.get? b = some o → h'.get? b = some o) → R (.ref s.heap.objs.size) { s with heap := h', toks := tk }) :
    wpAny (model P w) A (call (.type "set") [.ref l]) R E s := by
  have hn : xs.size = ks.length := by
    have q := congrArg List.length hx
    rw [Array.length_toList, List.length_map] at q
    exact q
  obtain ⟨c, tl, mro⟩ := F.called_set.mro
  have made := F.called_set.made
  have sb := F.called_set.sub
  refine wpAny_call (codeAny_of_tree ?_)
  show wpAny _ _ (callAny (.type "set") _) _ _ _
  refine wpAny_pure ⟨Code.quiet_builtin _ (by decide +kernel), codeAny_builtin F.entry_type_call ?_⟩
  rw [Around.under_plain (weight_type_call_type "set" [.ref l] []) rfl]
  have nt := F.called_set.notType
  have cc := F.called_set.canCreate
  have tc := F.typeCall_set_1 (.ref l)
  repeat (any_goals (first | assumption | wp_step))
  refine codeAny_mono (code_set_led1 (.ref l) (E := E) (Q₁ := fun ob z => ob = .ref s.heap.objs.size ∧ z = { s with heap := s.heap.push (fset w) }) ⟨rfl, rfl⟩) fun r z hr => ?_
  cases r with
  | error e => exact hr
  | ok fl =>
    cases fl with
    | ret ob =>
      obtain ⟨rfl, rfl⟩ := hr
      have gS : (s.heap.push (fset w)).get? s.heap.objs.size = some (fset w) := Heap.get?_push_size _ rfl
      have tS : Shared.TypeIs { s with heap := s.heap.push (fset w) } (.ref s.heap.objs.size) "set" := ⟨_, gS, rfl⟩
      have li := F.called_set.init.lookup
      have bi := F.called_set.init.bind (.ref s.heap.objs.size)
      repeat (any_goals (first | assumption | wp_step))
      refine codeAny_mono (codeAny_call_builtin (R := wants (fun r z2 => r = .none ∧ ∃ h' tk L es ep t, z2 = { s with heap := h', toks := tk } ∧ SetTR P w h' s.heap.objs.size L es ep t ∧ Got ks ks.length L ∧
          (∀ b o, s.heap.get? b = some o → h'.get? b = some o)) E) F.called_set.init.plain F.entry_set_init (check_set_init_1 tS ?_)) fun r2 z2 hr2 => ?_
      · obtain ⟨ol, hol, hcl, nl, hdl⟩ := hl
        obtain ⟨kcls, kdict, kdata, kslots⟩ := ol
        simp only at hcl hdl
        subst hcl; subst hdl
        have hol2 : (s.heap.push (fset w)).get? l = some { cls := .type "tuple", dict := kdict, data := .seq xs nl, slots := kslots } := Heap.get?_push_of_some _ hol
        have st1 := F.sub_tuple_set
        have st2 := F.sub_tuple_frozenset
        have ne1 : (Value.type "tuple" == Value.type "dict") = false := by decide
        have tl1 : (s.heap.push (fset w)).IsTuple l xs := ⟨_, hol2, rfl, nl, rfl⟩
        unfold Builtin.«set.__init__» noKeywords Builtin.Frozenset.updateFrom
        generalize hPI : pyIter = PI
        wp_walk
        subst hPI
        refine wpAny_pyIter_tuple tl1 ?_
        refine wpAny_bind (wpAny_runValue ?_)
        have lS : l < s.heap.objs.size := Heap.lt_size hol
        have hh3 : A.in1.in1.in1.handled = none := by simp [h0]
        have z1 : (s.heap.push (fset w)).objs.size = s.heap.objs.size + 1 := Heap.size_push ..
        have neI : l ≠ (s.heap.push (fset w)).objs.size := by rw [z1]; exact Nat.ne_of_lt (Nat.lt_succ_of_lt lS)
        have Sf : s.heap.objs.size ∉ [(s.heap.push (fset w)).objs.size, l] := by
          rw [z1]; simp only [List.mem_cons, List.mem_singleton, List.not_mem_nil, or_false, not_or]
          exact ⟨Nat.ne_of_lt (Nat.lt_succ_self _), Nat.ne_of_gt lS⟩
        have val : ∀ (i : Nat) (v : Value), xs[i]? = some v → ∃ p, ks[i]? = some p ∧ v = .ref p.1 := fun i v hv => by
          have q : xs.toList[i]? = some v := by rw [Array.getElem?_toList]; exact hv
          rw [hx, List.getElem?_map] at q
          obtain ⟨p, h1, h2⟩ := Option.map_eq_some_iff.mp q
          exact ⟨p, h1, h2.symm⟩
        have nof : ∀ b, s.heap.objs.size ≤ b → s.heap.get? b = none := fun b hb => Heap.get?_none_of_le hb
        refine set_update_tups ((Walks.tuple hh3 _ l neI xs).toS) s.heap.objs.size
          Sf ks hn few val s.heap hk (nof _ (Nat.le_refl _)) (fun b hb => nof b (by
            rw [List.mem_singleton.mp hb, z1]
            exact Nat.le_succ _)) hu (xs.size - 0) 0 _ (by omega) (Nat.zero_le _)
          ⟨⟨_, Heap.get?_push_size _ rfl, rfl, rfl⟩, (tl1.push _)⟩ (fun b o e => Heap.get?_push_of_some _ (Heap.get?_push_of_some _ e)) ?S0 ?R0
        case S0 => exact ⟨[], #[], 0, _, setTR_fresh (Heap.get?_push_of_some _ gS), Got.zero ks⟩
        case R0 =>
          intro z3 L es ep t hm hS3 g3 hkp
          obtain ⟨h', g2, d', tk', os'⟩ := z3
          have eg : g2 = s.gens := hm.gens
          have ed : d' = s.drawn := hm.drawn
          have eo : os' = s.os := hm.os
          subst eg; subst ed; subst eo
          show wpAny _ _ _ _ _ _
          refine wpAny_pure ?_
          show wpAny _ _ (ret Value.none) _ _ _
          rw [hn] at g3
          exact wpAny_pure ⟨rfl, h', tk', L, es, ep, t, rfl, hS3, g3, hkp⟩
      · cases r2 with
        | error e => exact hr2
        | ok f2 =>
          cases f2 with
          | ret r =>
            obtain ⟨rfl, h', tk, L, es, ep, t, rfl, hS3, g3, hk3⟩ := hr2
            repeat (any_goals (first | assumption | wp_step))
            exact k _ _ _ _ _ _ hS3 g3 hk3
          | _ => exact hr2.elim
    | _ => exact hr.elim
end
end Ev

/-! EvO: sorted(set(t)) in the small language; a module's dict. -/
namespace Ev
variable [Memo]
open PySem PySem.Spec PyProof.Rows L2
open PySem.Calls
theorem prsOf_some : ∀ {ds : List PyData} {ps : List (Int × Int)}, prsOf ds = some ps → ds = ps.map prD
  | [], ps, h => by cases h; rfl
  | d :: ds, ps, h => by
    have h' : ((prOf d).bind fun p => (prsOf ds).map (p :: ·)) = some ps := h
    obtain ⟨p, h1, h2⟩ := Option.bind_eq_some_iff.mp h'
    obtain ⟨qs, h3, rfl⟩ := Option.map_eq_some_iff.mp h2
    rw [prsOf_some h3, List.map_cons]
    congr 1
    unfold prOf at h1
    split at h1
    · cases h1; rfl
    · cases h1
theorem rp_pairs {K : PySem.W.Frag} {H : Hp} : ∀ {ps : List (Int × Int)} {vs : List V}, RpAll K H vs (ps.map prD) → ∃ ks : List (Addr × List Int), vs = ks.map (fun p => V.ref p.1) ∧ (∀ p ∈ ks, SqT K H p.1 (p.2.map V.int)) ∧ ks.map (·.2) = ps.map fun p => [p.1, p.2]
  | [], _, h => by cases h; exact ⟨[], rfl, fun _ h => (by cases h), rfl⟩
  | p :: ps, _, h => by
    cases h with
    | cons a b =>
      obtain ⟨ks, h1, h2, h3⟩ := rp_pairs b
      subst h1
      cases a with
      | @tup q us _ s1 z rr =>
        have e : us = [V.int p.1, V.int p.2] := by
          cases rr with
          | cons a1 r1 =>
            cases r1 with
            | cons a2 r2 =>
              cases r2; cases a1; cases a2; rfl
        subst e
        refine ⟨(q, [p.1, p.2]) :: ks, rfl, fun x hx => ?_, by rw [List.map_cons, h3]; rfl⟩
        rcases List.mem_cons.mp hx with e | e
        · subst e; exact s1
        · exact h2 x e
section
variable {X : Cx}
def rSetTI (K : PySem.W.Frag) (w : World) : List V → Hp → VK → Prop := fun xs H Q => ∃ (p : Addr) (ns : List Int), xs = [V.ref p] ∧ SqT K H p (ns.map V.int) ∧ ns.length < 64 ∧
  ∀ a n, H a = none → n ≤ ns.length → Q (.ref a) (upd H a (SetO w a (fun j => decide (j ∈ ns)) n))
def rSetTT (K : PySem.W.Frag) (P : Program) (w : World) : List V → Hp → VK → Prop := fun xs H Q => ∃ (p : Addr) (ks : List (Addr × List Int)), xs = [V.ref p] ∧ SqT K H p (ks.map fun q => V.ref q.1) ∧ (∀ q ∈ ks, SqT K H q.1 (q.2.map V.int)) ∧ ks.length < 64 ∧
  ∀ a L, H a = none → (∀ q ∈ L, q ∈ ks) → (∀ q ∈ ks, q.2 ∈ L.map (·.2)) → Q (.ref a) (upd H a (SetTO P w a L))
theorem cr_setTI (hc : X.calm = true) : CallR X (.type "set") (rSetTI X.K X.w) := by
  intro pins s σ H xs us Q I r h
  obtain ⟨p, ns, rfl, hp, hf, q⟩ := h
  rw [Vals.ref1 r]
  obtain ⟨its, rv, ht, hz⟩ := I.tuple hp
  have hn : H s.heap.objs.size = none := I.hok.fresh (Nat.le_refl _)
  have hI : IntsAre its.toArray.toList ns := intsAre_of rv
  refine call_set_tupI (P := X.prog) (w := X.w) ns (I.ok.hd hc) ht hI (by show ns.length + 1 < 4096; omega) fun h' tk c R hcl kp => ?_
  exact ⟨.ref s.heap.objs.size, _, I.laid (t' := tk) kp (Nat.le_refl _) (setO_new R), rfl, q _ c hn hcl⟩
theorem cr_setTT (hc : X.calm = true) (hu : X.A.units + 64 < cLine) : CallR X (.type "set") (rSetTT X.K X.prog X.w) := by
  intro pins s σ H xs us Q I r h
  obtain ⟨l, ks, rfl, hl, hk, hf, q⟩ := h
  rw [Vals.ref1 r]
  obtain ⟨its, rv, ht, hz⟩ := I.tuple hl
  have hn : H s.heap.objs.size = none := I.hok.fresh (Nat.le_refl _)
  refine call_set_tt (P := X.prog) (w := X.w) ks (I.ok.hd hc) ht (by simpa using refs_of_vals rv) (fun p hp => Inv.isT I (hk p hp)) hf (by omega) fun h' tk L es ep t R g kp => ?_
  refine ⟨.ref s.heap.objs.size, _, I.laid (t' := tk) kp (Nat.le_refl _) (setTO_new R.t0), rfl, q _ L hn (fun p hp => ?_) fun p hp => ?_⟩
  · exact List.mem_of_mem_take (g.sub p hp)
  · exact g.all p (by rw [List.take_length]; exact hp)
theorem pf_sset {a : Expr} {fa : Rho → Option PyData} {p p2 q pos : Pos} (hc : X.calm = true) (hu : X.A.units + 65 < cLine) (hg : Gl X "sorted") (hm : X.mg "sorted" = none) (hg2 : Gl X "set") (hm2 : X.mg "set" = none) (ha : PE X a (tBm X.K fa))
    (st : ∀ es, starEach (a :: es) X.env = (false, eval a X.env) :: starEach es X.env) :
    PE X (.Call (.Name "sorted" p) [.Call (.Name "set" p2) [a] [] q] [] pos) (tF X.K fun ρ => (fa ρ).bind ssetD) := by
  have h1 := pe_callTy (CallR.or (cr_setTI hc) (cr_setTT hc (by omega))) hg2 hm2 (x := "set") (p := p2) (pos := q) (by decide +kernel) (pa_one ha (st [])) (by decide) (by decide) (st []) rfl
  have h2 := pe_callB (CallR.or (cr_sortedSet hc) (cr_sortedT hc)) hg hm (x := "sorted") (p := p) (pos := pos) PyProof.Rows.boot_sorted (pa_cons h1 pa_nil) (by decide) (by decide) rfl rfl
  refine PEimp h2 fun σ H Q ⟨Hf, ρ, d, er, hd, k⟩ => ?_
  obtain ⟨x, e1, hd⟩ := Option.bind_eq_some_iff.mp hd
  refine ⟨Hf, ρ, x, er, e1, fun v H1 Hf1 e rb => ?_⟩
  cases x with
  | tuple ds =>
    have hd' : (if ds.length < 64 then (match intsOf ds with
      | some ns => some (PyData.list ((setI ns).map .int))
      | none => (prsOf ds).bind fun ps => if ps.all in64 then some (.list ((setP ps).map prD)) else none) else none) = some d := hd
    by_cases c : ds.length < 64
    · rw [if_pos c] at hd'
      obtain ⟨t, vs, rfl, s1, z, rr⟩ := rb.tuple
      cases hi : intsOf ds with
      | some ns =>
        rw [hi] at hd'
        cases hd'
        rw [intsOf_some hi] at rr
        rw [rr.ints] at s1
        rw [intsOf_some hi, List.length_map] at c
        refine .inl ⟨t, ns, rfl, sqT_mono e.sub.same s1, c, fun a n hn hle => ?_⟩
        refine .inl ⟨a, _, n, rfl, upd_same, by omega, fun ms b rs mm hl hb => ?_⟩
        have em : ms = setI ns := setI_uniq rs fun x => by rw [mm x]; simp
        rw [← em] at k
        have e3 : Ext H1 Hf1 (upd (upd H1 a (SetO X.w a (fun j => decide (j ∈ ns)) n)) b (.lst (ms.map V.int))) (upd Hf1 b (.lst (ms.map V.int))) :=
          (Ext.allocO e.sub hn _).trans (Ext.alloc (Ext.allocO e.sub hn _).sub hb _)
        exact k _ _ _ (e.trans e3) (.lst (.of upd_same) (by rw [List.length_map, hl, sizeLine_eq]; omega) (RpAll.of_ints ms))
      | none =>
        rw [hi] at hd'
        obtain ⟨ps, h3, h4⟩ := Option.bind_eq_some_iff.mp hd'
        obtain ⟨h5, rfl⟩ := ite_some h4
        rw [prsOf_some h3] at rr
        rw [prsOf_some h3, List.length_map] at c
        obtain ⟨ks, rfl, hk, hks⟩ := rp_pairs rr
        have hkl : ks.length = ps.length := by have := congrArg List.length hks; simpa using this
        refine .inr ⟨t, ks, rfl, sqT_mono e.sub.same s1, fun q hq => sqT_mono e.sub.same (hk q hq), by omega, fun a L hn sub all => ?_⟩
        have hL : ∀ q ∈ L, ∃ pr ∈ ps, q.2 = [pr.1, pr.2] := fun q hq => by
          have : q.2 ∈ ks.map (·.2) := List.mem_map.mpr ⟨q, sub q hq, rfl⟩
          rw [hks] at this
          obtain ⟨pr, h6, h7⟩ := List.mem_map.mp this
          exact ⟨pr, h6, h7.symm⟩
        have bd : ∀ pr ∈ ps, 0 ≤ pr.1 ∧ pr.1 < 64 ∧ 0 ≤ pr.2 ∧ pr.2 < 64 := fun pr hp => by
          have := List.all_eq_true.mp h5 pr hp
          simp only [in64, Bool.and_eq_true, decide_eq_true_eq] at this
          exact ⟨this.1.1.1, this.1.1.2, this.1.2, this.2⟩
        have e2 := Ext.allocO e.sub hn (SetTO X.prog X.w a L)
        refine .inr ⟨a, L, 2, 64, rfl, upd_same, fun q hq => sqT_mono e2.sub.same (hk q (sub q hq)), by decide, fun q hq => ?_, fun L' b pm nd few pw hb => ?_⟩
        · obtain ⟨pr, h6, h7⟩ := hL q hq
          rw [h7]
          refine ⟨rfl, fun m hm => ?_⟩
          have := bd pr h6
          simp only [List.mem_cons, List.not_mem_nil, or_false] at hm
          rcases hm with rfl | rfl <;> omega
        · have hL' : ∀ q ∈ L', ∃ pr ∈ ps, q.2 = [pr.1, pr.2] := fun q hq => hL q (pm.mem_iff.mp hq)
          have mk : ∀ M : List (Addr × List Int), (∀ q ∈ M, ∃ pr ∈ ps, q.2 = [pr.1, pr.2]) → (∀ q ∈ M, SqT X.K Hf1 q.1 (q.2.map V.int)) → ∃ qs : List (Int × Int), M.map (·.2) = qs.map (fun p => [p.1, p.2]) ∧ (∀ q ∈ qs, q ∈ ps) ∧ RpAll X.K Hf1 (M.map fun q => V.ref q.1) (qs.map prD) := by
            intro M
            induction M with
            | nil => exact fun _ _ => ⟨[], rfl, fun _ h => (by cases h), .nil⟩
            | cons q M ih =>
              intro g1 g2
              obtain ⟨qs, i1, i2, i3⟩ := ih (fun x hx => g1 x (List.mem_cons_of_mem _ hx)) (fun x hx => g2 x (List.mem_cons_of_mem _ hx))
              obtain ⟨pr, j1, j2⟩ := g1 q (by simp)
              have j3 := g2 q (by simp)
              rw [j2] at j3
              refine ⟨pr :: qs, by rw [List.map_cons, List.map_cons, i1, j2], fun x hx => ?_, .cons (.tup j3 (by show 2 ≤ sizeLine; decide) (RpAll.of_ints [pr.1, pr.2])) i3⟩
              rcases List.mem_cons.mp hx with e | e
              · subst e; exact j1
              · exact i2 x e
          obtain ⟨qs, q1, q2, q3⟩ := mk L' hL' fun q hq => hk q (sub q (pm.mem_iff.mp hq))
          have eq : qs = setP ps := by
            refine setP_uniq ?_ fun x => ⟨fun hx => q2 x hx, fun hx => ?_⟩
            · have pw2 : (L'.map (·.2)).Pairwise (fun a b => TS.code 64 a ≤ TS.code 64 b ∧ a ≠ b) := by
                have w1 : (L'.map (·.2)).Pairwise (fun a b => TS.code 64 a ≤ TS.code 64 b) := List.pairwise_map.mpr pw
                exact w1.and nd
              rw [q1] at pw2
              have pw3 := List.pairwise_map.mp pw2
              refine List.Pairwise.imp_of_mem ?_ pw3
              intro u v hu hv ⟨z1, z2⟩
              have b1 := bd u (q2 u hu)
              have b2 := bd v (q2 v hv)
              rw [ltP_iff]
              exact pair_lt z1 z2 ⟨b1.1, b1.2.1⟩ ⟨b1.2.2.1, b1.2.2.2⟩ ⟨b2.1, b2.2.1⟩ ⟨b2.2.2.1, b2.2.2.2⟩
            · have h6 : [x.1, x.2] ∈ ks.map (·.2) := by rw [hks]; exact List.mem_map.mpr ⟨x, hx, rfl⟩
              obtain ⟨kq, h7, h8⟩ := List.mem_map.mp h6
              have h9 := all kq h7
              have h10 : kq.2 ∈ L'.map (·.2) := (pm.map (·.2)).mem_iff.mpr h9
              rw [q1] at h10
              obtain ⟨y, h11, h12⟩ := List.mem_map.mp h10
              rw [h8] at h12
              have : y = x := by
                injection h12 with e5 e6
                injection e6 with e6 _
                exact Prod.ext e5 e6
              rw [← this]; exact h11
          rw [← eq] at k
          refine k _ _ (upd Hf1 b (.lst (L'.map fun q => V.ref q.1))) (e.trans (e2.trans (Ext.alloc e2.sub hb _))) (.lst (.of upd_same) ?_ (q3.mono (same_upd (sub_none e2.sub hb) _) _ _))
          rw [List.length_map, sizeLine_eq]; omega
    · rw [if_neg c] at hd'; cases hd'
  | _ => exact nomatch hd

/-! ### a module's dict, texts as keys -/
def GDic (K : PySem.W.Frag) (w : World) (v : V) (kvs : List (PyData × PyData)) : Prop := ∃ p es n, v = .ref p ∧ KDict K w p es n ∧ ∀ z, ∃ r, PySem.W.nsIn K p z = some r ∧
  (∀ d, dkGet kvs z = some d → ∃ u v0, r = some u ∧ RelV v0 u ∧ ∀ H, Rp K H v0 d) ∧ (dkGet kvs z = none → r = none)
variable {a b : Expr} {fa : Rho → Option PyData} {v : V} {kvs : List (PyData × PyData)} {pos : Pos}
def rGd (K : PySem.W.Frag) (neg : Bool) (v : V) (kvs : List (PyData × PyData)) : R2 := fun x y H Q => ∃ z, x = .str z ∧ y = v ∧ Q (.bl (xor neg (dkGet kvs z).isSome)) H
theorem gd_op {neg : Bool} (D : GDic X.K X.w v kvs) : OpR X (compareOp (if neg then .NotIn else .In)) (rGd X.K neg v kvs) := by
  obtain ⟨p, es, n, rfl, D1, D2⟩ := D
  cases neg with
  | false =>
    refine OpR.imp (op_in_kd D1) fun x y H Q ⟨z, h1, h2, q⟩ => ?_
    obtain ⟨r, g1, g2, g3⟩ := D2 z
    refine ⟨z, r, h1, h2, g1, ?_⟩
    cases c : dkGet kvs z with
    | none => rw [g3 c]; rw [c] at q; exact q
    | some d =>
      obtain ⟨u, v0, e, _⟩ := g2 d c
      rw [e]; rw [c] at q; exact q
  | true =>
    refine OpR.imp (op_notIn_kd D1) fun x y H Q ⟨z, h1, h2, q⟩ => ?_
    obtain ⟨r, g1, g2, g3⟩ := D2 z
    refine ⟨z, r, h1, h2, g1, ?_⟩
    cases c : dkGet kvs z with
    | none => rw [g3 c]; rw [c] at q; exact q
    | some d =>
      obtain ⟨u, v0, e, _⟩ := g2 d c
      rw [e]; rw [c] at q; exact q
theorem gd_in {neg : Bool} {σ : L2.St} {H : Hp} {Q : VK} (h : tF X.K (fun ρ => (fa ρ).bind fun x => gdHas neg (some (.dict kvs)) x) σ H Q) : tOp (rGd X.K neg v kvs) (tF X.K fa) (tC v) σ H Q := by
  obtain ⟨Hf, ρ, d, er, hd, k⟩ := h
  obtain ⟨x, h1, hd⟩ := Option.bind_eq_some_iff.mp hd
  refine ⟨Hf, ρ, x, er, h1, fun u H1 Hf1 e r => ?_⟩
  cases x with
  | str z =>
    cases r
    have hd' : some (PyData.bool (xor neg (dkGet kvs z).isSome)) = some d := hd
    cases hd'
    exact ⟨z, rfl, rfl, (k.ext e).here e.sub (.bl _)⟩
  | _ => exact nomatch hd
theorem pf_inG {neg : Bool} (D : GDic X.K X.w v kvs) (ha : PE X a (tF X.K fa)) (hb : PE X b (tC v)) (hm : behindInMarks (if neg then .NotIn else .In) b = false) :
    PE X (.Compare a [if neg then .NotIn else .In] [b] pos) (tF X.K fun ρ => (fa ρ).bind fun x => gdHas neg (some (.dict kvs)) x) :=
  PEimp (pe_cmpR (gd_op D) ha hb hm) fun σ H Q h => gd_in h
theorem ptt_inG {neg : Bool} (D : GDic X.K X.w v kvs) (ha : PE X a (tF X.K fa)) (hb : PE X b (tC v)) (hm : behindInMarks (if neg then .NotIn else .In) b = false) :
    PT X (.Compare a [if neg then .NotIn else .In] [b] pos) (tT X.K fun ρ => (fa ρ).bind fun x => gdHas neg (some (.dict kvs)) x) := by
  refine PTimp (pt_cmpR (gd_op D) ha hb hm) fun σ H Q ⟨Hf, ρ, d, er, hd, k⟩ => ?_
  refine gd_in ⟨Hf, ρ, _, er, boolOf_some hd, fun v H' Hf' e r => ?_⟩
  cases r
  exact ⟨d, rfl, k H' Hf' e⟩
theorem pf_pickG (D : GDic X.K X.w v kvs) (ha : PE X a (tF X.K fa)) (hb : PE X b (tC v)) (hs : PlainIx a) : PE X (.Subscript b a pos) (tF X.K fun ρ => (fa ρ).bind fun x => gdGet (some (.dict kvs)) x) := by
  obtain ⟨p, es, n, rfl, D1, D2⟩ := D
  refine PEimp (pe_ix ix_kdict hb ha hs) fun σ H Q ⟨Hf, ρ, d, er, hd, k⟩ => ?_
  obtain ⟨x, h1, hd⟩ := Option.bind_eq_some_iff.mp hd
  refine ⟨Hf, ρ, x, er, h1, fun u H1 Hf1 e r => ?_⟩
  cases x with
  | str z =>
    cases r
    have hd' : dkGet kvs z = some d := hd
    obtain ⟨r, g1, g2, g3⟩ := D2 z
    obtain ⟨u, v0, rfl, g4, g5⟩ := g2 d hd'
    exact ⟨p, z, v0, rfl, rfl, ⟨es, n, u, D1.at_, D1.lit, g1, g4⟩, (k.ext e).here e.sub (g5 _)⟩
  | _ => exact nomatch hd
end
/-! ### a if c else b as a test -/
section
variable {X : Cx} {a b c : Expr} {fa fb fc : Rho → Option PyData} {pos : Pos}
theorem ptt_ife (hc : PT X c (tT X.K fc)) (ha : PT X a (tT X.K fa)) (hb : PT X b (tT X.K fb)) : PT X (.IfExp c a b pos) (tT X.K fun ρ => (boolOf (fc ρ)).bind fun x => if x then fa ρ else fb ρ) := by
  refine ⟨fun pins s σ H Q I ⟨Hf, ρ, d, er, hd, k⟩ => ?_⟩
  obtain ⟨x, h1, hd⟩ := Option.bind_eq_some_iff.mp (boolOf_some hd)
  refine isTrue_IfExp (thn (hc.run pins s σ H (fun y H1 => y = x ∧ ∃ Hf1, Ext H Hf H1 Hf1) I ⟨Hf, ρ, x, er, h1, fun H1 Hf1 e => ⟨rfl, Hf1, e⟩⟩) fun y s1 ⟨H1, I1, e1, Hf1, e⟩ => ?_)
  subst e1
  cases y with
  | true => exact ha.run pins s1 σ H1 Q I1 ⟨Hf1, ρ, d, er.ext e, by rw [show fa ρ = some (.bool d) from hd]; rfl, fun H2 Hf2 e2 => k H2 Hf2 (e.trans e2)⟩
  | false => exact hb.run pins s1 σ H1 Q I1 ⟨Hf1, ρ, d, er.ext e, by rw [show fb ρ = some (.bool d) from hd]; rfl, fun H2 Hf2 e2 => k H2 Hf2 (e.trans e2)⟩
end
end Ev

/-! EvL: sorted(range(n), key=lambda k: ..). -/
namespace Ev
variable [Memo]
open PySem PySem.Spec PyProof.Rows L2
/-- what is known where a key function is made -/
structure LamOk (X : Cx) where
  c : Addr
  P : Addr
  code : X.env.code = .ref c
  tb : LamX.TabB X.base X.mg c P
  get : ∀ H Hf, Memo.inv H Hf → LamX.TabS H P (X.env.qual ++ "<lambda>")
  may : ∀ Hf p, ¬ Memo.may Hf p
  put : ∀ H Hf H1, Memo.inv H Hf → LamX.TabS H1 P (X.env.qual ++ "<lambda>") → Memo.inv H1 Hf
abbrev keyO (X : Cx) (params : Arguments) (body : Expr) (scope : Scope) (pm ctv : Value) (c' : Addr) : Obj :=
  PySem.W.kla_obj "<lambda>" (X.env.qual ++ "<lambda>") params body scope (cloFrom X.env.cells scope.names []) pm c' ctv
theorem fn_nocell {X : Cx} {params : Arguments} {body : Expr} {scope : Scope} {pm ctv : Value} {c' : Addr} (v : Option Value) : (keyO X params body scope pm ctv c').data ≠ .cell v := fun z => by cases z
/-- the table has one code object more -/
theorem tab_more {H : Hp} {P c' : Addr} {q : Str} {pos : Pos} {ps : Array Value} (hP : H P = some (.tbl ps)) (nC : H c' = none) (t : TriplesOk ps.toList) (al : ∀ (p : Pos) (cv : Value), codeAmong p ps.toList = some cv → ∃ c, cv = .ref c ∧ H c = some (LamX.CodeO c q)) :
    LamX.TabS (upd (upd H P (.tbl (ps ++ #[rawInt pos.line, rawInt pos.col, .ref c']))) c' (LamX.CodeO c' q)) P q := by
  have hne : P ≠ c' := fun z => by subst z; rw [hP] at nC; cases nC
  refine ⟨ps ++ #[rawInt pos.line, rawInt pos.col, .ref c'], ?_, ?_, ?_⟩
  · rw [upd_ne hne, upd_same]
  · rw [Array.toList_append]
    exact PySem.TriplesOk_snoc _ _ _ _ t
  · intro p cv hcv
    rw [Array.toList_append] at hcv
    rcases LamX.among_app ps.toList t hcv with old | new
    · obtain ⟨c, rfl, hc⟩ := al p cv old
      refine ⟨c, rfl, ?_⟩
      have n1 : c ≠ c' := fun z => by subst z; rw [hc] at nC; cases nC
      have n2 : c ≠ P := fun z => by subst z; rw [hP] at hc; cases hc
      rw [upd_ne n1, upd_ne n2]
      exact hc
    · exact ⟨c', new, upd_same⟩
/-- the key function is made -/
theorem lam_mk {X : Cx} {pins : List (Addr × Obj)} {σ : L2.St} {H Hf : Hp} {s : Shared} {params : Arguments} {body : Expr} {scope : Scope} {pos : Pos} {E Q : Value → Shared → Prop} (I : Inv X pins σ H s) (L : LamOk X) (sub : Sub H Hf) (hd : defaultsOf params X.env = ([], []))
    (hv : ∀ y ∈ scope.names, y.2 = .free → ∃ c, X.env.cells.lookup y.1 = some c)
    (k : ∀ (f c' : Addr) (pm ctv : Value) (H1 : Hp) (s1 : Shared), Ext H Hf H1 Hf → H1 c' = some (LamX.CodeO c' (X.env.qual ++ "<lambda>")) → Inv X ((f, keyO X params body scope pm ctv c') :: pins) σ H1 s1 → Q (.ref f) s1) :
    wpAny (model X.prog X.w) X.A (eval (.Lambda params body scope pos) X.env) Q E s := by
  obtain ⟨ps, hP, tr, al⟩ := L.get H Hf sub.inv
  have bm := L.tb.bm.keeps I.bk
  have code := L.tb.code.keeps I.bk
  have glob := I.mod.glob.keeps I.bk
  have inH : s.heap.get? L.P = some { cls := .none, data := .fields ps } := I.hok L.P _ hP
  have fin : ∀ {f c' : Addr} {pm ctv : Value} {H1 : Hp} {s1 : Shared}, s.heap.objs.size ≤ f → Inv X pins σ H1 s1 → H1 f = none → s1.heap.get? f = some (keyO X params body scope pm ctv c') → Inv X ((f, keyO X params body scope pm ctv c') :: pins) σ H1 s1 :=
    fun {f c' pm ctv H1 s1} hs J n g => J.pins_of fun p hp => by
      rcases List.mem_cons.mp hp with e | e
      · subst e
        exact ⟨g, n, Nat.ne_of_gt (Nat.lt_of_lt_of_le I.lt hs), I.nofs hs, fn_nocell⟩
      · exact J.pin p (List.mem_append_right _ e)
  refine PySem.W.kla_eval hd ?_
  cases hc : codeAmong pos ps.toList with
  | some cv =>
    obtain ⟨c', rfl, hco⟩ := al pos cv hc
    refine PySem.W.kla_makeFunctionHit (closure_ok hv) I.ok.glob glob L.code code inH tr hc bm fun ctv h' tk kp hs => ?_
    have J : Inv X pins σ H { s with heap := h', toks := tk } := I.kept kp
    have J2 := J.kept (t' := tk) (h' := h'.push (keyO X params body scope ((X.mg "__name__").getD .none) ctv c')) fun b o e => Heap.get?_push_of_some _ e
    exact k _ c' _ ctv H _ (Ext.refl sub) hco (fin hs J2 (J.hok.fresh (Nat.le_refl _)) (Heap.get?_push_size _ rfl))
  | none =>
    refine PySem.W.kla_makeFunction (closure_ok hv) I.ok.glob glob L.code code inH tr hc L.tb.gP bm fun c' ctv h' tk kp h1 h2 hrec htab => ?_
    obtain ⟨c2, oc, flds, t, e2, g1, g2, g3⟩ := hrec
    cases e2
    have nC : H c' = none := I.hok.fresh h1
    have T1 := tab_more (pos := pos) hP nC tr al
    have hs : s.heap.objs.size ≤ h'.objs.size := by omega
    have J := LamX.inv_table (t' := tk) (more := #[rawInt pos.line, rawInt pos.col, .ref c']) (h' := h'.push (keyO X params body scope ((X.mg "__name__").getD .none) ctv c')) I hP
      (fun b o hb e => Heap.get?_push_of_some _ (kp b o hb e)) (Heap.get?_push_of_some _ htab) h1 ⟨oc, flds, t, Heap.get?_push_of_some _ g1, g2, g3⟩
    have old : ∀ b o, hard o → H b = some o → upd (upd H L.P (.tbl (ps ++ #[rawInt pos.line, rawInt pos.col, .ref c']))) c' (LamX.CodeO c' (X.env.qual ++ "<lambda>")) b = some o := fun b o ho e => by
      have n1 : b ≠ c' := ne_of_none e nC
      have n2 : b ≠ L.P := fun z => by subst z; rw [hP] at e; cases e; exact ho.elim
      rw [upd_ne n1, upd_ne n2]
      exact e
    have ex : Ext H Hf (upd (upd H L.P (.tbl (ps ++ #[rawInt pos.line, rawInt pos.col, .ref c']))) c' (LamX.CodeO c' (X.env.qual ++ "<lambda>"))) Hf := by
      refine ⟨fun b o e => ?_, Same.refl _, sub, ⟨fun b o e => old b o (sub.hd b o e) (sub.same b o e), L.put H Hf _ sub.inv T1, sub.hd⟩, fun _ _ z => .inl z, fun _ z => .inl z⟩
      have n1 : b ≠ c' := ne_of_none e nC
      by_cases n2 : b = L.P
      · subst n2
        rw [hP] at e
        cases e
        exact .inr (.inr ⟨ps, _, rfl, by rw [upd_ne n1, upd_same]⟩)
      · exact .inl (by rw [upd_ne n1, upd_ne n2]; exact e)
    refine k _ c' _ ctv _ _ ex upd_same (fin hs J ?_ (Heap.get?_push_size _ rfl))
    have n1 : h'.objs.size ≠ c' := by omega
    have n2 : h'.objs.size ≠ L.P := Nat.ne_of_gt (Nat.lt_of_lt_of_le (Heap.lt_size inH) hs)
    rw [upd_ne n1, upd_ne n2]
    exact I.hok.fresh hs
/-- the key function's names: its parameter, what it captured -/
structure LamS (X : Cx) (scope : Scope) (q : Str) (fr : List Str) (js : List Nat) (params : Arguments) (body : Expr) : Prop where
  S : NdefX.NScope (q :: fr) [q] fr scope
  free : ∀ y ∈ scope.names, y.2 = .free → X.env.scope.names.lookup y.1 = some .cell ∨ X.env.scope.names.lookup y.1 = some .free
  frs : ∀ y ∈ fr, (y, NameKind.free) ∈ scope.names
  js : js.map (fun j => X.N[j]?) = fr.map some
  bind : ∀ (qual : Str) (cl : List (Str × Addr)) (pm cv ctv u : Value), bindArgs (PySem.W.kla_fn "<lambda>" qual params body scope cl pm cv ctv) ⟨[u], []⟩ = pure [(q, u)]
abbrev lamF (X : Cx) (params : Arguments) (scope : Scope) (c' : Addr) : NdefX.NF := ⟨"<lambda>", X.env.qual ++ "<lambda>", params, [], scope, cloFrom X.env.cells scope.names [], c'⟩
/-- the context of its body -/
abbrev lamX (X : Cx) (q : Str) (fr : List Str) (params : Arguments) (scope : Scope) (f c' : Addr) (s : Shared) (H : Hp) : Cx :=
  (NdefX.ncx CX0 X.prog X.w X.K X.mg X.base (q :: fr) (lamF X params scope c') f X.A.in1.in1 X.stack s H fun _ _ _ => False).nox
theorem lam_run {X : Cx} {pins : List (Addr × Obj)} {σ : L2.St} {H : Hp} {s : Shared} {f c' : Addr} {pm ctv : Value} {params : Arguments} {body : Expr} {scope : Scope} {q : Str} {fr : List Str} {js : List Nat} {k : Nat} {v : V} {u : Value} {Q : VK} {te : TE}
    (I : Inv X pins σ H s) (M : LamS X scope q fr js params body) (ho : s.heap.get? f = some (keyO X params body scope pm ctv c')) (hc : H c' = some (LamX.CodeO c' (X.env.qual ++ "<lambda>"))) (hr : Room (k + 1) X.A.in1.in1) (rv : RelV v u)
    (hb : Room k (X.A.in1.in1.deeper (NdefX.envF (lamF X params scope c') f s.heap.objs.size)) → PE (lamX X q fr params scope f c' s H) body te) (ht : te (NdefX.startF (q :: fr) [v] (js.map (NdefX.slotAt σ))) H Q) :
    wpAny (model X.prog X.w) X.A.in1.in1 (call (.ref f) [u]) (EP X pins σ Q) (fun _ _ => False) s := by
  have C : NdefX.CellsAt (cloFrom X.env.cells scope.names []) fr (js.map (NdefX.slotAt σ)) s.heap H := NdefX.cells_of I (NdefX.Caps.made I.ok M.free M.frs M.js)
  obtain ⟨⟨oc, flds, t, g1, g2, g3⟩, _, _⟩ := I.hok c' _ hc
  have rc : codeAny (model X.prog X.w) X.A.in1.in1 (.call (.ref f) ⟨[u], []⟩) (CR CX0 X.stack X.prog X.w H s Q fun _ _ _ => False) s := by
    refine PySem.W.kla_callFunE hr.depth ho rfl M.S.co M.S.gen rfl ⟨c', oc, flds, t, rfl, g1, g2, g3⟩ ?_
    rw [M.bind]
    refine wpAny_pure (wpAny_newFunctionEnv M.S.nocell (fun y hy => ?_) (fun h1 hn sb => ⟨I.nolimit.fresh _ sb, ?_⟩) M.S.kind)
    · rw [List.mem_singleton] at hy
      subst hy
      exact M.S.par q (by simp)
    · have kp : ∀ b o, s.heap.get? b = some o → h1.get? b = some o := fun b o e => sb.extBut b o (Nat.ne_of_lt (Heap.lt_size e)) (Heap.get?_push_of_some _ e)
      have J : Inv (NdefX.ncx CX0 X.prog X.w X.K X.mg X.base (q :: fr) (lamF X params scope c') f X.A.in1.in1 X.stack s H fun _ _ _ => False) [] (NdefX.startF (q :: fr) [v] (js.map (NdefX.slotAt σ))) H { s with heap := h1, toks := s.toks + 1 } :=
        NdefX.inv_startN (F := lamF X params scope c') M.S hr.hd I.env0.in1.in1 rfl (.cons rv .nil) C hn kp
      show codeAny _ _ (.expr body (NdefX.envF (lamF X params scope c') f s.heap.objs.size)) _ _
      refine PySem.W.kla_codeExpr (wpAny_mono ((hb (hr.deeper _)).nox.run [] _ _ H Q J ht) (fun w s' ⟨v', H', J', r', q'⟩ => ⟨v', H', J'.os, J'.bare, J'.base, J'.hok, r', q'⟩) fun _ _ z => z)
  refine wpAny_call (codeAny_mono rc fun r s' h => ?_)
  cases r with
  | error e => exact h.elim
  | ok fl =>
    cases fl with
    | ret w => exact I.after h
    | next => exact h.elim
    | brk => exact h.elim
    | cont => exact h.elim

/-! ### the sort -/
theorem ints_alike (ks : List Int) : PySem.W.AllAlike (ks.map PyData.int) ∧ PySem.W.Sortable (ks.map PyData.int) := by
  refine ⟨fun d hd e he => ?_, .inr fun d hd => ?_⟩
  · obtain ⟨i, _, rfl⟩ := List.mem_map.mp hd
    obtain ⟨j, _, rfl⟩ := List.mem_map.mp he
    rfl
  · obtain ⟨i, _, rfl⟩ := List.mem_map.mp hd
    exact ⟨fun z => (by cases z), fun _ z => (by cases z)⟩
def gone (h : Heap) (a : Addr) : Heap := h.update a fun o => { o with data := .freed }
theorem gone_at (h : Heap) (a : Addr) : (gone h a).get? a = none := by
  obtain ⟨objs, l⟩ := h
  have e : (objs.modify a fun o => { o with data := .freed })[a]? = (objs[a]?).map fun o => { o with data := .freed } := by rw [Array.getElem?_modify, if_pos rfl]
  show (match (objs.modify a fun o => { o with data := .freed })[a]? with
    | some ⟨_, _, .freed, _⟩ => none
    | o => o) = none
  rw [e]
  cases objs[a]? <;> rfl
theorem gone_ne {h : Heap} {a b : Addr} (e : b ≠ a) : (gone h a).get? b = h.get? b := Heap.get?_update_ne _ _ _ _ e
/-- where an object of our own lies: behind the frame's beginning, no cell, no pin -/
def Own (X : Cx) (pins : List (Addr × Obj)) (b : Addr) : Prop := (b ∈ X.ex ∨ X.s_0.heap.objs.size ≤ b) ∧ b ≠ X.env.locals ∧ (∀ x c, X.env.cells.lookup x = some c → c ≠ b) ∧ ∀ p ∈ X.pn ++ pins, p.1 ≠ b
theorem own_of {X : Cx} {pins : List (Addr × Obj)} {σ : L2.St} {H : Hp} {s : Shared} {b : Addr} (I : Inv X pins σ H s) (h : s.heap.objs.size ≤ b) : Own X pins b := by
  refine ⟨.inr (Nat.le_trans I.sz h), Nat.ne_of_gt (Nat.lt_of_lt_of_le I.lt h), fun x c e => ?_, fun p hp => ?_⟩
  · obtain ⟨v, o, ho, _⟩ := I.cell x c e
    exact Nat.ne_of_lt (Nat.lt_of_lt_of_le (Heap.lt_size ho) h)
  · exact Nat.ne_of_lt (Nat.lt_of_lt_of_le (Heap.lt_size (I.pin p hp).1) h)
theorem Own.cons {X : Cx} {pins : List (Addr × Obj)} {b : Addr} {p : Addr × Obj} (h : Own X pins b) (hp : p.1 ≠ b) : Own X (p :: pins) b := ⟨h.1, h.2.1, h.2.2.1, fun r hr => by
  rcases List.mem_append.mp hr with z | z
  · exact h.2.2.2 r (List.mem_append_left _ z)
  · rcases List.mem_cons.mp z with z | z
    · subst z; exact hp
    · exact h.2.2.2 r (List.mem_append_right _ z)⟩
/-- a list that is held by pins alone -/
theorem pin_cons {X : Cx} {pins : List (Addr × Obj)} {σ : L2.St} {H : Hp} {s : Shared} {a : Addr} {o : Obj} (I : Inv X pins σ H s) (g : s.heap.get? a = some o) (n : H a = none) (hl : a ≠ X.env.locals) (hf : a ∉ X.fs) (hd : ∀ v, o.data ≠ .cell v) : Inv X ((a, o) :: pins) σ H s :=
  I.pins_of fun p hp => by
    rcases List.mem_cons.mp hp with e | e
    · subst e; exact ⟨g, n, hl, hf, hd⟩
    · exact I.pin p (List.mem_append_right _ e)
theorem pin_tail {X : Cx} {pins : List (Addr × Obj)} {σ : L2.St} {H : Hp} {s : Shared} {p : Addr × Obj} (I : Inv X (p :: pins) σ H s) : Inv X pins σ H s := I.pins_of fun r hr => I.pin r (List.mem_append_right _ (List.mem_cons_of_mem _ hr))
theorem seq_nocell {c : String} {xs : Array Value} {n : Nat} (v : Option Value) : (seqObj c xs n).data ≠ .cell v := fun z => by cases z
theorem srt_rest {X : Cx} {pins : List (Addr × Obj)} {σ : L2.St} {H Hf : Hp} {s : Shared} {f a kS : Addr} {fo : Obj} {vs : List Value} {ks : List Int} {e1 : Nat} {P : PySem.Fin → Shared → Prop} {E : Value → Shared → Prop}
    (I : Inv X ((kS, seqObj "list" #[] 0) :: (a, seqObj "list" #[] e1) :: (f, fo) :: pins) σ H s) (sub : Sub H Hf) (ok : Own X ((a, seqObj "list" #[] e1) :: (f, fo) :: pins) kS) (oa : Own X pins a) (hl : ks.length = vs.length) (hz : vs.length ≤ sizeLine) (hu : X.A.in1.in1.units < cLine)
    (hv : PySem.W.EachIs (fun v (p : Nat × Int) => ∃ t, v = .int (p.1 : Int) t) vs ((List.range ks.length).zip ks))
    (turn : ∀ (i : Nat) v k, vs[i]? = some v → ks[i]? = some k → ∀ pins' s' H' Hf', Inv X pins' σ H' s' → (f, fo) ∈ pins' → Ext H Hf H' Hf' → wpAny (model X.prog X.w) X.A.in1.in1 (call (.ref f) [v]) (EP X pins' σ fun w H2 => w = .int k ∧ ∃ Hf2, Ext H' Hf' H2 Hf2) (fun _ _ => False) s')
    (h : ∀ s' H' Hf', Ext H Hf H' Hf' → H' a = none → Inv X pins σ (upd H' a (.lst ((srtP ks).map fun p => V.int (p.1 : Int)))) s' → P (.done (.ret .none)) s') :
    wpAny (model X.prog X.w) X.A.in1.in1 (ksk_rest a (.ref f) false vs.toArray e1 (.ref kS)) P E s := by
  have ne : a ≠ kS := ok.2.2.2 (a, seqObj "list" #[] e1) (by simp)
  unfold ksk_rest
  refine wpAny_bind (wpAny_rule ?_)
  first
    | rw [List.forIn_toArray]
    | (rw [← Array.forIn_toList]; simp only [List.toList_toArray])
    | rw [← Array.forIn_toList]
  refine wpAny_bind (ksk_fold (fun i s' => ∃ H' Hf' kA e, Inv X ((kS, seqObj "list" kA e) :: (a, seqObj "list" #[] e1) :: (f, fo) :: pins) σ H' s' ∧ Ext H Hf H' Hf' ∧ PySem.W.EachIs (fun v k => ∃ t, v = Value.int k t) kA.toList (ks.take i)) vs 0 s
    ⟨H, Hf, #[], 0, I, Ext.refl sub, by rw [List.take_zero]; exact .nil⟩ ?step ?done)
  case step =>
    rintro j x s' hx ⟨H', Hf', kA, e, I', ex, hk⟩
    rw [Nat.zero_add] at hk ⊢
    have hj : j < vs.length := (List.getElem?_eq_some_iff.mp hx).1
    obtain ⟨k, hkj⟩ : ∃ k, ks[j]? = some k := ⟨_, List.getElem?_eq_getElem (by omega)⟩
    have hka : kA.size ≤ vs.length := by
      have q := hk.length
      rw [Array.length_toList, List.length_take] at q
      omega
    refine wpAny_bind (wpAny_attempt (wpAny_mono (turn j x k hx hkj _ s' H' Hf' I' (by simp) ex) (fun v s2 ⟨w, H2, J, rv, hw, Hf2, e2⟩ => ?_) fun _ _ z => z.elim))
    subst hw
    obtain ⟨t, rfl⟩ := rv
    have gk := (J.pin (kS, seqObj "list" kA e) (by simp)).1
    obtain ⟨_, nk, _, fk, _⟩ := J.pin (kS, seqObj "list" kA e) (by simp)
    have J1 := pin_tail J
    have J2 : Inv X ((a, seqObj "list" #[] e1) :: (f, fo) :: pins) σ H2 { s2 with heap := s2.heap.update kS (Obj.mapSeq (·.push (.int k t))) } :=
      J1.turned (t' := s2.toks) (it := kS) (fun b o hb g => by rw [Heap.get?_update_ne _ _ _ _ hb]; exact g) nk ok.2.1 ok.1 ok.2.2.1 ok.2.2.2
    refine wpAny_bind (listUpdate_at gk rfl (wpAny_pure ⟨rfl, H2, Hf2, kA.push (.int k t), _, pin_cons J2 (get?_update_seq gk (·.push (.int k t))) nk ok.2.1 fk seq_nocell, ex.trans e2, ?_⟩) (by omega) (by rw [Array.size_push]; omega))
    have ek : ks.take (j + 1) = ks.take j ++ [k] := by rw [List.take_add_one, hkj]; rfl
    rw [ek, Array.toList_push]
    exact PySem.W.each_snoc ⟨t, rfl⟩ hk
  case done =>
    rintro s' ⟨H', Hf', kA, e, I', ex, hk⟩
    rw [Nat.zero_add, List.take_of_length_le (by omega)] at hk
    have hka : kA.size = vs.length := by
      have q := hk.length
      rw [Array.length_toList] at q
      omega
    have gk := (I'.pin (kS, seqObj "list" kA e) (by simp)).1
    have ga := (I'.pin (a, seqObj "list" #[] e1) (by simp)).1
    have na := (I'.pin (a, seqObj "list" #[] e1) (by simp)).2.1
    have nk := (I'.pin (kS, seqObj "list" kA e) (by simp)).2.1
    have rd : PySem.W.EachIs (fun v d => ∃ as, PySem.Reads s'.heap v d as) kA.toList (ks.map PyData.int) := by
      have q : ∀ {us : List Value} {is : List Int}, PySem.W.EachIs (fun v k => ∃ t, v = Value.int k t) us is → PySem.W.EachIs (fun v d => ∃ as, PySem.Reads s'.heap v d as) us (is.map PyData.int) := by
        intro us is h
        induction h with
        | nil => exact .nil
        | cons z _ ih => obtain ⟨t, rfl⟩ := z; exact .cons ⟨[], .int _ t⟩ ih
      exact q hk
    obtain ⟨q1, q2⟩ := ints_alike ks
    refine wpAny_bind (listItems_at gk rfl ?_)
    refine PySem.W.keyH_end (h₁ := gone s'.heap kS) (fun b o hb g => ?_) (gone_at _ _) gk ga (Ne.symm ne) (PySem.W.SortsAt.data rd q1 q2 fun d hd => ?_) (by rw [hka]) hz fun h' tk c' kp gA => ?_
    · by_cases z : b = kS
      · subst z; rw [gone_at] at g; cases g
      · rw [gone_ne z] at g; exact g
    · obtain ⟨i, _, rfl⟩ := List.mem_map.mp hd
      simpa [PyData.depth] using hu
    · have I1 := pin_tail (pin_tail (pin_tail I'))
      have ko : PySem.W.KeyedOut false (((List.range ks.length).zip ks).map fun p => PyData.int p.2) vs (PySem.W.sortVals (PySem.W.dataKind s'.heap (ks.map PyData.int)) false kA.toList vs) := by
        have e3 : (((List.range ks.length).zip ks).map fun p => PyData.int p.2) = ks.map PyData.int := by
          have e4 : ((List.range ks.length).zip ks).map Prod.snd = ks := List.map_snd_zip (Nat.le_of_eq List.length_range.symm)
          have e5 : (((List.range ks.length).zip ks).map fun p => PyData.int p.2) = (((List.range ks.length).zip ks).map Prod.snd).map PyData.int := by rw [List.map_map]; rfl
          rw [e5, e4]
        rw [e3]
        exact ⟨s'.heap, kA.toList, q1, rfl, rd⟩
      have eo := PySem.W.keyedOut_each (fun p : Nat × Int => PyData.int p.2) ko hv
      have vo : ∀ {us : List Value} {ps : List (Nat × Int)}, PySem.W.EachIs (fun v (p : Nat × Int) => ∃ t, v = Value.int (p.1 : Int) t) us ps → Vals (ps.map fun p => V.int (p.1 : Int)) us := by
        intro us ps h
        induction h with
        | nil => exact .nil
        | cons z _ ih => exact .cons z ih
      have kk : ∀ b o, b ≠ a → b ≠ kS → s'.heap.get? b = some o → h'.get? b = some o := fun b o h1 h2 g => kp b o h1 (by rw [gone_ne h2]; exact g)
      have tr : ∀ {b : Addr} {u : HO}, H' b = some u → b ≠ a ∧ b ≠ kS := fun {b u} g => ⟨ne_of_none g na, ne_of_none g nk⟩
      have olen : ((srtP ks).map fun p => V.int (p.1 : Int)).length ≤ sizeLine := by
        rw [List.length_map, srtP, List.length_mergeSort, List.length_zip, List.length_range]
        omega
      refine h _ H' Hf' ex na ?_
      refine I1.step (g' := s'.gens) (d' := s'.drawn) (ch := [a, kS]) (fun b hb => ?_) (fun b o _ _ hc g _ => ?_) (fun b o _ _ hc g _ => ⟨o.slots, ?_⟩) (fun b o hc g n => ?_) (fun b o hc g => ⟨o, ?_⟩) (fun b xs g => ?_) (fun b o u g => ?_) (fun b qs g => ⟨#[], ?_⟩) (fun m hn => ?_) (fun b u g => ?_) I1.bare
      · rcases List.mem_cons.mp hb with z | z
        · subst z; exact oa
        · rw [List.mem_singleton] at z
          subst z
          exact ⟨ok.1, ok.2.1, ok.2.2.1, fun p hp => ok.2.2.2 p (by
            rcases List.mem_append.mp hp with z | z
            · exact List.mem_append_left _ z
            · exact List.mem_append_right _ (List.mem_cons_of_mem _ (List.mem_cons_of_mem _ z)))⟩
      · simp only [List.mem_cons, List.not_mem_nil, or_false, not_or] at hc
        exact kk b o hc.1 hc.2 g
      · simp only [List.mem_cons, List.not_mem_nil, or_false, not_or] at hc
        exact kk b o hc.1 hc.2 g
      · simp only [List.mem_cons, List.not_mem_nil, or_false, not_or] at hc
        rw [upd_ne hc.1]; exact n
      · simp only [List.mem_cons, List.not_mem_nil, or_false, not_or] at hc
        exact kk b o hc.1 hc.2 g
      · rw [upd_ne (tr g).1]; exact g
      · rw [upd_ne (tr g).1]; exact g
      · rw [upd_ne (tr g).1, g]; simp
      · obtain ⟨ob, es, ep, g, r⟩ := hn
        exact ⟨ob, es, ep, kk _ ob (Ne.symm oa.2.1) (Ne.symm ok.2.1) g, r⟩
      · by_cases z : b = a
        · subst z
          rw [upd_same] at g
          cases g
          exact ⟨olen, _, _, vo eo, gA⟩
        · rw [upd_ne z] at g
          refine (I1.hok b u g).stay (fun d v hd q => ?_) (fun d q => by rw [upd_ne (tr q).1]; exact q) fun d xs q => by rw [upd_ne (tr q).1]; exact q
          have hne : d ≠ a ∧ d ≠ kS := by
            rcases hd with z | z
            · subst z; exact tr g
            · exact tr z
          exact kk d v hne.1 hne.2 q
theorem each_of_get {α β : Type} {R : α → β → Prop} : ∀ {as : List α} {bs : List β}, as.length = bs.length → (∀ (i : Nat) a b, as[i]? = some a → bs[i]? = some b → R a b) → PySem.W.EachIs R as bs
  | [], [], _, _ => .nil
  | [], _ :: _, h, _ => by simp at h
  | _ :: _, [], h, _ => by simp at h
  | a :: as, b :: bs, h, k => .cons (k 0 a b rfl rfl) (each_of_get (by simpa using h) fun i x y e1 e2 => k (i + 1) x y (by simpa using e1) (by simpa using e2))
/-! ### the expression -/
/-- a range object of our own -/
theorem rg_new {X : Cx} {a : Expr} {ta : TE} {p pos : Pos} {pins : List (Addr × Obj)} {s : Shared} {σ : L2.St} {H : Hp} {Q : Value → Shared → Prop} (hg : Gl X "range") (hm : X.mg "range" = none) (ha : PE X a ta) (na : starEach [a] X.env = (false, eval a X.env) :: starEach [] X.env) (I : Inv X pins σ H s) {R : V → Hp → Prop} (h : ta σ H R)
    (k : ∀ x H1, R x H1 → ∃ n, x = .int n ∧ ∀ r ob t u v s1, ob = ({ cls := .type "range", data := .fields #[.int 0 t, .int n u, .int 1 v] } : Obj) → Inv X ((r, ob) :: pins) σ H1 s1 → Q (.ref r) s1) :
    wpAny (model X.prog X.w) X.A (eval (.Call (.Name "range" p) [a] [] pos) X.env) Q X.xe s := by
  refine Call_ (ld_blt I hg hm boot_range (PyProof.Rows.callWith_type1 (one_arg ha I h (fun v s2 x H2 I2 r q => ?_) na) na))
  obtain ⟨n, rfl, q2⟩ := k x H2 q
  obtain ⟨t, rfl⟩ := r
  have J := I2.kept (t' := s2.toks + 1 + 1) (h' := s2.heap.push { cls := .type "range", data := .fields #[.int 0 s2.toks, .int n t, .int 1 (s2.toks + 1)] }) fun b u e => Heap.get?_push_of_some _ e
  exact call_range_1 (q2 _ _ _ _ _ _ rfl (pin_cons J (Heap.get?_push_size _ rfl) (I2.hok.fresh (Nat.le_refl _)) (Nat.ne_of_gt I2.lt) (I2.nofs (Nat.le_refl _)) fun v z => by cases z))
/-- sorted of a range by keys -/
theorem call_srt {X : Cx} {pins : List (Addr × Obj)} {σ : L2.St} {H Hf : Hp} {s : Shared} {f r : Addr} {fo ob : Obj} {n : Int} {ks : List Int} {t u v : Tok} {Q : Value → Shared → Prop} (hc : X.calm = true) (I : Inv X ((f, fo) :: (r, ob) :: pins) σ H s) (sub : Sub H Hf)
    (eo : ob = ({ cls := .type "range", data := .fields #[.int 0 t, .int n u, .int 1 v] } : Obj)) (hn : rngOk n = true) (hl : ks.length = n.toNat) (hu : X.A.in1.in1.units < cLine)
    (turn : ∀ (i : Nat) k, ks[i]? = some k → ∀ t pins' s' H' Hf', Inv X pins' σ H' s' → (f, fo) ∈ pins' → Ext H Hf H' Hf' → wpAny (model X.prog X.w) X.A.in1.in1 (call (.ref f) [.int (i : Int) t]) (EP X pins' σ fun w H2 => w = .int k ∧ ∃ Hf2, Ext H' Hf' H2 Hf2) (fun _ _ => False) s')
    (h : ∀ a s' H' Hf', Ext H Hf H' Hf' → H' a = none → Inv X pins σ (upd H' a (.lst ((srtP ks).map fun p => V.int (p.1 : Int)))) s' → Q (.ref a) s') :
    wpAny (model X.prog X.w) X.A (call (.builtin "sorted") [.ref r] [(Str.ofString "key", .ref f)]) Q X.xe s := by
  obtain ⟨b1, b2, b3⟩ := rngOk_some hn
  have hr : IsRange s.heap r 0 n 1 t u v := by
    have := (I.pin (r, ob) (by simp)).1
    rw [eo] at this
    exact this
  have hd : X.A.in1.handled = none := I.ok.hd hc
  refine call_function_entry_kw PyProof.Rows.kind_sorted PyProof.Rows.plain_sorted PyProof.Rows.entry_sorted (ksk_s1 _ _) ?_
  unfold Builtin.«sorted»
  refine wpAny_bind (m := checkCount "sorted" 1 1 _) (wpAny_pure ?_)
  refine wpAny_bind (collect_range (n := n.toNat) hd hr (small_one (by decide) (by decide) b1 b2) (by rw [rangeSize_nat, Int.sub_zero]) (by omega) fun h1 tk acc kp hit => ?_)
  have I1 : Inv X ((f, fo) :: (r, ob) :: pins) σ H { s with heap := h1, toks := tk } := I.kept kp
  have hal : acc.toList.length = n.toNat := by rw [Array.length_toList]; exact hit.1
  have hal2 : acc.toList.length ≤ sizeLine := by rw [hal, sizeLine_eq]; omega
  refine wpAny_bind (wpAny_newList ?_ hal2)
  have I2 : Inv X ((f, fo) :: (r, ob) :: pins) σ H { s with heap := h1.push (seqObj "list" acc.toList.toArray 0), toks := tk } := I1.kept (t' := tk) fun b o e => Heap.get?_push_of_some _ e
  have g2 : (h1.push (seqObj "list" acc.toList.toArray 0)).get? h1.objs.size = some (seqObj "list" acc.toList.toArray 0) := Heap.get?_push_size _ rfl
  have nA : H h1.objs.size = none := I1.hok.fresh (Nat.le_refl _)
  have oA : Own X ((f, fo) :: (r, ob) :: pins) h1.objs.size := own_of I1 (Nat.le_refl _)
  refine wpAny_bind (wpAny_holding (wpAny_call_entry_kw PyProof.Rows.slot_list_sort ⟨_, g2, rfl⟩ PyProof.Rows.entry_list_sort ?body (ksk_l1 _ _)))
  show wpAny (model X.prog X.w) X.A.in1.in1 (Builtin.«list.sort» ⟨[.ref h1.objs.size], [(Str.ofString "key", .ref f)]⟩) _ _ _
  rw [ksk_t1]
  unfold ksk_tree
  refine wpAny_bind (listItems_at g2 rfl ?_)
  refine wpAny_bind (listUpdate_at g2 rfl ?_ (by rw [List.size_toArray]; exact hal2) (Nat.zero_le _))
  have g3 := get?_update_seq g2 fun _ => (#[] : Array Value)
  have I3 : Inv X ((f, fo) :: (r, ob) :: pins) σ H { s with heap := (h1.push (seqObj "list" acc.toList.toArray 0)).update h1.objs.size (Obj.mapSeq fun _ => #[]), toks := tk } :=
    I2.turned (s := { s with heap := h1.push (seqObj "list" acc.toList.toArray 0), toks := tk }) (h' := (h1.push (seqObj "list" acc.toList.toArray 0)).update h1.objs.size (Obj.mapSeq fun _ => #[])) (t' := tk) (it := h1.objs.size) (fun b o hb g => by rw [Heap.get?_update_ne _ _ _ _ hb]; exact g) nA oA.2.1 oA.1 oA.2.2.1 oA.2.2.2
  refine wpAny_bind (seqEpoch_at g3 rfl ?_)
  refine wpAny_bind (wpAny_newTuple ?_ (by show acc.toList.toArray.toList.length ≤ _; exact hal2))
  refine wpAny_bind (wpAny_newList ?_ (Nat.zero_le _))
  refine wpAny_holding ?_
  have I4 := pin_cons I3 g3 nA oA.2.1 (I1.nofs (Nat.le_refl _)) seq_nocell
  have I5 := I4.kept (t' := tk) (h' := ((h1.push (seqObj "list" acc.toList.toArray 0)).update h1.objs.size (Obj.mapSeq fun _ => #[])).push (seqObj "tuple" acc.toList.toArray 0)) fun b o e => Heap.get?_push_of_some _ e
  have I6 := I5.kept (t' := tk) (h' := (((h1.push (seqObj "list" acc.toList.toArray 0)).update h1.objs.size (Obj.mapSeq fun _ => #[])).push (seqObj "tuple" acc.toList.toArray 0)).push (seqObj "list" #[] 0)) fun b o e => Heap.get?_push_of_some _ e
  have oK := own_of I5 (Nat.le_refl _)
  have nK := I5.hok.fresh (Nat.le_refl _)
  have I7 := pin_cons I6 (Heap.get?_push_size _ rfl) nK oK.2.1 (I5.nofs (Nat.le_refl _)) seq_nocell
  refine srt_rest (ks := ks) I7 sub oK ⟨oA.1, oA.2.1, oA.2.2.1, fun p hp => oA.2.2.2 p ((List.mem_append.mp hp).elim (fun z => List.mem_append_left _ z) fun z => List.mem_append_right _ (List.mem_cons_of_mem _ z))⟩ (by rw [hl, hal]) hal2 hu ?_ (fun i w k hi hk pins' s' H' Hf' J m e => ?_) fun s' H' Hf' e n J => ?_
  · refine each_of_get (by rw [List.length_zip, List.length_range, hal, hl]; omega) fun i w p hw hp => ?_
    obtain ⟨tt, rfl⟩ := hit.2 i w (by rw [← hw, Array.getElem?_toList])
    have e1 : p.1 = i := by
      rw [List.getElem?_zip_eq_some] at hp
      obtain ⟨q, _⟩ := hp
      rw [List.getElem?_range (by have := (List.getElem?_eq_some_iff.mp q).1; simpa using this)] at q
      exact (Option.some.inj q).symm
    exact ⟨tt, by rw [e1]; simp⟩
  · obtain ⟨tt, rfl⟩ := hit.2 i w (by rw [← hi]; simp)
    have := turn i k hk tt pins' s' H' Hf' J m e
    simpa using this
  · exact ⟨_, rfl, wpAny_pure ⟨_, rfl, h _ s' H' Hf' e n (pin_tail J)⟩⟩
theorem ite_none {c : Bool} {α : Type} {a : Option α} {b : α} (h : (if c = true then a else none) = some b) : c = true ∧ a = some b := by
  cases c
  · cases h
  · exact ⟨rfl, h⟩
theorem capsR_get : ∀ {js : List Nat} {ρ : Rho} {cs : List PyData}, capsR js ρ = some cs → cs.length = js.length ∧ ∀ (t : Nat) d, cs[t]? = some d → ∃ j, js[t]? = some j ∧ ρ[j]? = some (.val d)
  | [], ρ, cs, h => by cases h; exact ⟨rfl, fun t d z => by simp at z⟩
  | j :: js, ρ, cs, h => by
    obtain ⟨d, h1, h⟩ := Option.bind_eq_some_iff.mp h
    obtain ⟨r, h2, rfl⟩ := Option.map_eq_some_iff.mp h
    obtain ⟨q1, q2⟩ := capsR_get h2
    refine ⟨by rw [List.length_cons, List.length_cons, q1], fun t e z => ?_⟩
    cases t with
    | zero =>
      cases z
      refine ⟨j, rfl, ?_⟩
      unfold getV at h1
      split at h1
      · cases h1; assumption
      · cases h1
    | succ t => exact q2 t e (by simpa using z)
theorem keysR_get {f : PyData → Option PyData} : ∀ {l : List Nat} {ks : List Int}, keysR f l = some ks → ks.length = l.length ∧ ∀ (t : Nat) k, ks[t]? = some k → ∃ i, l[t]? = some i ∧ f (.int (i : Nat)) = some (.int k)
  | [], ks, h => by cases h; exact ⟨rfl, fun t d z => by simp at z⟩
  | i :: l, ks, h => by
    obtain ⟨d, h1, h⟩ := Option.bind_eq_some_iff.mp h
    obtain ⟨k, h3, h⟩ := Option.bind_eq_some_iff.mp h
    obtain ⟨r, h2, rfl⟩ := Option.map_eq_some_iff.mp h
    have := intOf_some h3
    subst this
    obtain ⟨q1, q2⟩ := keysR_get h2
    refine ⟨by rw [List.length_cons, List.length_cons, q1], fun t e z => ?_⟩
    cases t with
    | zero =>
      cases z
      exact ⟨i, rfl, h1⟩
    | succ t => exact q2 t e (by simpa using z)
theorem er_start {K : PySem.W.Frag} {σ : L2.St} {H Hf : Hp} {ρ : Rho} {js : List Nat} {cs : List PyData} {q : Str} {fr : List Str} {v : V} {d : PyData} (r : ER K σ H Hf ρ) (hc : capsR js ρ = some cs) (hl : js.length = fr.length) (hv : Rp K Hf v d) :
    ER K (NdefX.startF (q :: fr) [v] (js.map (NdefX.slotAt σ))) H Hf ((d :: cs).map .val) := by
  obtain ⟨c1, c2⟩ := capsR_get hc
  have e : NdefX.startF (q :: fr) [v] (js.map (NdefX.slotAt σ)) = some v :: js.map (NdefX.slotAt σ) := by
    unfold NdefX.startF
    have : (q :: fr).length - [v].length - (js.map (NdefX.slotAt σ)).length = 0 := by rw [List.length_cons, List.length_singleton, List.length_map]; omega
    rw [this]
    simp
  have nov : ∀ (i : Nat) (x : Sl), ((d :: cs).map Sl.val)[i]? = some x → ∃ y, x = .val y := fun i x h => by
    rw [List.getElem?_map] at h
    obtain ⟨y, _, h2⟩ := Option.map_eq_some_iff.mp h
    exact ⟨y, h2.symm⟩
  rw [e]
  refine ⟨by simp [c1], r.sub, fun i x h => ?_, fun i ds h => ?_, fun i j p di dj h => ?_, fun i ks ds h => ?_⟩
  · cases i with
    | zero => cases h; exact ⟨v, rfl, hv⟩
    | succ i =>
      have h2 : cs[i]? = some x := by
        rw [List.map_cons, List.getElem?_cons_succ, List.getElem?_map] at h
        obtain ⟨y, h1, h2⟩ := Option.map_eq_some_iff.mp h
        cases h2
        exact h1
      obtain ⟨j, h3, h4⟩ := c2 i x h2
      obtain ⟨u, h5, h6⟩ := r.val j x h4
      exact ⟨u, by rw [List.getElem?_cons_succ, List.getElem?_map, h3, Option.map_some, NdefX.slotAt_of h5], h6⟩
  · obtain ⟨y, z⟩ := nov _ _ h; cases z
  · obtain ⟨y, z⟩ := nov _ _ h; cases z
  · obtain ⟨y, z⟩ := nov _ _ h; cases z
/-- sorted(range(n), key=lambda q: body) -/
theorem pf_srt {X : Cx} {a body : Expr} {fa fb : Rho → Option PyData} {params : Arguments} {scope : Scope} {lpos kpos p p2 p3 pos : Pos} {q : Str} {fr : List Str} {js : List Nat} {k : Nat} (hc : X.calm = true) (L : LamOk X) (M : LamS X scope q fr js params body) (hdf : defaultsOf params X.env = ([], []))
    (hg : Gl X "sorted") (hm : X.mg "sorted" = none) (hg2 : Gl X "range") (hm2 : X.mg "range" = none) (ha : PE X a (tF X.K fa)) (hs : ∀ es, starEach (a :: es) X.env = (false, eval a X.env) :: starEach es X.env) (hr : Room (k + 1) X.A.in1.in1)
    (hb : ∀ f c' s H, Room k (X.A.in1.in1.deeper (NdefX.envF (lamF X params scope c') f s.heap.objs.size)) → PE (lamX X q fr params scope f c' s H) body (tF X.K fb)) :
    PE X (.Call (.Name "sorted" p) [.Call (.Name "range" p2) [a] [] p3] [⟨some "key", .Lambda params body scope lpos, kpos⟩] pos) (tF X.K fun ρ => srtE false (fa ρ) (capsR js ρ) fb) := by
  refine ⟨fun pins s σ H Q I ⟨Hf, ρ, d, er, hd, kF⟩ => ?_⟩
  obtain ⟨x, h1, hd⟩ := Option.bind_eq_some_iff.mp hd
  obtain ⟨m, h2, hd⟩ := Option.bind_eq_some_iff.mp hd
  obtain ⟨h3, hd⟩ := ite_none hd
  obtain ⟨cs, h4, hd⟩ := Option.bind_eq_some_iff.mp hd
  obtain ⟨ks, h5, hd⟩ := Option.map_eq_some_iff.mp hd
  have hd : d = .list (srtD ks) := hd.symm
  subst hd
  have := intOf_some h2
  subst this
  obtain ⟨k1, k2⟩ := keysR_get h5
  have hv : ∀ y ∈ scope.names, y.2 = .free → ∃ c, X.env.cells.lookup y.1 = some c := fun y hy e => (M.free y hy e).elim (fun z => I.ok.has _ (.inl z)) fun z => I.ok.has _ (.inr z)
  have hjl : js.length = fr.length := by have := congrArg List.length M.js; simpa using this
  refine wpAny_Call_Name_kw (ld_blt I hg hm (u := .builtin "sorted") (by rfl) ?_)
  refine PyProof.Rows.callWith_kw (args_cons (rg_new hg2 hm2 ha (hs _) I ⟨Hf, ρ, _, er, h1, fun v H1 Hf1 e1 r1 => (⟨Hf1, e1, r1⟩ : ∃ Hf1, Ext H Hf H1 Hf1 ∧ Rp X.K Hf1 v (.int m))⟩ fun v H1 ⟨Hf1, e1, r1⟩ => ?_) rfl) rfl rfl rfl rfl
  cases r1
  refine ⟨m, rfl, fun r ob t u w s1 eo I1 => args_nil ?_⟩
  show wpAny _ _ (evalAll ((do let v ← eval (.Lambda params body scope lpos) X.env; standAt pos; pure v) :: [])) _ _ s1
  refine wpAny_evalAll_cons (wpAny_bind (lam_mk I1 L e1.sub hdf hv fun f c' pm ctv H2 s2 e2 hco I2 => wpAny_bind (wpAny_standAt (wpAny_pure (wpAny_evalAll_nil ?_)))))
  show wpAny _ _ (call (.builtin "sorted") [.ref r] [(Str.ofString "key", .ref f)]) _ _ _
  refine call_srt (ks := ks) hc I2 e2.sub eo h3 (by rw [k1, List.length_range]) (by have := hr.un; omega) (fun i k' hk t' pins' s' H' Hf' J mem e => ?_) fun a' s' H' Hf' e n J => ?_
  · obtain ⟨i', hi, hfk⟩ := k2 i k' hk
    have : i' = i := by
      rw [List.getElem?_range (by have := (List.getElem?_eq_some_iff.mp hi).1; simpa using this)] at hi
      exact (Option.some.inj hi).symm
    subst this
    have hco' : H' c' = some (LamX.CodeO c' (X.env.qual ++ "<lambda>")) := by
      rcases e.gr c' _ hco with z | ⟨z, _⟩ | ⟨ps, qs, z, _⟩
      · exact z
      · exact absurd z (L.may _ _)
      · cases z
    refine lam_run (v := .int (i' : Nat)) J M (J.pin _ (List.mem_append_right _ mem)).1 hco' hr ⟨t', rfl⟩ (fun hr' => hb f c' s' H' hr') ⟨Hf', _, .int k', er_start (er.ext (e1.trans (e2.trans e))) h4 hjl (.int _), hfk, fun v H3 Hf3 e3 r3 => ?_⟩
    cases r3
    exact ⟨rfl, Hf3, e3⟩
  · have z : ((srtP ks).map fun p => V.int (p.1 : Int)).length ≤ sizeLine := by
      obtain ⟨_, _, b3⟩ := rngOk_some h3
      rw [List.length_map, srtP, List.length_mergeSort, List.length_zip, List.length_range, k1, List.length_range, sizeLine_eq]
      omega
    have rr : ∀ Hx : Hp, RpAll X.K Hx ((srtP ks).map fun p => V.int (p.1 : Int)) (srtD ks) := fun Hx => by
      have := RpAll.of_ints (K := X.K) (H := Hx) ((srtP ks).map fun p => (p.1 : Int))
      rw [List.map_map, List.map_map] at this
      exact this
    exact ⟨.ref a', _, J, rfl, kF _ _ (upd Hf' a' (.lst ((srtP ks).map fun p => V.int (p.1 : Int)))) ((e1.trans (e2.trans e)).trans (Ext.alloc e.sub n (.lst _))) (.lst (.of upd_same) z (rr _))⟩
end Ev

/-! EvG: when a text of the small language is that of an expression; then it computes what the expression does. -/
namespace Ev
variable [Memo]
open PySem PySem.Spec PyProof.Rows L2

/-! ### the look -/
def visB (sc : Scope) (x : Str) : Bool := match sc.names.lookup x with
  | some .local => true
  | some .cell => true
  | some .free => true
  | _ => false
def locB (sc : Scope) (x : Str) : Bool := match sc.names.lookup x with
  | some .local => true
  | some .cell => true
  | _ => false
def glB (sc : Scope) (x : Str) : Bool := match sc.names.lookup x with
  | some .globalImplicit => true
  | _ => false
def dbgB (x : Str) : Bool := (x == ("__debug__" : Str)) || (x == ("__classdict__" : Str))
def plainE : Expr → Bool
  | .Starred _ _ => false
  | .Set _ _ _ => false
  | .Slice _ _ _ _ => false
  | .ListComp _ _ _ _ => true
  | .SetComp _ _ _ _ => false
  | .DictComp _ _ _ _ _ => false
  | _ => true
def ownOf (N : List Str) (sc : Scope) : List (Str × Nat) := sc.names.filterMap fun y => match y.2 with
  | .local => (N.idxOf? y.1).map fun i => (y.1, i)
  | .cell => (N.idxOf? y.1).map fun i => (y.1, i)
  | _ => none
def bltStr : Blt → Str
  | .len => "len" | .int => "int" | .tuple => "tuple" | .list => "list" | .sorted => "sorted" | .all => "all" | .any => "any" | .str => "str"
def isBool : Expr → Bool
  | .BoolOp _ _ _ => true
  | _ => false
/-- names of a target that may be stored: fn tells which cells are the block's own -/
def tgB (N : List Str) (sc : Scope) (own : Str → Bool) (i : Nat) : Expr → Bool
  | .Name x _ => decide (N[i]? = some x) && locB sc x && (own x || decide (sc.names.lookup x = some .local))
  | _ => false
def tgBs (N : List Str) (sc : Scope) (own : Str → Bool) : List Nat → List Expr → Bool
  | [], [] => true
  | i :: is, e :: es => tgB N sc own i e && tgBs N sc own is es
  | _, _ => false
def chkT (N : List Str) (sc : Scope) (own : Str → Bool) : Tg → Expr → Bool
  | .nm i, e => tgB N sc own i e
  | .tp is, .Tuple es _ _ => tgBs N sc own is es
  | .tp _, _ => false

/-- the keys of a display are these texts -/
def dkB : List Str → List (Option Expr) → Bool
  | [], [] => true
  | k :: ks, some (.Constant (.str y) _ _) :: es => decide (k = y) && dkB ks es
  | _, _ => false
def dkOk (ks : List Str) : Bool := decide ks.Nodup && !ks.isEmpty && decide (ks.length ≤ 15)
theorem dkB_len : ∀ {ks : List Str} {es : List (Option Expr)}, dkB ks es = true → es.length = ks.length ∧ es.all (·.isSome) = true
  | [], [], _ => ⟨rfl, rfl⟩
  | [], _ :: _, h => by simp [dkB] at h
  | _ :: _, [], h => by simp [dkB] at h
  | k :: ks, e :: es, h => by
    unfold dkB at h
    split at h
    · rename_i h1 h2; cases h1
    · rename_i h1 h2
      cases h1; cases h2
      simp only [Bool.and_eq_true] at h
      obtain ⟨a, b⟩ := dkB_len h.2
      exact ⟨by rw [List.length_cons, List.length_cons, a], by simpa using b⟩
    · cases h
def isDic : PyData → Bool
  | .dict _ => true
  | _ => false
mutual
/-- is a key function made here? -/
def srtS : QS → Bool
  | .srt _ _ _ _ _ _ _ => true
  | .iff _ _ a b => srtSs a || srtSs b
  | .for _ _ _ b => srtSs b
  | _ => false
def srtSs : QSs → Bool
  | .nil => false
  | .cons s r => srtS s || srtSs r
end
section
variable (T : Tab) (N : List Str)
mutual
def chk : PX → Scope → Expr → Bool
  | .var i, sc, e => match e with
    | .Name x _ => decide (N[i]? = some x) && visB sc x && !dbgB x
    | _ => false
  | .lit d, _, e => match d, e with
    | .int i, .Constant (.int j) _ _ => decide (i = j)
    | .str x, .Constant (.str y) _ _ => decide (x = y) && decide (x.length ≤ 1000) && PyData.strOk x
    | .bool a, .Constant (.bool b) _ _ => decide (a = b)
    | .none, .Constant .none _ _ => true
    | _, _ => false
  | .glb g, sc, e => match e, T.glb g with
    | .Name x _, some (y, d) => decide (x = y) && glB sc x && !dbgB x && !isDic d
    | _, _ => false
  | .bin op a b, sc, e => match e with
    | .BinOp l o r _ => decide (o = bopOp op) && chk a sc l && chk b sc r
    | _ => false
  | .neg a, sc, e => match e with
    | .UnaryOp .USub l _ => chk a sc l
    | _ => false
  | .not a, sc, e => match e with
    | .UnaryOp .Not l _ => chk a sc l
    | _ => false
  | .and a b, sc, e => match e with
    | .BoolOp .And [x, y] _ => chk a sc x && chk b sc y
    | .BoolOp .And (x :: y :: z :: r) pos => chk a sc x && chk b sc (.BoolOp .And (y :: z :: r) pos)
    | _ => false
  | .or a b, sc, e => match e with
    | .BoolOp .Or [x, y] _ => chk a sc x && chk b sc y
    | .BoolOp .Or (x :: y :: z :: r) pos => chk a sc x && chk b sc (.BoolOp .Or (y :: z :: r) pos)
    | _ => false
  | .cmp op a b, sc, e => match e with
    | .Compare l [o] [r] _ => decide (o = copOp op) && chk a sc l && chk b sc r
    | _ => false
  | .isN ng a, sc, e => match e with
    | .Compare l [o] [.Constant .none _ _] _ => decide (o = if ng then .IsNot else .Is) && chk a sc l
    | _ => false
  | .chain o1 o2 a b c, sc, e => match e with
    | .Compare l [p1, p2] [m, r] _ => decide (p1 = copOp o1) && decide (p2 = copOp o2) && chk a sc l && chk b sc m && chk c sc r
    | _ => false
  | .ife c a b, sc, e => match e with
    | .IfExp t l r _ => chk c sc t && chk a sc l && chk b sc r
    | _ => false
  | .tup es, sc, e => match e with
    | .Tuple l _ _ => chks es sc l
    | _ => false
  | .lst es, sc, e => match e with
    | .List l _ => chks es sc l
    | _ => false
  | .ix a i, sc, e => match e with
    | .Subscript l r _ => chk a sc l && chk i sc r
    | _ => false
  | .slc a lo hi, sc, e => match e with
    | .Subscript l (.Slice none none none _) _ => chk a sc l && (match lo with | .omit => true | _ => false) && (match hi with | .omit => true | _ => false)
    | .Subscript l (.Slice (some x) none none _) _ => chk a sc l && chk lo sc x && (match hi with | .omit => true | _ => false)
    | .Subscript l (.Slice none (some y) none _) _ => chk a sc l && (match lo with | .omit => true | _ => false) && chk hi sc y
    | .Subscript l (.Slice (some x) (some y) none _) _ => chk a sc l && chk lo sc x && chk hi sc y
    | _ => false
  | .omit, _, _ => false
  | .rev a, sc, e => match e with
    | .Subscript l (.Slice none none (some (.UnaryOp .USub (.Constant (.int j) _ _) _)) _) _ => decide (j = 1) && chk a sc l
    | _ => false
  | .call f es, sc, e => match e, T.fn f with
    | .Call (.Name x _) (a :: l) [] _, some F => decide (x = F.name) && glB sc x && !dbgB x && !srtSs F.body && chks es sc (a :: l)
    | _, _ => false
  | .blt b a, sc, e => match e with
    | .Call (.Name x _) [l] [] _ => decide (x = bltStr b) && glB sc x && chk a sc l
    | _ => false
  | .isI a t, sc, e => match e with
    | .Call (.Name x _) [l, .Name y _] [] _ => decide (x = "isinstance") && decide (y = tyStr t) && glB sc x && glB sc y && chk a sc l
    | _ => false
  | .join o a, sc, e => match e with
    | .Call (.Attribute l m apos) [r] [] pos => decide (m = "join") && (match l with | .Name _ _ => true | .Constant _ _ _ => true | _ => false) && (apos.endLine == pos.line) && chk o sc l && chk a sc r
    | _ => false
  | .index o a, sc, e => match e with
    | .Call (.Attribute l m apos) [r] [] pos => decide (m = "index") && (match l with | .Name _ _ => true | .Constant _ _ _ => true | _ => false) && (apos.endLine == pos.line) && chk o sc l && chk a sc r
    | _ => false
  | .lc ws elt tg it c, sc, e => match e with
    | .ListComp el [⟨t, i, ifs, 0⟩] scope _ => decide (ws = (ownOf N scope).map (·.2)) && blkC N sc scope (ownOf N scope) && chkI it sc t i
      && chkT N (relS scope sc) (fun x => scope.names.lookup x == some .cell) tg t && (tgIds tg).all (fun i => decide (i ∈ ws))
      && (match ifs with
        | [] => (match c with | .lit (.bool true) => true | _ => false)
        | [x] => chk c (relS scope sc) x
        | _ => false) && chk elt (relS scope sc) el
    | _ => false
  | .pick ks es k, sc, e => match e with
    | .Subscript (.Dict keys vals _) r _ => dkB ks keys && dkOk ks && decide (keys.length = vals.length) && chks es sc vals && chk k sc r
    | _ => false
  | .getd ks es k d, sc, e => match e with
    | .Call (.Attribute (.Dict keys vals _) m apos) [r, f] [] pos => decide (m = "get") && (apos.endLine == pos.line) && dkB ks keys && dkOk ks && decide (keys.length = vals.length) && chks es sc vals && chk k sc r && chk d sc f
    | _ => false
  | .pickV i k, sc, e => match e with
    | .Subscript (.Name x _) r _ => decide (N[i]? = some x) && visB sc x && !dbgB x && chk k sc r
    | _ => false
  | .rngL a, sc, e => match e with
    | .Call (.Name x _) [.Call (.Name y _) [l] [] _] [] _ => decide (x = "list") && decide (y = "range") && glB sc x && glB sc y && chk a sc l
    | _ => false
  | .inG neg k g, sc, e => match e, T.glb g with
    | .Compare l [o] [.Name x _] _, some (y, d) => decide (o = if neg then .NotIn else .In) && decide (x = y) && glB sc x && !dbgB x && isDic d && chk k sc l
    | _, _ => false
  | .pickG g k, sc, e => match e, T.glb g with
    | .Subscript (.Name x _) r _, some (y, d) => decide (x = y) && glB sc x && !dbgB x && isDic d && chk k sc r
    | _, _ => false
  | .sset a, sc, e => match e with
    | .Call (.Name x _) [.Call (.Name y _) [l] [] _] [] _ => decide (x = "sorted") && decide (y = "set") && glB sc x && glB sc y && chk a sc l
    | _ => false
def chks : PXs → Scope → List Expr → Bool
  | .nil, _, es => match es with
    | [] => true
    | _ => false
  | .cons p ps, sc, es => match es with
    | e :: es => chk p sc e && chks ps sc es
    | _ => false
def chkI : PIt → Scope → Expr → Expr → Bool
  | .seq a, sc, _, e => chk a sc e
  | .rng1 a, sc, _, e => match e with
    | .Call (.Name x _) [l] [] _ => decide (x = "range") && glB sc x && chk a sc l
    | _ => false
  | .rng2 a b, sc, _, e => match e with
    | .Call (.Name x _) [l, r] [] _ => decide (x = "range") && glB sc x && chk a sc l && chk b sc r
    | _ => false
  | .enum a, sc, t, e => match t, e with
    | .Tuple _ _ _, .Call (.Name x _) [l] [] _ => decide (x = "enumerate") && glB sc x && chk a sc l
    | _, _ => false
  | .zip a b, sc, t, e => match t, e with
    | .Tuple _ _ _, .Call (.Name x _) [l, r] [] _ => decide (x = "zip") && glB sc x && chk a sc l && chk b sc r
    | _, _ => false
end
end
/-- the built-ins' names -/
def bNames : List Str := ["len", "int", "tuple", "list", "sorted", "all", "any", "str", "isinstance", "bool", "range", "enumerate", "zip", "set"]

/-- where an expression stands -/
structure Cok (T : Tab) (n : Nat) (X : Cx) : Prop where
  nd : X.N.Nodup
  calm : X.calm = true
  xe : X.xe = fun _ _ => False
  kind : X.env.scope.kind = .function
  room : Room (T.c * n) X.A
  blt : ∀ x ∈ bNames, X.mg x = none
  glb : ∀ g x d, T.glb g = some (x, d) → ∃ u v, X.mg x = some u ∧ RelV v u ∧ ((∀ H, Rp X.K H v d) ∨ ∃ kvs, d = .dict kvs ∧ GDic X.K X.w v kvs)
  fn : ∀ f F, T.fn f = some F → srtSs F.body = false → ∃ a fd, X.mg F.name = some (.ref a) ∧ PySem.W.keepIn X.K (.ref a) = true ∧ Binds X.K fd F.ps [] ∧ FnOk X.prog X.w X.K X.mg X.base CX0 (T.c * n) a fd F.ps (spD X.K (T.run n f))
abbrev Tab.G (T : Tab) : Nat → Option PyData := fun g => (T.glb g).map (·.2)
abbrev ev (T : Tab) (n : Nat) (p : PX) : Rho → Option PyData := evE T.G (T.run n) p

section
variable {T : Tab} {n : Nat} {X : Cx}
theorem chk_plain : ∀ (p : PX) {N : List Str} {sc : Scope} {e : Expr}, chk T N p sc e = true → plainE e = true
  | p, N, sc, .Starred a b, h => by cases p <;> simp [chk] at h
  | p, N, sc, .Set a b c, h => by cases p <;> simp [chk] at h
  | p, N, sc, .Slice a b c d, h => by cases p <;> simp [chk] at h
  | p, N, sc, .SetComp a b c d, h => by cases p <;> simp [chk] at h
  | p, N, sc, .DictComp a b c d f, h => by cases p <;> simp [chk] at h
  | _, _, _, .BoolOp .., _ => rfl
  | _, _, _, .NamedExpr .., _ => rfl
  | _, _, _, .BinOp .., _ => rfl
  | _, _, _, .UnaryOp .., _ => rfl
  | _, _, _, .Lambda .., _ => rfl
  | _, _, _, .IfExp .., _ => rfl
  | _, _, _, .Dict .., _ => rfl
  | _, _, _, .ListComp .., _ => rfl
  | _, _, _, .GeneratorExp .., _ => rfl
  | _, _, _, .Await .., _ => rfl
  | _, _, _, .Yield .., _ => rfl
  | _, _, _, .YieldFrom .., _ => rfl
  | _, _, _, .Compare .., _ => rfl
  | _, _, _, .Call .., _ => rfl
  | _, _, _, .FormattedValue .., _ => rfl
  | _, _, _, .JoinedStr .., _ => rfl
  | _, _, _, .Constant .., _ => rfl
  | _, _, _, .Attribute .., _ => rfl
  | _, _, _, .Subscript .., _ => rfl
  | _, _, _, .Name .., _ => rfl
  | _, _, _, .List .., _ => rfl
  | _, _, _, .Tuple .., _ => rfl
theorem star_of {e : Expr} (h : plainE e = true) (es : List Expr) (env : Env) : starEach (e :: es) env = (false, eval e env) :: starEach es env := by
  cases e <;> first | rfl | exact nomatch h
theorem mark_of {e : Expr} (h : plainE e = true) (op : CmpOp) : behindInMarks op e = false := by
  cases e <;> first | rfl | exact nomatch h
theorem ix_of {e : Expr} (h : plainE e = true) : PlainIx e := by
  intro o i
  cases e <;> first | rfl | exact nomatch h
theorem fold_of {e : Expr} (h : plainE e = true) (env : Env) : ∀ x, foldedSetIterable e env x = pure x := by
  intro x
  cases e <;> first | rfl | exact nomatch h
theorem base_of {e : Expr} (h : (match e with | .Name _ _ => true | .Constant _ _ _ => true | _ => false) = true) (m : Str) (env : Env) (w : Sem Value) : attributeBase e m env w = w := by
  cases e <;> first | rfl | exact nomatch h
theorem vis_of {sc : Scope} {x : Str} (h : visB sc x = true) : Vis sc x := by
  unfold visB at h
  unfold Vis
  split at h <;> simp_all
theorem loc_of {sc : Scope} {x : Str} (h : locB sc x = true) : L2.Loc sc x := by
  unfold locB at h
  unfold L2.Loc
  split at h <;> simp_all
theorem gl_of {x : Str} (h : glB X.env.scope x = true) : Gl X x := by
  unfold glB at h
  show X.env.scope.names.lookup x = _
  split at h <;> simp_all
theorem dbg_of {x : Str} (h : (!dbgB x) = true) : (x == ("__debug__" : Str)) = false ∧ (x == ("__classdict__" : Str)) = false := by
  simp only [dbgB, Bool.not_eq_true', Bool.or_eq_false_iff] at h
  exact h
def isNew : PX → Bool
  | .lst _ => true
  | .lc _ _ _ _ _ => true
  | _ => false
def isLc : Expr → Bool
  | .ListComp _ _ _ _ => true
  | _ => false
/-- the parts of a comprehension -/
def LcOk (X : Cx) (el t i : Expr) (ifs : List Expr) (scope : Scope) (f : Rho → Option PyData) : Prop := ∃ (own : List (Str × Nat)) (wi : TI) (g : TG) (tt : TT) (te : TE), PI X t i wi ∧ BlkOk X.N X.env.scope scope own ∧
  (∀ (s : Shared) (H : Hp) (C : Addr) (cl : List (Str × Addr)) (fp : List Addr), PG (X.blk s H scope (compEnvC scope cl C X.env) fp) t g) ∧
  (∀ (s : Shared) (H : Hp) (C : Addr) (cl : List (Str × Addr)) (fp : List Addr), PTs (X.blk s H scope (compEnvC scope cl C X.env) fp) ifs tt) ∧
  (∀ (s : Shared) (H : Hp) (C : Addr) (cl : List (Str × Addr)) (fp : List Addr), PE (X.blk s H scope (compEnvC scope cl C X.env) fp) el te) ∧
  (∀ x, foldedSetIterable i X.env x = pure x) ∧ (∀ σ H Q, tO X.K f σ H Q → tLc wi g tt te (own.map (·.2)) σ H Q)
/-- the three ways in which an expression is run -/
structure Snd (T : Tab) (n : Nat) (X : Cx) (p : PX) (e : Expr) : Prop where
  f : PE X e (tF X.K (ev T n p))
  b : PE X e (tBm X.K fun ρ => bor p ρ (ev T n p ρ))
  t : PT X e (tT X.K (ev T n p))
  w : isBool e = true → PW X e (tT X.K (ev T n p))
  o : isNew p = true → PE X e (tO X.K (ev T n p))
  l : ∀ el t i ifs scope pos, e = .ListComp el [⟨t, i, ifs, 0⟩] scope pos → LcOk X el t i ifs scope (ev T n p)
/-- one that is no name, no test -/
theorem Snd.of {p : PX} {e : Expr} (hv : ∀ i, p ≠ .var i) (h : PE X e (tF X.K (ev T n p))) (he : ∀ whole, isTrue e X.env whole = (do let v ← whole; standAt e.pos; holding [v] (truthy v))) (hb : isBool e = false) (hn : isNew p = false := by rfl) (hl : isLc e = false := by rfl) : Snd T n X p e :=
  ⟨h, bor_F hv h, pt_of h he, fun z => (by rw [hb] at z; cases z), fun z => (by rw [hn] at z; cases z), fun el t i ifs scope pos z => (by subst z; cases hl)⟩
theorem mem_bNames {x : Str} (h : (bNames.contains x) = true) : x ∈ bNames := by simpa using h
theorem bltStr_mem : ∀ b : Blt, bltStr b ∈ bNames := by intro b; cases b <;> (unfold bNames bltStr; simp)
theorem tyStr_mem : ∀ b : Ty, tyStr b ∈ bNames := by intro b; cases b <;> (unfold bNames tyStr; simp)
/-- list(range(n)) -/
theorem pf_rngL {a : Expr} {fa : Rho → Option PyData} {p q pos pos2 : Pos} (hc : X.calm = true) (hg : Gl X "list") (hm : X.mg "list" = none) (hg2 : Gl X "range") (hm2 : X.mg "range" = none) (ha : PE X a (tF X.K fa)) (hs : ∀ es, starEach (a :: es) X.env = (false, eval a X.env) :: starEach es X.env) :
    PE X (.Call (.Name "list" p) [.Call (.Name "range" q) [a] [] pos2] [] pos) (tF X.K fun ρ => (fa ρ).bind fun x => (intOf x).bind fun n => if rngOk n then some (.list (rgD n)) else none) := by
  refine PEimp (pe_listRg hc hg hm (prg_1 hg2 hm2 ha (hs _)) rfl) fun σ H Q ⟨Hf, ρ, ds, er, hd, k⟩ => ?_
  obtain ⟨x, h1, hd⟩ := Option.bind_eq_some_iff.mp hd
  obtain ⟨n, h2, hd⟩ := Option.bind_eq_some_iff.mp hd
  obtain ⟨h3, rfl⟩ := ite_some hd
  obtain ⟨b1, b2, b3⟩ := rngOk_some h3
  have := intOf_some h2
  subst this
  refine ⟨Hf, ρ, _, er, h1, fun v H' Hf' e r => ?_⟩
  cases r
  refine ⟨n, rfl, ⟨by omega, by omega, b1, b2, by omega⟩, ?_⟩
  have e2 : rgD n = ((List.range (n - 0).toNat).map fun (i : Nat) => (0 : Int) + (i : Int)).map PyData.int := by
    unfold rgD
    rw [List.map_map, Int.sub_zero]
    exact List.map_congr_left fun i _ => by simp
  have e3 : rgV 0 n = ((List.range (n - 0).toNat).map fun (i : Nat) => (0 : Int) + (i : Int)).map V.int := by
    unfold rgV
    rw [List.map_map]
    rfl
  rw [e3]
  refine (k.ext e).newL e.sub ?_ ?_
  · rw [List.length_map, List.length_map, List.length_range, sizeLine_eq]; omega
  · rw [e2]; exact RpAll.of_ints _
end
end Ev

/-! EvH: the look is sound for expressions. -/
namespace Ev
variable [Memo]
open PySem PySem.Spec PyProof.Rows L2
variable {T : Tab} {n : Nat}
theorem Cok.blk {X : Cx} (C : Cok T n X) (s : Shared) (H : Hp) {scope : Scope} (cl : List (Str × Addr)) (c : Addr) (fp : List Addr) (hk : scope.kind = .function) : Cok T n (X.blk s H scope (compEnvC scope cl c X.env) fp) :=
  ⟨C.nd, C.calm, rfl, hk, C.room, C.blt, C.glb, C.fn⟩
theorem pg_of {X : Cx} {N : List Str} {sc : Scope} {own : Str → Bool} (hN : X.N = N) (nd : N.Nodup) (hs : X.env.scope = sc) (ho : ∀ x, own x = true → X.fn x = true) : ∀ {i : Nat} {e : Expr}, tgB N sc own i e = true → PG X e (gName i)
  | i, e, h => by
    unfold tgB at h
    split at h
    · simp only [Bool.and_eq_true, Bool.or_eq_true, decide_eq_true_eq] at h
      obtain ⟨⟨h1, h2⟩, h3⟩ := h
      subst hN hs
      exact pg_name nd h1 (loc_of h2) (h3.imp (ho _) id)
    · cases h
theorem tg_plain {N : List Str} {sc : Scope} {own : Str → Bool} {i : Nat} {e : Expr} (h : tgB N sc own i e = true) : ∃ x p, e = .Name x p := by
  unfold tgB at h
  split at h
  · exact ⟨_, _, rfl⟩
  · cases h
theorem pgs_of {X : Cx} {N : List Str} {sc : Scope} {own : Str → Bool} (hN : X.N = N) (nd : N.Nodup) (hs : X.env.scope = sc) (ho : ∀ x, own x = true → X.fn x = true) : ∀ {is : List Nat} {es : List Expr}, tgBs N sc own is es = true →
    PGs X es (gAll is) ∧ (assignEach es X.env).length = is.length ∧ (assignEach es X.env).findIdx? (·.1) = none
  | [], [], _ => ⟨pgs_nil, rfl, rfl⟩
  | [], _ :: _, h => by simp [tgBs] at h
  | _ :: _, [], h => by simp [tgBs] at h
  | i :: is, e :: es, h => by
    simp only [tgBs, Bool.and_eq_true] at h
    obtain ⟨h1, h2⟩ := h
    obtain ⟨g1, g2, g3⟩ := pgs_of hN nd hs ho h2
    obtain ⟨x, p, rfl⟩ := tg_plain h1
    refine ⟨pgs_cons (pg_of hN nd hs ho h1) g1 rfl, ?_, ?_⟩
    · show (assignEach es X.env).length + 1 = _
      rw [g2]; rfl
    · show List.findIdx? (·.1) ((false, _) :: assignEach es X.env) = none
      rw [List.findIdx?_cons]
      simp [g3]
theorem tg_of {X : Cx} {N : List Str} {sc : Scope} {own : Str → Bool} (hN : X.N = N) (nd : N.Nodup) (hs : X.env.scope = sc) (ho : ∀ x, own x = true → X.fn x = true) (hc : X.calm = true) {tg : Tg} {e : Expr} (h : chkT N sc own tg e = true) : PG X e (tgG X.K tg) := by
  cases tg with
  | nm i => exact pg_of hN nd hs ho h
  | tp is =>
    unfold chkT at h
    split at h
    · rename_i h'; cases h'
    · rename_i h'
      cases h'
      obtain ⟨g1, g2, g3⟩ := pgs_of hN nd hs ho h
      exact pg_tup hc g1 g2 g3
    · cases h
theorem PTsimp {X : Cx} {ifs : List Expr} {t t' : TT} (h : PTs X ifs t) (i : ∀ σ H Q, t' σ H Q → t σ H Q) : PTs X ifs t' := ⟨fun pins s σ H Q I q => h.run pins s σ H Q I (i _ _ _ q)⟩

theorem chkI_plain : ∀ (it : PIt) {N : List Str} {sc : Scope} {t e : Expr}, chkI T N it sc t e = true → plainE e = true
  | .seq a, N, sc, t, e, h => by unfold chkI at h; exact chk_plain a h
  | .rng1 a, N, sc, t, e, h => by
    unfold chkI at h
    split at h
    · rfl
    · cases h
  | .rng2 a b, N, sc, t, e, h => by
    unfold chkI at h
    split at h
    · rfl
    · cases h
  | .enum a, N, sc, t, e, h => by
    unfold chkI at h
    split at h
    · rfl
    · cases h
  | .zip a b, N, sc, t, e, h => by
    unfold chkI at h
    split at h
    · rfl
    · cases h
theorem pd_of {X : Cx} {pos : Pos} {keys : List (Option Expr)} {values : List Expr} {trs : List (TE × TE)} {ks : List Str} {fs : Rho → Option (List PyData)} (h : PPs X pos keys values trs) (ok : PrOk X.K trs ks fs) (h1 : dkB ks keys = true) (h2 : dkOk ks = true) (h3 : keys.length = values.length) : PE X (.Dict keys values pos) (tDc X.K ks fs) := by
  simp only [dkOk, Bool.and_eq_true, decide_eq_true_eq] at h2
  obtain ⟨⟨h4, h5⟩, h6⟩ := h2
  obtain ⟨g1, g2⟩ := dkB_len h1
  refine pd_disp h ok h4 g2 h3 (fun e => ?_) (by omega) h6
  subst e
  have : ks = [] := List.eq_nil_of_length_eq_zero g1.symm
  subst this
  cases h5
mutual
theorem sndE : ∀ (p : PX) (X : Cx) (e : Expr), Cok T n X → chk T X.N p X.env.scope e = true → Snd T n X p e
  | .var i, X, e, C, h => by
    unfold chk at h
    split at h
    · rename_i x pos
      simp only [Bool.and_eq_true, decide_eq_true_eq] at h
      obtain ⟨⟨h1, h2⟩, h3⟩ := h
      have hv := pe_var (X := X) (pos := pos) h1 (vis_of h2) (dbg_of h3).1 (dbg_of h3).2
      have ee : ev T n (.var i) = getV i := by funext ρ; rw [ev, evE]
      refine ⟨by rw [ee]; exact pf_var hv, by rw [ee]; exact bor_var hv, by rw [ee]; exact pt_of (pf_var hv) fun _ => rfl, (fun z => nomatch z), (fun z => nomatch z), fun _ _ _ _ _ _ z => nomatch z⟩
    · cases h
  | .lit d, X, e, C, h => by
    have ee : ev T n (.lit d) = fun _ => some d := by funext ρ; rw [ev, evE]
    unfold chk at h
    split at h
    · have := of_decide_eq_true h; subst this
      exact Snd.of (fun _ => PX.noConfusion) (by rw [ee]; exact pf_const pe_int fun _ => .int _) (fun _ => rfl) rfl
    · simp only [Bool.and_eq_true, decide_eq_true_eq] at h
      obtain ⟨⟨rfl, h2⟩, h3⟩ := h
      exact Snd.of (fun _ => PX.noConfusion) (by rw [ee]; exact pf_const pe_str fun _ => .str _ (Nat.le_of_lt (small1000 h2)) h3) (fun _ => rfl) rfl
    · have := of_decide_eq_true h; subst this
      exact Snd.of (fun _ => PX.noConfusion) (by rw [ee]; exact pf_const pe_bl fun _ => .bl _) (fun _ => rfl) rfl
    · exact Snd.of (fun _ => PX.noConfusion) (by rw [ee]; exact pf_const pe_non fun _ => .non) (fun _ => rfl) rfl
    · cases h
  | .glb g, X, e, C, h => by
    unfold chk at h
    split at h
    · rename_i x pos y d hg
      simp only [Bool.and_eq_true, decide_eq_true_eq, Bool.not_eq_true'] at h
      obtain ⟨⟨⟨rfl, h2⟩, h3⟩, h7⟩ := h
      have h3 : (!dbgB x) = true := by rw [h3]; rfl
      obtain ⟨u, v, h4, h5, h6⟩ := C.glb g x d hg
      have h6 : ∀ H, Rp X.K H v d := by
        rcases h6 with h6 | ⟨kvs, rfl, _⟩
        · exact h6
        · cases h7
      have ee : ev T n (.glb g) = fun _ => some d := by
        funext ρ; rw [ev, evE, Tab.G, hg]
        cases d <;> first | rfl | cases h7
      exact Snd.of (fun _ => PX.noConfusion) (by rw [ee]; exact pf_const (pe_glob (gl_of h2) h4 h5 (dbg_of h3).1) h6) (fun _ => rfl) rfl
    · cases h
  | .bin op a b, X, e, C, h => by
    have ee : ev T n (.bin op a b) = fun ρ => (ev T n a ρ).bind fun x => (ev T n b ρ).bind fun y => bop op x y := by funext ρ; rw [ev, evE]
    unfold chk at h
    split at h
    · simp only [Bool.and_eq_true, decide_eq_true_eq] at h
      obtain ⟨⟨rfl, h2⟩, h3⟩ := h
      exact Snd.of (fun _ => PX.noConfusion) (by rw [ee]; exact pf_bin (sndE a X _ C h2).f (sndE b X _ C h3).f) (fun _ => rfl) rfl
    · cases h
  | .neg a, X, e, C, h => by
    have ee : ev T n (.neg a) = fun ρ => (ev T n a ρ).bind fun x => (intOf x).map fun i => .int (-i) := by funext ρ; rw [ev, evE]
    unfold chk at h
    split at h
    · exact Snd.of (fun _ => PX.noConfusion) (by rw [ee]; exact pf_neg (sndE a X _ C h).f) (fun _ => rfl) rfl
    · cases h
  | .not a, X, e, C, h => by
    have ee : ev T n (.not a) = fun ρ => (boolOf (ev T n a ρ)).map fun b => .bool (!b) := by funext ρ; rw [ev, evE]
    unfold chk at h
    split at h
    · have S := sndE a X _ C h
      exact ⟨by rw [ee]; exact pf_not S.f, bor_F (fun _ => PX.noConfusion) (by rw [ee]; exact pf_not S.f), by rw [ee]; exact ptt_not S.t, (fun z => nomatch z), (fun z => nomatch z), fun _ _ _ _ _ _ z => nomatch z⟩
    · cases h
  | .and a b, X, e, C, h => by
    have ee : ev T n (.and a b) = fAnd (ev T n a) (ev T n b) := by funext ρ; rw [ev, evE]
    unfold chk at h
    split at h
    · rename_i x y pos
      simp only [Bool.and_eq_true] at h
      have S1 := sndE a X _ C h.1
      have S2 := sndE b X _ C h.2
      have hF : PE X (.BoolOp .And [x, y] pos) (tF X.K (ev T n (.and a b))) := by rw [ee]; exact pf_and S1.f (pe_one S2.f)
      have hW : PW X (.BoolOp .And [x, y] pos) (tT X.K (ev T n (.and a b))) := by rw [ee]; exact pw_andF S1.t (pw_and1 S2.t)
      exact ⟨hF, bor_F (fun _ => PX.noConfusion) hF, hW.pt, fun _ => hW, (fun z => nomatch z), fun _ _ _ _ _ _ z => nomatch z⟩
    · rename_i x y z r pos
      simp only [Bool.and_eq_true] at h
      have S1 := sndE a X _ C h.1
      have S2 := sndE b X _ C h.2
      have hF : PE X (.BoolOp .And (x :: y :: z :: r) pos) (tF X.K (ev T n (.and a b))) := by rw [ee]; exact pf_and S1.f S2.f
      have hW : PW X (.BoolOp .And (x :: y :: z :: r) pos) (tT X.K (ev T n (.and a b))) := by rw [ee]; exact pw_andF S1.t (S2.w rfl)
      exact ⟨hF, bor_F (fun _ => PX.noConfusion) hF, hW.pt, fun _ => hW, (fun z => nomatch z), fun _ _ _ _ _ _ z => nomatch z⟩
    · cases h
  | .or a b, X, e, C, h => by
    have ee : ev T n (.or a b) = fOr (ev T n a) (ev T n b) := by funext ρ; rw [ev, evE]
    unfold chk at h
    split at h
    · rename_i x y pos
      simp only [Bool.and_eq_true] at h
      have S1 := sndE a X _ C h.1
      have S2 := sndE b X _ C h.2
      have hF : PE X (.BoolOp .Or [x, y] pos) (tF X.K (ev T n (.or a b))) := by rw [ee]; exact pf_or S1.f (pe_one S2.f)
      have hW : PW X (.BoolOp .Or [x, y] pos) (tT X.K (ev T n (.or a b))) := by rw [ee]; exact pw_orF S1.t (pw_or1 S2.t)
      exact ⟨hF, bor_F (fun _ => PX.noConfusion) hF, hW.pt, fun _ => hW, (fun z => nomatch z), fun _ _ _ _ _ _ z => nomatch z⟩
    · rename_i x y z r pos
      simp only [Bool.and_eq_true] at h
      have S1 := sndE a X _ C h.1
      have S2 := sndE b X _ C h.2
      have hF : PE X (.BoolOp .Or (x :: y :: z :: r) pos) (tF X.K (ev T n (.or a b))) := by rw [ee]; exact pf_or S1.f S2.f
      have hW : PW X (.BoolOp .Or (x :: y :: z :: r) pos) (tT X.K (ev T n (.or a b))) := by rw [ee]; exact pw_orF S1.t (S2.w rfl)
      exact ⟨hF, bor_F (fun _ => PX.noConfusion) hF, hW.pt, fun _ => hW, (fun z => nomatch z), fun _ _ _ _ _ _ z => nomatch z⟩
    · cases h
  | .cmp op a b, X, e, C, h => by
    have ee : ev T n (.cmp op a b) = fCmp op (fun ρ => bor a ρ (ev T n a ρ)) (fun ρ => bor b ρ (ev T n b ρ)) := by funext ρ; rw [ev, evE]
    have hu : X.A.units + 65 < cLine := by have := C.room.un; omega
    unfold chk at h
    split at h
    · rename_i l o r pos
      simp only [Bool.and_eq_true, decide_eq_true_eq] at h
      obtain ⟨⟨rfl, h2⟩, h3⟩ := h
      have S1 := sndE a X _ C h2
      have S2 := sndE b X _ C h3
      have hF : PE X (.Compare l [copOp op] [r] pos) (tF X.K (ev T n (.cmp op a b))) := by rw [ee]; exact pf_cmp hu S1.b S2.b (mark_of (chk_plain b h3) _)
      exact ⟨hF, bor_F (fun _ => PX.noConfusion) hF, by rw [ee]; exact ptt_cmp hu S1.b S2.b (mark_of (chk_plain b h3) _), (fun z => nomatch z), (fun z => nomatch z), fun _ _ _ _ _ _ z => nomatch z⟩
    · cases h
  | .isN ng a, X, e, C, h => by
    have ee : ev T n (.isN ng a) = fIsN ng (fun ρ => bor a ρ (ev T n a ρ)) := by funext ρ; rw [ev, evE]
    unfold chk at h
    split at h
    · rename_i l o j pos' pos
      simp only [Bool.and_eq_true, decide_eq_true_eq] at h
      obtain ⟨rfl, h2⟩ := h
      have S1 := sndE a X _ C h2
      have hF : PE X (.Compare l [if ng then .IsNot else .Is] [.Constant .none j pos'] pos) (tF X.K (ev T n (.isN ng a))) := by rw [ee]; exact pf_isN S1.b
      exact ⟨hF, bor_F (fun _ => PX.noConfusion) hF, by rw [ee]; exact ptt_isN S1.b, (fun z => nomatch z), (fun z => nomatch z), fun _ _ _ _ _ _ z => nomatch z⟩
    · cases h
  | .chain o1 o2 a b c, X, e, C, h => by
    have ee : ev T n (.chain o1 o2 a b c) = fChain o1 o2 (ev T n a) (ev T n b) (ev T n c) := by funext ρ; rw [ev, evE]
    have hu : X.A.units + 65 < cLine := by have := C.room.un; omega
    unfold chk at h
    split at h
    · rename_i l p1 p2 m r pos
      simp only [Bool.and_eq_true, decide_eq_true_eq] at h
      obtain ⟨⟨⟨⟨rfl, rfl⟩, h3⟩, h4⟩, h5⟩ := h
      have S1 := sndE a X _ C h3
      have S2 := sndE b X _ C h4
      have S3 := sndE c X _ C h5
      have m1 := mark_of (chk_plain b h4) (copOp o1)
      have m2 := mark_of (chk_plain c h5) (copOp o2)
      have hF : PE X (.Compare l [copOp o1, copOp o2] [m, r] pos) (tF X.K (ev T n (.chain o1 o2 a b c))) := by rw [ee]; exact PEimp (pe_chain (cop_ok hu o1) (cop_ok hu o2) S1.f S2.f S3.f (by simp [lastMarks, m1, m2])) fun σ H Q q => chain_in q
      have hT : PT X (.Compare l [copOp o1, copOp o2] [m, r] pos) (tT X.K (ev T n (.chain o1 o2 a b c))) := by
        rw [ee]
        refine PTimp (pt_chain (cop_ok hu o1) (cop_ok hu o2) S1.f S2.f S3.f (by simp [lastMarks, m1, m2])) fun σ H Q ⟨Hf, ρ, d, er, hd, k⟩ => ?_
        refine chain_in ⟨Hf, ρ, _, er, boolOf_some hd, fun v H' Hf' e r => ?_⟩
        cases r
        exact ⟨d, rfl, k H' Hf' e⟩
      exact ⟨hF, bor_F (fun _ => PX.noConfusion) hF, hT, (fun z => nomatch z), (fun z => nomatch z), fun _ _ _ _ _ _ z => nomatch z⟩
    · cases h
  | .ife c a b, X, e, C, h => by
    have ee : ev T n (.ife c a b) = fun ρ => (boolOf (ev T n c ρ)).bind fun x => if x then ev T n a ρ else ev T n b ρ := by funext ρ; rw [ev, evE]
    unfold chk at h
    split at h
    · rename_i tt ll rr pos
      simp only [Bool.and_eq_true] at h
      have Sa := sndE a X _ C h.1.2
      have Sb := sndE b X _ C h.2
      have Sc := sndE c X _ C h.1.1
      have hF : PE X (.IfExp tt ll rr pos) (tF X.K (ev T n (.ife c a b))) := by rw [ee]; exact pf_ife Sc.t Sa.f Sb.f
      exact ⟨hF, bor_F (fun _ => PX.noConfusion) hF, by rw [ee]; exact ptt_ife Sc.t Sa.t Sb.t, (fun z => nomatch z), (fun z => nomatch z), fun _ _ _ _ _ _ z => nomatch z⟩
    · cases h
  | .tup es, X, e, C, h => by
    have ee : ev T n (.tup es) = fun ρ => (evEs T.G (T.run n) es ρ).bind fun ds => if ds.length ≤ 1000 then some (.tuple ds) else none := by funext ρ; rw [ev, evE]
    unfold chk at h
    split at h
    · exact Snd.of (fun _ => PX.noConfusion) (by rw [ee]; exact pf_tup (sndEs es X _ C h)) (fun _ => rfl) rfl
    · cases h
  | .lst es, X, e, C, h => by
    have ee : ev T n (.lst es) = fun ρ => (evEs T.G (T.run n) es ρ).bind fun ds => if ds.length ≤ 1000 then some (.list ds) else none := by funext ρ; rw [ev, evE]
    unfold chk at h
    split at h
    · rename_i l pos
      have hO : PE X (.List l pos) (tO X.K (ev T n (.lst es))) := by rw [ee]; exact po_lst (sndEs es X _ C h)
      have hF : PE X (.List l pos) (tF X.K (ev T n (.lst es))) := PEimp hO fun σ H Q q => by
        refine tO_F (fun ρ d hd => ?_) q
        rw [ee] at hd
        obtain ⟨ds, h1, hd⟩ := Option.bind_eq_some_iff.mp hd
        by_cases c : ds.length ≤ 1000
        · rw [if_pos c] at hd; cases hd; exact ⟨ds, rfl⟩
        · rw [if_neg c] at hd; cases hd
      exact ⟨hF, bor_F (fun _ => PX.noConfusion) hF, pt_of hF fun _ => rfl, (fun z => nomatch z), (fun _ => hO), fun _ _ _ _ _ _ z => nomatch z⟩
    · cases h
  | .ix a i, X, e, C, h => by
    have ee : ev T n (.ix a i) = fun ρ => (bor a ρ (ev T n a ρ)).bind fun x => (ev T n i ρ).bind fun y => ixD x y := by funext ρ; rw [ev, evE]
    unfold chk at h
    split at h
    · simp only [Bool.and_eq_true] at h
      exact Snd.of (fun _ => PX.noConfusion) (by rw [ee]; exact pf_ix (sndE a X _ C h.1).b (sndE i X _ C h.2).f (ix_of (chk_plain i h.2))) (fun _ => rfl) rfl
    · cases h
  | .slc a lo hi, X, e, C, h => by
    have ee : ev T n (.slc a lo hi) = fun ρ => (bor a ρ (ev T n a ρ)).bind fun x => (slP lo (ev T n lo ρ)).bind fun l => (slP hi (ev T n hi ρ)).bind fun h => slD x l h := by funext ρ; rw [ev, evE]
    have part : ∀ (q : PX) (x : Expr), chk T X.N q X.env.scope x = true → (fun ρ => slP q (ev T n q ρ)) = fun ρ => (ev T n q ρ).bind fun l => (intOf l).map some := by
      intro q x hq
      funext ρ
      cases q <;> first | rfl | (unfold chk at hq; cases hq)
    have om : ∀ (q : PX), (match q with | .omit => true | _ => false) = true → (fun ρ => slP q (ev T n q ρ)) = fun _ => some none := by
      intro q hq
      funext ρ
      cases q <;> first | rfl | cases hq
    have fin : ∀ {l : Expr} {x y : Option Expr} {p2 pos : Pos}, chk T X.N a X.env.scope l = true → PO X x (tPO X.K fun ρ => slP lo (ev T n lo ρ)) → PO X y (tPO X.K fun ρ => slP hi (ev T n hi ρ)) → Snd T n X (.slc a lo hi) (.Subscript l (.Slice x y none p2) pos) :=
      fun h1 h2 h3 => Snd.of (fun _ => PX.noConfusion) (by rw [ee]; exact pf_slc (sndE a X _ C h1).b h2 h3) (fun _ => rfl) rfl
    unfold chk at h
    split at h
    · simp only [Bool.and_eq_true] at h
      obtain ⟨⟨h1, h2⟩, h3⟩ := h
      exact fin h1 (by rw [om _ h2]; exact po_noneF) (by rw [om _ h3]; exact po_noneF)
    · simp only [Bool.and_eq_true] at h
      obtain ⟨⟨h1, h2⟩, h3⟩ := h
      exact fin h1 (by rw [part _ _ h2]; exact po_someF (sndE lo X _ C h2).f) (by rw [om _ h3]; exact po_noneF)
    · simp only [Bool.and_eq_true] at h
      obtain ⟨⟨h1, h2⟩, h3⟩ := h
      exact fin h1 (by rw [om _ h2]; exact po_noneF) (by rw [part _ _ h3]; exact po_someF (sndE hi X _ C h3).f)
    · simp only [Bool.and_eq_true] at h
      obtain ⟨⟨h1, h2⟩, h3⟩ := h
      exact fin h1 (by rw [part _ _ h2]; exact po_someF (sndE lo X _ C h2).f) (by rw [part _ _ h3]; exact po_someF (sndE hi X _ C h3).f)
    · cases h
  | .omit, X, e, C, h => by unfold chk at h; cases h
  | .rev a, X, e, C, h => by
    have ee : ev T n (.rev a) = fun ρ => (bor a ρ (ev T n a ρ)).bind revD := by funext ρ; rw [ev, evE]
    unfold chk at h
    split at h
    · simp only [Bool.and_eq_true, decide_eq_true_eq] at h
      obtain ⟨rfl, h2⟩ := h
      exact Snd.of (fun _ => PX.noConfusion) (by rw [ee]; exact pf_revA (sndE a X _ C h2).b) (fun _ => rfl) rfl
    · cases h
  | .call f es, X, e, C, h => by
    have ee : ev T n (.call f es) = fun ρ => (evEs T.G (T.run n) es ρ).bind (T.run n f) := by funext ρ; rw [ev, evE]
    unfold chk at h
    split at h
    · rename_i x p a l pos F hF
      simp only [Bool.and_eq_true, decide_eq_true_eq] at h
      obtain ⟨⟨⟨⟨rfl, h2⟩, h3⟩, h5⟩, h4⟩ := h
      obtain ⟨fa, fd, k1, k2, k3, k4⟩ := C.fn f F hF (by simpa using h5)
      have A := sndEs es X _ C h4
      have pl : plainE a = true := by
        cases es with
        | nil => simp [chks] at h4
        | cons q qs => unfold chks at h4; simp only [Bool.and_eq_true] at h4; exact chk_plain q h4.1
      have pls : ∀ (ps : PXs) (l : List Expr), chks T X.N ps X.env.scope l = true → (backTo pos (starEach l X.env)).any (·.1) = false := by
        intro ps
        induction ps using PXs.rec (motive_1 := fun _ => True) (motive_3 := fun _ => True) with
        | nil => intro l hl; unfold chks at hl; split at hl; · rfl
                 · cases hl
        | cons q qs _ ih =>
          intro l hl
          unfold chks at hl
          split at hl
          · rename_i e' es'
            simp only [Bool.and_eq_true] at hl
            rw [star_of (chk_plain q hl.1)]
            show (false || (backTo pos (starEach es' X.env)).any (·.1)) = false
            rw [ih _ hl.2]; rfl
          · cases hl
        | _ => trivial
      have pl2 : (backTo pos (starEach l X.env)).any (·.1) = false := by
        cases es with
        | nil => simp [chks] at h4
        | cons q qs => unfold chks at h4; simp only [Bool.and_eq_true] at h4; exact pls qs l h4.2
      exact Snd.of (fun _ => PX.noConfusion) (by rw [ee]; exact PEimp (pe_call k4 C.room (gl_of h2) k1 k2 k3 .nil pass0 A (dbg_of h3).1 (star_of pl _ _) pl2) fun σ H Q q => call_in q) (fun _ => rfl) rfl
    · cases h
  | .blt b a, X, e, C, h => by
    have ee : ev T n (.blt b a) = fun ρ => (bor a ρ (ev T n a ρ)).bind fun x => blt b x := by funext ρ; rw [ev, evE]
    unfold chk at h
    split at h
    · rename_i x p l pos
      simp only [Bool.and_eq_true, decide_eq_true_eq] at h
      obtain ⟨⟨rfl, h2⟩, h3⟩ := h
      have S := sndE a X _ C h3
      have st := fun es => star_of (chk_plain a h3) es X.env
      have hm := C.blt _ (bltStr_mem b)
      have A := pa_one S.b (st [])
      refine Snd.of (fun _ => PX.noConfusion) ?_ (fun _ => rfl) rfl
      rw [ee]
      cases b with
      | len => exact PEimp (pe_callB blt_len (gl_of h2) hm PySem.boot_len A (by decide) (by decide) (st []) rfl) fun σ H Q q => blt_in q
      | int => exact PEimp (pe_callTy blt_int (gl_of h2) hm PyProof.Rows.boot_int A (by decide) (by decide) (st []) rfl) fun σ H Q q => blt_in q
      | tuple => exact PEimp (pe_callTy blt_tuple (gl_of h2) hm PyProof.Rows.boot_tuple A (by decide) (by decide) (st []) rfl) fun σ H Q q => blt_in q
      | list => exact PEimp (pe_callTy blt_list (gl_of h2) hm PyProof.Rows.boot_list A (by decide) (by decide) (st []) rfl) fun σ H Q q => blt_in q
      | all => exact PEimp (pe_callB (blt_all C.calm) (gl_of h2) hm PyProof.Rows.boot_all A (by decide) (by decide) (st []) rfl) fun σ H Q q => blt_in q
      | any => exact PEimp (pe_callB (blt_any C.calm) (gl_of h2) hm PyProof.Rows.boot_any A (by decide) (by decide) (st []) rfl) fun σ H Q q => blt_in q
      | sorted => exact PEimp (pe_callB (blt_sorted (by have := C.room.un; omega)) (gl_of h2) hm PyProof.Rows.boot_sorted A (by decide) (by decide) (st []) rfl) fun σ H Q q => blt_in q
      | str => exact PEimp (pe_callTy blt_str (gl_of h2) hm PyProof.Rows.boot_str A (by decide) (by decide) (st []) rfl) fun σ H Q q => blt_in q
    · cases h
  | .isI a t, X, e, C, h => by
    have ee : ev T n (.isI a t) = fun ρ => (bor a ρ (ev T n a ρ)).map fun x => .bool (isTy t x) := by funext ρ; rw [ev, evE]
    unfold chk at h
    split at h
    · simp only [Bool.and_eq_true, decide_eq_true_eq] at h
      obtain ⟨⟨⟨⟨rfl, rfl⟩, h3⟩, h4⟩, h5⟩ := h
      have hm := C.blt "isinstance" (by unfold bNames; simp)
      exact Snd.of (fun _ => PX.noConfusion) (by rw [ee]; exact pf_isI (gl_of h3) hm (gl_of h4) (C.blt _ (tyStr_mem t)) (sndE a X _ C h5).b (fun es => star_of (chk_plain a h5) es _)) (fun _ => rfl) rfl
    · cases h
  | .join o a, X, e, C, h => by
    have ee : ev T n (.join o a) = fun ρ => (ev T n o ρ).bind fun x => (bor a ρ (ev T n a ρ)).bind fun y => joinD x y := by
      funext ρ; rw [ev, evE]
    have hu : X.A.units + 65 < cLine := by have := C.room.un; omega
    unfold chk at h
    split at h
    · rename_i l m apos r pos
      simp only [Bool.and_eq_true, decide_eq_true_eq] at h
      obtain ⟨⟨⟨⟨rfl, h2⟩, h3⟩, h4⟩, h5⟩ := h
      have st := fun es => star_of (chk_plain a h5) es X.env
      refine Snd.of (fun _ => PX.noConfusion) ?_ (fun _ => rfl) rfl
      rw [ee]
      refine PEimp (pe_bm PySem.F.plainAttrs_str PySem.F.slot_str_join PySem.F.type_str_join joinD_ok (sndE o X _ C h4).f (pa_cons (sndE a X _ C h5).b pa_nil (st [])) (base_of h2 _ _ _) (by rw [st]; rfl) h3 (st []) rfl) fun σ H Q ⟨Hf, ρ, d, er, hd, k⟩ => ?_
      obtain ⟨x, h6, hd⟩ := Option.bind_eq_some_iff.mp hd
      obtain ⟨y, h7, hd⟩ := Option.bind_eq_some_iff.mp hd
      refine ⟨Hf, ρ, x, er, h6, fun v H1 Hf1 e1 r1 => ⟨?_, Hf1, ρ, y, er.ext e1, h7, fun w H2 Hf2 e2 r2 => ⟨w, Hf2, x, y, d, rfl, e2.sub, .inl (r1.mono e2.fr _ _), r2, hd, (k.ext e1).ext e2⟩⟩⟩
      cases x with
      | str s =>
        cases r1
        rfl
      | _ => exact nomatch hd
    · cases h
  | .index o a, X, e, C, h => by
    have ee : ev T n (.index o a) = fun ρ => (bor o ρ (ev T n o ρ)).bind fun x => (ev T n a ρ).bind fun y => idxD x y := by
      funext ρ; rw [ev, evE]
    have hu : X.A.units + 65 < cLine := by have := C.room.un; omega
    unfold chk at h
    split at h
    · rename_i l m apos r pos
      simp only [Bool.and_eq_true, decide_eq_true_eq] at h
      obtain ⟨⟨⟨⟨rfl, h2⟩, h3⟩, h4⟩, h5⟩ := h
      have st := fun es => star_of (chk_plain a h5) es X.env
      refine Snd.of (fun _ => PX.noConfusion) ?_ (fun _ => rfl) rfl
      rw [ee]
      refine PEimp (pe_bm PySem.F.plainAttrs_list PySem.F.slot_list_index PySem.F.type_list_index (idxD_ok hu) (sndE o X _ C h4).b (pa_cons (sndE a X _ C h5).f pa_nil (st [])) (base_of h2 _ _ _) (by rw [st]; rfl) h3 (st []) rfl) fun σ H Q ⟨Hf, ρ, d, er, hd, k⟩ => ?_
      obtain ⟨x, h6, hd⟩ := Option.bind_eq_some_iff.mp hd
      obtain ⟨y, h7, hd⟩ := Option.bind_eq_some_iff.mp hd
      refine ⟨Hf, ρ, x, er, h6, fun v H1 Hf1 e1 r1 => ⟨?_, Hf1, ρ, y, er.ext e1, h7, fun w H2 Hf2 e2 r2 => ⟨w, Hf2, x, y, d, rfl, e2.sub, r1.ext e2, .inl r2, hd, (k.ext e1).ext e2⟩⟩⟩
      cases x with
      | list ds =>
        obtain ⟨p, vs, rfl, s1, _, _⟩ := r1.list e1.sub
        exact .inl ⟨rfl, vs, s1⟩
      | _ => cases y <;> exact nomatch hd
    · cases h
  | .lc ws elt tg it c, X, e, C, h => by
    have ee : ev T n (.lc ws elt tg it c) = fun ρ => (evI T.G (T.run n) true it ρ).bind fun ds => (compR tg (fun ρ1 => boolOf (ev T n c ρ1)) (fun ρ1 => ev T n elt ρ1) (wipeR ρ ws) ds).map .list := by funext ρ; rw [ev, evE]
    unfold chk at h
    split at h
    · rename_i el t i ifs scope pos
      simp only [Bool.and_eq_true, decide_eq_true_eq] at h
      obtain ⟨⟨⟨⟨⟨⟨h1, h2⟩, h3⟩, h4⟩, h5⟩, h6⟩, h7⟩ := h
      have B := blkOk_by h2
      have hTs : ∀ (s : Shared) (H : Hp) (c' : Addr) (cl : List (Str × Addr)) (fp : List Addr), PTs (X.blk s H scope (compEnvC scope cl c' X.env) fp) ifs (tT X.K (ev T n c)) := by
        intro s H c' cl fp
        split at h6
        · split at h6
          · have e2 : ev T n (.lit (.bool true)) = fun _ => some (.bool true) := by funext ρ; rw [ev, evE]
            rw [e2]
            refine PTsimp pts_nil fun σ H Q ⟨Hf, ρ, b, er, hb, k⟩ => ?_
            cases hb
            exact k H Hf (Ext.refl er.sub)
          · cases h6
        · exact pts_one (sndE c (X.blk s H scope (compEnvC scope cl c' X.env) fp) _ (C.blk s H cl c' fp B.kind) h6).t
        · cases h6
      have hL : LcOk X el t i ifs scope (ev T n (.lc ws elt tg it c)) := by
        refine ⟨ownOf X.N scope, tI X.K true (evI T.G (T.run n) true it), tgG X.K tg, tT X.K (ev T n c), tF X.K (ev T n elt), sndI it true X t i C h3, B,
          (fun s H c' cl fp => tg_of (X := X.blk s H scope (compEnvC scope cl c' X.env) fp) rfl C.nd rfl (fun x hx => hx) C.calm h4), hTs,
          (fun s H c' cl fp => (sndE elt (X.blk s H scope (compEnvC scope cl c' X.env) fp) el (C.blk s H cl c' fp B.kind) h7).f), fold_of (chkI_plain it h3) _, fun σ H Q q => ?_⟩
        rw [ee] at q
        rw [← h1]
        exact lc_in (fun i hi => of_decide_eq_true (List.all_eq_true.mp h5 i hi)) q
      have hO : PE X (.ListComp el [⟨t, i, ifs, 0⟩] scope pos) (tO X.K (ev T n (.lc ws elt tg it c))) := by
        obtain ⟨own, wi, g, tt, te, a1, a2, a3, a4, a5, a6, a7⟩ := hL
        exact PEimp (pe_lc C.calm C.nd a1 a2 a3 a4 a5 a6) a7
      have hF : PE X (.ListComp el [⟨t, i, ifs, 0⟩] scope pos) (tF X.K (ev T n (.lc ws elt tg it c))) := PEimp hO fun σ H Q q => by
        refine tO_F (fun ρ d hd => ?_) q
        rw [ee] at hd
        obtain ⟨ds, h1, hd⟩ := Option.bind_eq_some_iff.mp hd
        obtain ⟨ds', h1, rfl⟩ := Option.map_eq_some_iff.mp hd
        exact ⟨ds', rfl⟩
      exact ⟨hF, bor_F (fun _ => PX.noConfusion) hF, pt_of hF fun _ => rfl, (fun z => nomatch z), (fun _ => hO), fun _ _ _ _ _ _ z => by cases z; exact hL⟩
    · cases h
  | .pick ks es k, X, e, C, h => by
    have ee : ev T n (.pick ks es k) = fun ρ => (evEs T.G (T.run n) es ρ).bind fun ds => (ev T n k ρ).bind fun x => pickX ks ds x := by funext ρ; rw [ev, evE]
    have hu : X.A.units + 65 < cLine := by have := C.room.un; omega
    unfold chk at h
    split at h
    · rename_i keys vals dpos r pos
      simp only [Bool.and_eq_true, decide_eq_true_eq] at h
      obtain ⟨⟨⟨⟨h1, h2⟩, h3⟩, h4⟩, h5⟩ := h
      obtain ⟨trs, P, O⟩ := sndPs es X dpos ks keys vals C h1 h3 h4
      exact Snd.of (fun _ => PX.noConfusion) (by rw [ee]; exact pf_pick hu (pd_of P O h1 h2 h3) (sndE k X _ C h5).f (ix_of (chk_plain k h5))) (fun _ => rfl) rfl
    · cases h
  | .getd ks es k d, X, e, C, h => by
    have ee : ev T n (.getd ks es k d) = fun ρ => (evEs T.G (T.run n) es ρ).bind fun ds => (ev T n k ρ).bind fun x => (ev T n d ρ).bind fun y => getX ks ds x y := by funext ρ; rw [ev, evE]
    have hu : X.A.units + 65 < cLine := by have := C.room.un; omega
    unfold chk at h
    split at h
    · rename_i keys vals dpos m apos r f pos
      simp only [Bool.and_eq_true, decide_eq_true_eq] at h
      obtain ⟨⟨⟨⟨⟨⟨⟨rfl, h0⟩, h1⟩, h2⟩, h3⟩, h4⟩, h5⟩, h6⟩ := h
      obtain ⟨trs, P, O⟩ := sndPs es X dpos ks keys vals C h1 h3 h4
      have s1 := fun es => star_of (chk_plain k h5) es X.env
      have s2 := fun es => star_of (chk_plain d h6) es X.env
      exact Snd.of (fun _ => PX.noConfusion) (by rw [ee]; exact pf_getd hu (pd_of P O h1 h2 h3) (sndE k X _ C h5).f (sndE d X _ C h6).f ⟨rfl, by rw [s1, s2]; rfl, h0, by rw [s1, s2]; rfl⟩) (fun _ => rfl) rfl
    · cases h
  | .pickV i k, X, e, C, h => by
    have ee : ev T n (.pickV i k) = fun ρ => (ev T n k ρ).bind fun x => pickS ρ i x := by funext ρ; rw [ev, evE]
    have hu : X.A.units + 65 < cLine := by have := C.room.un; omega
    unfold chk at h
    split at h
    · rename_i x xpos r pos
      simp only [Bool.and_eq_true, decide_eq_true_eq] at h
      obtain ⟨⟨⟨h1, h2⟩, h3⟩, h4⟩ := h
      have hd := dbg_of h3
      exact Snd.of (fun _ => PX.noConfusion) (by rw [ee]; exact pd_var (pe_var h1 (vis_of h2) hd.1 hd.2) hu (sndE k X _ C h4).f (ix_of (chk_plain k h4))) (fun _ => rfl) rfl
    · cases h
  | .rngL a, X, e, C, h => by
    have ee : ev T n (.rngL a) = fun ρ => (ev T n a ρ).bind fun x => (intOf x).bind fun n => if rngOk n then some (.list (rgD n)) else none := by funext ρ; rw [ev, evE]
    unfold chk at h
    split at h
    · simp only [Bool.and_eq_true, decide_eq_true_eq] at h
      obtain ⟨⟨⟨⟨rfl, rfl⟩, h3⟩, h4⟩, h5⟩ := h
      exact Snd.of (fun _ => PX.noConfusion) (by rw [ee]; exact pf_rngL C.calm (gl_of h3) (C.blt "list" (by unfold bNames; simp)) (gl_of h4) (C.blt "range" (by unfold bNames; simp)) (sndE a X _ C h5).f (fun es => star_of (chk_plain a h5) es _)) (fun _ => rfl) rfl
    · cases h
  | .inG neg k g, X, e, C, h => by
    unfold chk at h
    split at h
    · rename_i l o x xp pos y d hg
      simp only [Bool.and_eq_true, decide_eq_true_eq] at h
      obtain ⟨⟨⟨⟨⟨rfl, rfl⟩, h2⟩, h3⟩, h4⟩, h5⟩ := h
      obtain ⟨u, v, g1, g2, g3⟩ := C.glb g x d hg
      cases d with
      | dict kvs =>
        have D : GDic X.K X.w v kvs := by
          rcases g3 with g3 | ⟨kvs', e, D⟩
          · cases g3 X.H_0
          · cases e; exact D
        have ee : ev T n (.inG neg k g) = fun ρ => (ev T n k ρ).bind fun x => gdHas neg (some (.dict kvs)) x := by
          funext ρ; rw [ev, evE, Tab.G, hg]; rfl
        have S := sndE k X _ C h5
        have hb : PE X (.Name x xp) (tC v) := pe_glob (gl_of h2) g1 g2 (dbg_of h3).1
        have hF : PE X (.Compare l [if neg then .NotIn else .In] [.Name x xp] pos) (tF X.K (ev T n (.inG neg k g))) := by rw [ee]; exact pf_inG D S.f hb rfl
        exact ⟨hF, bor_F (fun _ => PX.noConfusion) hF, by rw [ee]; exact ptt_inG D S.f hb rfl, (fun z => nomatch z), (fun z => nomatch z), fun _ _ _ _ _ _ z => nomatch z⟩
      | _ => cases h4
    · cases h
  | .pickG g k, X, e, C, h => by
    unfold chk at h
    split at h
    · rename_i x xp r pos y d hg
      simp only [Bool.and_eq_true, decide_eq_true_eq] at h
      obtain ⟨⟨⟨⟨rfl, h2⟩, h3⟩, h4⟩, h5⟩ := h
      obtain ⟨u, v, g1, g2, g3⟩ := C.glb g x d hg
      cases d with
      | dict kvs =>
        have D : GDic X.K X.w v kvs := by
          rcases g3 with g3 | ⟨kvs', e, D⟩
          · cases g3 X.H_0
          · cases e; exact D
        have ee : ev T n (.pickG g k) = fun ρ => (ev T n k ρ).bind fun x => gdGet (some (.dict kvs)) x := by
          funext ρ; rw [ev, evE, Tab.G, hg]; rfl
        have S := sndE k X _ C h5
        have hb : PE X (.Name x xp) (tC v) := pe_glob (gl_of h2) g1 g2 (dbg_of h3).1
        exact Snd.of (fun _ => PX.noConfusion) (by rw [ee]; exact pf_pickG D S.f hb (ix_of (chk_plain k h5))) (fun _ => rfl) rfl
      | _ => cases h4
    · cases h
  | .sset a, X, e, C, h => by
    have ee : ev T n (.sset a) = fun ρ => (bor a ρ (ev T n a ρ)).bind ssetD := by funext ρ; rw [ev, evE]
    have hu : X.A.units + 65 < cLine := by have := C.room.un; omega
    unfold chk at h
    split at h
    · simp only [Bool.and_eq_true, decide_eq_true_eq] at h
      obtain ⟨⟨⟨⟨rfl, rfl⟩, h3⟩, h4⟩, h5⟩ := h
      exact Snd.of (fun _ => PX.noConfusion) (by rw [ee]; exact pf_sset C.calm hu (gl_of h3) (C.blt "sorted" (by unfold bNames; simp)) (gl_of h4) (C.blt "set" (by unfold bNames; simp)) (sndE a X _ C h5).b (fun es => star_of (chk_plain a h5) es _)) (fun _ => rfl) rfl
    · cases h
theorem sndPs : ∀ (ps : PXs) (X : Cx) (pos : Pos) (ks : List Str) (keys : List (Option Expr)) (vals : List Expr), Cok T n X → dkB ks keys = true → keys.length = vals.length → chks T X.N ps X.env.scope vals = true → ∃ trs, PPs X pos keys vals trs ∧ PrOk X.K trs ks (evEs T.G (T.run n) ps)
  | .nil, X, pos, ks, keys, vals, C, h1, h2, h3 => by
    unfold chks at h3
    split at h3
    · have hk : keys = [] := List.eq_nil_of_length_eq_zero h2
      subst hk
      have hk : ks = [] := List.eq_nil_of_length_eq_zero (dkB_len h1).1.symm
      subst hk
      have ee : evEs T.G (T.run n) .nil = fun _ => some [] := by funext ρ; rw [evEs]
      exact ⟨[], pps_nil, by rw [ee]; exact pr_nil⟩
    · cases h3
  | .cons p ps, X, pos, ks, keys, vals, C, h1, h2, h3 => by
    unfold chks at h3
    split at h3
    · rename_i e es
      simp only [Bool.and_eq_true] at h3
      unfold dkB at h1
      split at h1
      · cases h2
      · rename_i k ks' y j kp es'
        simp only [Bool.and_eq_true, decide_eq_true_eq] at h1
        obtain ⟨rfl, h1⟩ := h1
        obtain ⟨trs, P, O⟩ := sndPs ps X pos ks' es' es C h1 (by simpa using h2) h3.2
        have ee : evEs T.G (T.run n) (.cons p ps) = fun ρ => (ev T n p ρ).bind fun d => (evEs T.G (T.run n) ps ρ).map (d :: ·) := by funext ρ; rw [evEs]
        exact ⟨_, pps_cons pe_str (sndE p X _ C h3.1).f P, by rw [ee]; exact pr_cons O⟩
      · cases h1
    · cases h3
theorem sndEs : ∀ (ps : PXs) (X : Cx) (es : List Expr), Cok T n X → chks T X.N ps X.env.scope es = true → PA X es (tAs X.K (evEs T.G (T.run n) ps))
  | .nil, X, es, C, h => by
    have ee : evEs T.G (T.run n) .nil = fun _ => some [] := by funext ρ; rw [evEs]
    unfold chks at h
    split at h
    · rw [ee]; exact pa_nilF
    · cases h
  | .cons p ps, X, es, C, h => by
    have ee : evEs T.G (T.run n) (.cons p ps) = fun ρ => (ev T n p ρ).bind fun d => (evEs T.G (T.run n) ps ρ).map (d :: ·) := by funext ρ; rw [evEs]
    unfold chks at h
    split at h
    · simp only [Bool.and_eq_true] at h
      rw [ee]
      exact pa_consF (sndE p X _ C h.1).f (sndEs ps X _ C h.2) (star_of (chk_plain p h.1) _ _)
    · cases h
theorem sndI : ∀ (it : PIt) (b : Bool) (X : Cx) (tg e : Expr), Cok T n X → chkI T X.N it X.env.scope tg e = true → PI X tg e (tI X.K b (evI T.G (T.run n) b it))
  | .seq a, b, X, tg, e, C, h => by
    unfold chkI at h
    have S := sndE a X e C h
    cases b with
    | true =>
      have ee : evI T.G (T.run n) true (.seq a) = fun ρ => (bor a ρ (ev T n a ρ)).bind seqD := by funext ρ; rw [evI]; rfl
      rw [ee]; exact pi_seqB S.b
    | false =>
      have ee : evI T.G (T.run n) false (.seq a) = fun ρ => (ev T n a ρ).bind seqD := by funext ρ; rw [evI]; rfl
      rw [ee]; exact pi_seqF S.f
  | .rng1 a, b, X, tg, e, C, h => by
    have ee : evI T.G (T.run n) b (.rng1 a) = fun ρ => (ev T n a ρ).bind fun x => (intOf x).bind fun n => if rngOk n then some (rgD n) else none := by funext ρ; rw [evI]
    unfold chkI at h
    split at h
    · simp only [Bool.and_eq_true, decide_eq_true_eq] at h
      obtain ⟨⟨rfl, h2⟩, h3⟩ := h
      rw [ee]
      exact pi_rng1 (gl_of h2) (C.blt "range" (by unfold bNames; simp)) (sndE a X _ C h3).f (fun es => star_of (chk_plain a h3) es _)
    · cases h
  | .rng2 a c, b, X, tg, e, C, h => by
    have ee : evI T.G (T.run n) b (.rng2 a c) = fun ρ => (ev T n a ρ).bind fun x => (ev T n c ρ).bind fun y => (intOf x).bind fun n => (intOf y).bind fun m => if rngOk n && rngOk m && rngOk (m - n) then some (rg2 n m) else none := by funext ρ; rw [evI]
    unfold chkI at h
    split at h
    · simp only [Bool.and_eq_true, decide_eq_true_eq] at h
      obtain ⟨⟨⟨rfl, h2⟩, h3⟩, h4⟩ := h
      rw [ee]
      exact pi_rng2 (gl_of h2) (C.blt "range" (by unfold bNames; simp)) (sndE a X _ C h3).f (sndE c X _ C h4).f (fun es => star_of (chk_plain a h3) es _) (fun es => star_of (chk_plain c h4) es _)
    · cases h
  | .enum a, b, X, tg, e, C, h => by
    unfold chkI at h
    split at h
    · simp only [Bool.and_eq_true, decide_eq_true_eq] at h
      obtain ⟨⟨rfl, h2⟩, h3⟩ := h
      cases b with
      | true =>
        have ee : evI T.G (T.run n) true (.enum a) = fun ρ => (bor a ρ (ev T n a ρ)).bind fun x => (seqD x).map (enumD 0) := by funext ρ; rw [evI]; rfl
        rw [ee]
        exact pi_enumB (gl_of h2) (C.blt "enumerate" (by unfold bNames; simp)) (sndE a X _ C h3).b (by rw [star_of (chk_plain a h3)]; rfl)
      | false =>
        have ee : evI T.G (T.run n) false (.enum a) = fun ρ => (ev T n a ρ).bind fun x => (seqD x).map (enumD 0) := by funext ρ; rw [evI]; rfl
        rw [ee]
        exact pi_enumF (gl_of h2) (C.blt "enumerate" (by unfold bNames; simp)) (sndE a X _ C h3).f (by rw [star_of (chk_plain a h3)]; rfl)
    · cases h
  | .zip a c, b, X, tg, e, C, h => by
    have ee : evI T.G (T.run n) b (.zip a c) = fun ρ => (ev T n a ρ).bind fun x => (ev T n c ρ).bind fun y => zipDD x y := by funext ρ; rw [evI]
    unfold chkI at h
    split at h
    · simp only [Bool.and_eq_true, decide_eq_true_eq] at h
      obtain ⟨⟨⟨rfl, h2⟩, h3⟩, h4⟩ := h
      rw [ee]
      exact pi_zipF (gl_of h2) (C.blt "zip" (by unfold bNames; simp)) (sndE a X _ C h3).f (sndE c X _ C h4).f (fun es => star_of (chk_plain a h3) es _) (fun es => star_of (chk_plain c h4) es _)
    · cases h
end
end Ev

/-! EvI: the look is sound for statements and defs. -/
namespace Ev
variable [Memo]
open PySem PySem.Spec PyProof.Rows L2
section
variable (T : Tab) (N : List Str)
def isTupE : Expr → Bool
  | .Tuple _ _ _ => true
  | _ => false
/-- lambda _law_k: .. -/
def lamArgs : Arguments → Bool
  | ⟨[], [⟨x, _, _⟩], none, [], [], none, []⟩ => decide (x = "_law_k")
  | _ => false
def lamB (sc scope : Scope) (fr : List Str) (js : List Nat) (params : Arguments) : Bool :=
  lamArgs params && NdefX.nscB ("_law_k" :: fr) ["_law_k"] fr scope && NdefX.ndefB sc scope fr && decide (js.map (fun j => N[j]?) = fr.map some)
/-- sorted(range(a), key=lambda _law_k: b) -/
def chkK (a : PX) (js : List Nat) (b : PX) (sc : Scope) (ln : List Str) (v : Expr) : Bool := match v, ln with
  | .Call (.Name y _) [.Call (.Name z _) [l] [] _] [⟨some w, .Lambda params body scope _, _⟩] _, q :: fr => decide (y = "sorted") && decide (z = "range") && decide (w = "key") && decide (q = "_law_k") && glB sc y && glB sc z && chk T N a sc l && lamB N sc scope fr js params && chk T ("_law_k" :: fr) b scope body
  | _, _ => false
mutual
def chkS : QS → Scope → Stmt → Bool
  | .set _ i e, sc, st => match st with
    | .Assign [.Name x _] v _ => decide (N[i]? = some x) && locB sc x && chk T N e sc v
    | _ => false
  | .setO _ i e, sc, st => match st with
    | .Assign [.Name x _] v _ => decide (N[i]? = some x) && locB sc x && chk T N e sc v && isNew e
    | _ => false
  | .setT _ is e, sc, st => match st with
    | .Assign [.Tuple ts _ _] v _ => tgBs N sc (fun _ => true) is ts && chk T N e sc v && !isTupE v && !isLc v
    | _ => false
  | .setD _ i ks es, sc, st => match st with
    | .Assign [.Name x _] (.Dict keys vals _) _ => decide (N[i]? = some x) && locB sc x && dkB ks keys && dkOk ks && decide (keys.length = vals.length) && chks T N es sc vals
    | _ => false
  | .app _ i e, sc, st => match st with
    | .Expr (.Call (.Attribute (.Name x _) m apos) [a] [] pos) _ => decide (m = "append") && decide (N[i]? = some x) && visB sc x && !dbgB x && (apos.endLine == pos.line) && chk T N e sc a
    | _ => false
  | .ext _ i e, sc, st => match st with
    | .Expr (.Call (.Attribute (.Name x _) m apos) [a] [] pos) _ => decide (m = "extend") && decide (N[i]? = some x) && visB sc x && !dbgB x && (apos.endLine == pos.line) && chk T N e sc a
    | _ => false
  | .iff _ c a b, sc, st => match st with
    | .If t l r _ => chk T N c sc t && chkSs a sc l && chkSs b sc r
    | _ => false
  | .for _ tg it b, sc, st => match st with
    | .For t i l [] _ => chkI T N it sc t i && chkT N sc (fun _ => true) tg t && chkSs b sc l
    | _ => false
  | .ret _ e, sc, st => match st with
    | .Return (some v) _ => chk T N e sc v
    | _ => false
  | .srt _ i tup a js ln b, sc, st => match st with
    | .Assign [.Name x _] v _ => decide (N[i]? = some x) && locB sc x && (match tup, v with
      | false, v => chkK T N a js b sc ln v
      | true, .Call (.Name y _) [v] [] _ => decide (y = "tuple") && glB sc y && chkK T N a js b sc ln v
      | _, _ => false)
    | _ => false
  | .retN, _, st => match st with
    | .Return none _ => true
    | _ => false
  | .pass, _, st => match st with
    | .Pass _ => true
    | .Expr (.Constant (.str _) _ _) _ => true
    | _ => false
def chkSs : QSs → Scope → List Stmt → Bool
  | .nil, _, st => match st with
    | [] => true
    | _ => false
  | .cons p ps, sc, st => match st with
    | s :: r => chkS p sc s && chkSs ps sc r
    | _ => false
end
end
/-- what is wanted behind a statement -/
def Fin (K : PySem.W.Frag) (H0 Hf0 Hf : Hp) (D : Ends) : Out → Prop
  | .nx ρ' => ∀ σ' H' Hf', SR K H0 Hf0 σ' H' Hf' ρ' → Same Hf Hf' → D.nx σ' H'
  | .rt d => ∀ v H' Hf', Ext H0 Hf0 H' Hf' → Rp K Hf' v d → D.rt v H'
def tS (K : PySem.W.Frag) (f : Rho → Option Out) : TS := fun D σ H => ∃ H0 Hf0 Hf ρ o, SR K H0 Hf0 σ H Hf ρ ∧ f ρ = some o ∧ Fin K H0 Hf0 Hf D o
theorem Fin.mono {K : PySem.W.Frag} {H0 Hf0 Hf Hf' : Hp} {D : Ends} {o : Out} (h : Fin K H0 Hf0 Hf D o) (s : Same Hf Hf') : Fin K H0 Hf0 Hf' D o := by
  cases o with
  | nx ρ' => exact fun σ' H' Hf2 r s2 => h σ' H' Hf2 r (s.trans s2)
  | rt d => exact h
section
variable {T : Tab} {n : Nat} {X : Cx}
theorem PSimp {st : Stmt} {t t' : TS} (h : PS X st t) (i : ∀ D σ H, t' D σ H → t D σ H) : PS X st t' := ⟨fun pins s σ H D I q => h.run pins s σ H D I (i _ _ _ q)⟩
theorem PSsimp {st : List Stmt} {t t' : TS} (h : PSs X st t) (i : ∀ D σ H, t' D σ H → t D σ H) : PSs X st t' := ⟨fun pins s σ H D I q => h.run pins s σ H D I (i _ _ _ q)⟩
theorem sw_no {v : Expr} (h : isLc v = false) (hp : plainE v = true) (o : Option Expr) (l : Nat) (env : Env) : swapsWith v o l env = pure false := by
  cases v <;> first | rfl | (cases h; done) | (cases hp; done)
theorem chk_lc {p : PX} {N : List Str} {sc : Scope} {el : Expr} {gs : List Comprehension} {scope : Scope} {pos : Pos} (h : chk T N p sc (.ListComp el gs scope pos) = true) : ∃ t i ifs, gs = [⟨t, i, ifs, 0⟩] := by
  cases p <;> try (simp [chk] at h; done)
  unfold chk at h
  split at h
  · rename_i he; cases he; exact ⟨_, _, _, rfl⟩
  · cases h
theorem sw_eq {el : Expr} {gs : List Comprehension} {scope : Scope} {pos py : Pos} {y : Str} {l : Nat} {env : Env} (hk : env.scope.kind = .function) (hs : ¬ (env.scope.names.lookup y = some .local ∧ (py.line == pos.line) = true ∧ (scope.names.any fun (n, k) => n == y && (k == .local || k == .cell)) = false)) :
    swapsWith (.ListComp el gs scope pos) (some (.Name y py)) l env = pure false := by
  have hb : env.blockKind = .function := by unfold Env.blockKind; rw [hk]; rfl
  have hkk : env.kindOf y = env.scope.names.lookup y := rfl
  unfold swapsWith
  simp only [hb, hkk, Expr.pos]
  by_cases h1 : env.scope.names.lookup y = some .local
  · by_cases h2 : (py.line == pos.line) = true
    · have h3 : (scope.names.any fun (n, k) => n == y && (k == .local || k == .cell)) = true := by
        cases q : (scope.names.any fun (n, k) => n == y && (k == .local || k == .cell)) with
        | true => rfl
        | false => exact absurd ⟨h1, h2, q⟩ hs
      rw [h3]
      simp
    · simp [Bool.eq_false_iff.mpr h2]
  · have h4 : (env.scope.names.lookup y == some NameKind.local) = false := by
      cases q : env.scope.names.lookup y with
      | none => rfl
      | some k => cases k <;> first | rfl | exact absurd q h1
    simp [h4]
/-- name = value -/
theorem set_any {p : PX} {x : Str} {py pos : Pos} {v : Expr} {i : Nat} {t : TE} (C : Cok T n X) (hf : X.fn = fun _ => true) (hi : X.N[i]? = some x) (hx : locB X.env.scope x = true) (hc : chk T X.N p X.env.scope v = true) (S : Snd T n X p v) (ht : PE X v t)
    (hl : ∀ σ H Q, isLc v = true → t σ H Q → tO X.K (ev T n p) σ H Q) : PS X (.Assign [.Name x py] v pos) (tAsg t (gName i)) := by
  by_cases hv : isLc v = true
  · cases v with
    | ListComp el gs scope lp =>
      obtain ⟨t', i', ifs, rfl⟩ := chk_lc hc
      obtain ⟨own, wi, g, tt, te, a1, a2, a3, a4, a5, a6, a7⟩ := S.l _ _ _ _ _ _ rfl
      by_cases hs : X.env.scope.names.lookup x = some .local ∧ (py.line == lp.line) = true ∧ (scope.names.any fun (n, k) => n == x && (k == .local || k == .cell)) = false
      · refine PSimp (ps_setLc (i := i) C.calm C.nd hi hs.1 (sw_true C.kind hs.1 hs.2.1 hs.2.2) a1 a2 a3 a4 a5 a6) fun D σ H q => ?_
        exact a7 _ _ _ (hl _ _ _ rfl q)
      · exact ps_set (i := i) C.nd hi (loc_of hx) ht (sw_eq C.kind hs) (.inl (by rw [hf]))
    | _ => cases hv
  · exact ps_set (i := i) C.nd hi (loc_of hx) ht (sw_no (Bool.eq_false_iff.mpr hv) (chk_plain p hc) _ _ _) (.inl (by rw [hf]))
theorem lc_list {p : PX} {v : Expr} {N : List Str} {sc : Scope} (h : chk T N p sc v = true) (hv : isLc v = true) : ∀ ρ d, ev T n p ρ = some d → ∃ ds, d = .list ds := by
  cases v with
  | ListComp el gs scope lp =>
    cases p <;> try (simp [chk] at h; done)
    intro ρ d hd
    rw [ev, evE] at hd
    obtain ⟨ds, h1, hd⟩ := Option.bind_eq_some_iff.mp hd
    obtain ⟨ds', h1, rfl⟩ := Option.map_eq_some_iff.mp hd
    exact ⟨ds', rfl⟩
  | _ => cases hv
end
section
variable {T : Tab} {n : Nat} {X : Cx}
abbrev evs (T : Tab) (n : Nat) (p : QS) : Rho → Option Out := evS T.G (T.run n) p
abbrev evss (T : Tab) (n : Nat) (p : QSs) : Rho → Option Out := evSs T.G (T.run n) p
theorem for_in {fi : Rho → Option (List PyData)} {tg : Tg} {fb : Rho → Option Out} {fz : List Nat} {D : Ends} {σ : L2.St} {H : Hp} {K : PySem.W.Frag}
    (h : tS K (fun ρ => (fi (frzs fz ρ)).bind fun ds => loopR (fun d ρ1 => (asg tg d ρ1).bind fun ρ2 => fb ρ2) ds (frzs fz ρ)) D σ H) : tFor (tI K false fi) (tgG K tg) (tS K fb) D σ H := by
  obtain ⟨H0, Hf0, Hf, ρ, o, sr, hd, fin⟩ := h
  obtain ⟨ds, h1, hd⟩ := Option.bind_eq_some_iff.mp hd
  obtain ⟨Hfz, srz, sz⟩ := sr.frzs fz
  have fin := fin.mono sz
  refine ⟨Hfz, _, ds, srz.er, h1, fun J H1 Hf1 e1 hz gi => ?_⟩
  have gi : GI K J ds Hf1 Hf1 := gi
  have sr1 := srz.ext' e1
  have fin := fin.mono e1.fr
  let Pv : Nat → L2.St → Hp → Prop := fun i σ2 H2 => ∃ Hf2 ρ2, SR K H0 Hf0 σ2 H2 Hf2 ρ2 ∧ Same Hf1 Hf2 ∧ loopR (fun d ρ1 => (asg tg d ρ1).bind fun ρ2 => fb ρ2) (ds.drop i) ρ2 = some o
  refine ⟨fun i m σ2 H2 => m = ds.length - i ∧ i ≤ ds.length ∧ Pv i σ2 H2, ⟨ds.length, by simp, Nat.zero_le _, Hf1, _, sr1, Same.refl _, by simpa using hd⟩, ?_⟩
  rintro i m σ2 H2 ⟨rfl, hi, Hf2, ρ2, sr2, s2, hr⟩
  obtain ⟨g1, g2⟩ := gi i H2 Hf2 s2 sr2.er.sub (Same.hs (Same.trans s2 sr2.er.sub.same))
  by_cases hlt : i < ds.length
  · refine .inr ?_
    have hx : ds[i]? = some ds[i] := List.getElem?_eq_getElem hlt
    obtain ⟨go, yld⟩ := g2 _ hx
    rw [List.drop_eq_getElem_cons hlt, loopR] at hr
    obtain ⟨o1, q1, q2⟩ := Option.bind_eq_some_iff.mp hr
    obtain ⟨ρ3, q3, q4⟩ := Option.bind_eq_some_iff.mp q1
    refine ⟨go, Pv (i + 1), fun σ' H' p' => ⟨ds.length - (i + 1), by omega, rfl, hlt, p'⟩, fun x H3 y3 => ?_⟩
    obtain ⟨Hf3, e3, rx⟩ := yld x H3 y3
    refine tgG_ok (P := fun σ ρ => SR K H0 Hf0 σ H3 Hf3 ρ) sets_sr e3.sub rx (sr2.ext' e3) q3 fun σ4 sr4 u4 => ⟨H0, Hf0, Hf3, ρ3, o1, sr4, q4, ?_⟩
    cases o1 with
    | nx ρ5 => exact fun σ5 H5 Hf5 sr5 s5 => ⟨Hf5, ρ5, sr5, s2.trans (e3.fr.trans s5), q2⟩
    | rt v =>
      cases q2
      exact fin
  · have ei : i = ds.length := by omega
    subst ei
    rw [List.drop_length] at hr
    cases hr
    exact .inl ⟨g1 rfl, fin σ2 H2 Hf2 sr2 s2⟩
/-- where a key function may be made -/
structure SrtOk (T : Tab) (n : Nat) (X : Cx) where
  lam : LamOk X
  hr : Room (T.c * n + 3) X.A
theorem lam_args {params : Arguments} (h : lamArgs params = true) : (∀ env, defaultsOf params env = ([], [])) ∧ ∀ (qual : Str) (body : Expr) (scope : Scope) (cl : List (Str × Addr)) (pm cv ctv u : Value), bindArgs (PySem.W.kla_fn "<lambda>" qual params body scope cl pm cv ctv) ⟨[u], []⟩ = pure [(("_law_k" : Str), u)] := by
  unfold lamArgs at h
  split at h
  · have := of_decide_eq_true h
    subst this
    exact ⟨fun _ => rfl, fun _ _ _ _ _ _ _ _ => rfl⟩
  · cases h
theorem snd_srt {a b : PX} {js : List Nat} {ln : List Str} {v : Expr} (C : Cok T n X) (W : SrtOk T n X) (h : chkK T X.N a js b X.env.scope ln v = true) : PE X v (tF X.K fun ρ => srtE false (ev T n a ρ) (capsR js ρ) (ev T n b)) ∧ isLc v = false ∧ plainE v = true := by
  unfold chkK at h
  split at h
  · rename_i y yp z zp l p3 w params body scope lpos kpos pos q fr
    simp only [Bool.and_eq_true, decide_eq_true_eq] at h
    obtain ⟨⟨⟨⟨⟨⟨⟨⟨rfl, rfl⟩, rfl⟩, rfl⟩, h1⟩, h2⟩, h3⟩, h4⟩, h5⟩ := h
    simp only [lamB, Bool.and_eq_true, decide_eq_true_eq] at h4
    obtain ⟨⟨⟨h6, h7⟩, h8⟩, h9⟩ := h4
    obtain ⟨d1, d2⟩ := lam_args h6
    have S := NdefX.nscope_by h7
    have hr : Room (T.c * n + 1) X.A.in1.in1 := W.hr.in1.in1
    refine ⟨pf_srt C.calm W.lam ⟨S, NdefX.ndef_free h8, NdefX.ndef_fr h8, h9, fun _ _ _ _ _ _ => d2 _ _ _ _ _ _ _ _⟩ (d1 _) (gl_of h1) (C.blt "sorted" (by unfold bNames; simp)) (gl_of h2) (C.blt "range" (by unfold bNames; simp)) (sndE a X _ C h3).f (fun es => star_of (chk_plain a h3) es _) hr fun f c' s H hr' => ?_, rfl, rfl⟩
    have C' : Cok T n (lamX X "_law_k" fr params scope f c' s H) := ⟨S.nd, rfl, rfl, S.kind, hr', C.blt, C.glb, C.fn⟩
    exact (sndE b _ _ C' h5).f
  · cases h
theorem srtE_tup {x : Option PyData} {cs : Option (List PyData)} {f : Rho → Option PyData} : srtE true x cs f = (srtE false x cs f).bind (blt .tuple) := by
  unfold srtE
  cases x with
  | none => rfl
  | some x =>
    show ((intOf x).bind _) = ((intOf x).bind _).bind _
    cases intOf x with
    | none => rfl
    | some m =>
      show (if rngOk m = true then _ else none) = (if rngOk m = true then _ else none : Option PyData).bind _
      cases rngOk m with
      | false => rfl
      | true =>
        show cs.bind _ = (cs.bind _).bind _
        cases cs with
        | none => rfl
        | some cs =>
          show Option.map _ (keysR _ _) = (Option.map _ (keysR _ _)).bind _
          cases keysR (fun d => f ((d :: cs).map .val)) (List.range m.toNat) <;> rfl
mutual
theorem sndS : ∀ (p : QS) (X : Cx) (st : Stmt), Cok T n X → (srtS p = true → Nonempty (SrtOk T n X)) → X.fn = (fun _ => true) → chkS T X.N p X.env.scope st = true → PS X st (tS X.K (evs T n p))
  | .srt fz i tup a js ln b, X, st, C, W, hf, h => by
    have ee : evs T n (.srt fz i tup a js ln b) = fun ρ => (srtE tup (ev T n a (frzs fz ρ)) (capsR js (frzs fz ρ)) (ev T n b)).map fun d => .nx ((frzs fz ρ).set i (.val d)) := by funext ρ; rw [evs, evS]
    obtain ⟨W0⟩ := W rfl
    unfold chkS at h
    split at h
    · simp only [Bool.and_eq_true, decide_eq_true_eq] at h
      obtain ⟨⟨h1, h2⟩, h3⟩ := h
      have fin : ∀ {x : Str} {py pos : Pos} {v : Expr}, X.N[i]? = some x → locB X.env.scope x = true → PE X v (tF X.K fun ρ => srtE tup (ev T n a ρ) (capsR js ρ) (ev T n b)) → isLc v = false → plainE v = true → PS X (.Assign [.Name x py] v pos) (tS X.K (evs T n (.srt fz i tup a js ln b))) := by
        intro x py pos v h1 h2 hp hl hpl
        rw [ee]
        refine PSimp (ps_set (i := i) C.nd h1 (loc_of h2) hp (sw_no hl hpl _ _ _) (.inl (by rw [hf]))) fun D σ H ⟨H0, Hf0, Hf, ρ, o, sr, hd, fin⟩ => ?_
        obtain ⟨d, h4, rfl⟩ := Option.map_eq_some_iff.mp hd
        obtain ⟨Hfz, srz, sz⟩ := sr.frzs fz
        exact ⟨Hfz, _, d, srz.er, h4, fun v H' Hf' e r => fin _ H' Hf' ((srz.ext' e).set r) (sz.trans e.fr)⟩
      split at h3
      · obtain ⟨P1, P2, P3⟩ := snd_srt C W0 h3
        exact fin h1 h2 P1 P2 P3
      · simp only [Bool.and_eq_true, decide_eq_true_eq] at h3
        obtain ⟨⟨rfl, h4⟩, h5⟩ := h3
        obtain ⟨P1, P2, P3⟩ := snd_srt C W0 h5
        have hB := bor_F (p := .omit) (fun _ => PX.noConfusion) P1
        refine fin h1 h2 ?_ rfl rfl
        have e2 : (fun ρ => srtE true (ev T n a ρ) (capsR js ρ) (ev T n b)) = fun ρ => (bor .omit ρ (srtE false (ev T n a ρ) (capsR js ρ) (ev T n b))).bind fun x => blt .tuple x := by
          funext ρ
          rw [srtE_tup]
          rfl
        rw [e2]
        exact PEimp (pe_callTy blt_tuple (gl_of h4) (C.blt "tuple" (by unfold bNames; simp)) PyProof.Rows.boot_tuple (pa_one hB (star_of P3 _ _)) (by decide) (by decide) (star_of P3 _ _) rfl) fun σ H Q q => blt_in q
      · cases h3
    · cases h
  | .set fz i e, X, st, C, W, hf, h => by
    have ee : evs T n (.set fz i e) = fun ρ => (ev T n e (frzs fz ρ)).map fun d => .nx ((frzs fz ρ).set i (.val d)) := by funext ρ; rw [evs, evS]
    unfold chkS at h
    split at h
    · simp only [Bool.and_eq_true, decide_eq_true_eq] at h
      obtain ⟨⟨h1, h2⟩, h3⟩ := h
      have S := sndE e X _ C h3
      rw [ee]
      refine PSimp (set_any C hf h1 h2 h3 S S.f fun σ H Q hl q => tO_F (lc_list h3 hl) q) fun D σ H ⟨H0, Hf0, Hf, ρ, o, sr, hd, fin⟩ => ?_
      obtain ⟨d, h4, rfl⟩ := Option.map_eq_some_iff.mp hd
      obtain ⟨Hfz, srz, sz⟩ := sr.frzs fz
      exact ⟨Hfz, _, d, srz.er, h4, fun v H' Hf' e r => fin _ H' Hf' ((srz.ext' e).set r) (sz.trans e.fr)⟩
    · cases h
  | .setD fz i ks es, X, st, C, W, hf, h => by
    have ee : evs T n (.setD fz i ks es) = fun ρ => (evEs T.G (T.run n) es (frzs fz ρ)).map fun ds => .nx ((frzs fz ρ).set i (.dic ks ds)) := by funext ρ; rw [evs, evS]
    unfold chkS at h
    split at h
    · rename_i x py keys vals dpos pos
      simp only [Bool.and_eq_true, decide_eq_true_eq] at h
      obtain ⟨⟨⟨⟨⟨h1, h2⟩, h3⟩, h4⟩, h5⟩, h6⟩ := h
      obtain ⟨trs, P, O⟩ := sndPs es X dpos ks keys vals C h3 h5 h6
      rw [ee]
      refine PSimp (ps_set (i := i) C.nd h1 (loc_of h2) (pd_of P O h3 h4 h5) (sw_no rfl rfl _ _ _) (.inl (by rw [hf]))) fun D σ H ⟨H0, Hf0, Hf, ρ, o, sr, hd, fin⟩ => ?_
      obtain ⟨d, h4, rfl⟩ := Option.map_eq_some_iff.mp hd
      obtain ⟨Hfz, srz, sz⟩ := sr.frzs fz
      exact ⟨Hfz, _, d, srz.er, h4, fun v H' Hf' e r => fin _ H' Hf' ((srz.ext' e).setD r) (sz.trans e.fr)⟩
    · cases h
  | .setO fz i e, X, st, C, W, hf, h => by
    have ee : evs T n (.setO fz i e) = fun ρ => (ev T n e (frzs fz ρ)).bind (ownSet i (frzs fz ρ)) := by funext ρ; rw [evs, evS]
    unfold chkS at h
    split at h
    · simp only [Bool.and_eq_true, decide_eq_true_eq] at h
      obtain ⟨⟨⟨h1, h2⟩, h3⟩, h4⟩ := h
      have S := sndE e X _ C h3
      rw [ee]
      refine PSimp (set_any C hf h1 h2 h3 S (S.o h4) fun σ H Q hl q => q) fun D σ H ⟨H0, Hf0, Hf, ρ, o, sr, hd, fin⟩ => ?_
      obtain ⟨d, h5, hd⟩ := Option.bind_eq_some_iff.mp hd
      obtain ⟨Hfz, srz, sz⟩ := sr.frzs fz
      cases d with
      | list ds =>
        cases hd
        refine ⟨Hfz, _, ds, srz.er, h5, fun p vs H' Hf' e hp hp' hn z r => fin _ H' Hf' ((srz.ext' e).setO hp' z r hn (srz.ext.free hp) fun j dj hj hs => ?_) (sz.trans e.fr)⟩
        obtain ⟨q, us, g1, g2, _⟩ := srz.er.own j dj hj
        rw [g1] at hs
        cases hs
        rw [hp] at g2; cases g2
      | _ => exact nomatch hd
    · cases h
  | .setT fz is e, X, st, C, W, hf, h => by
    have ee : evs T n (.setT fz is e) = fun ρ => (ev T n e (frzs fz ρ)).bind fun d => (asg (.tp is) d (frzs fz ρ)).map .nx := by funext ρ; rw [evs, evS]
    unfold chkS at h
    split at h
    · rename_i ts k tp v pos
      simp only [Bool.and_eq_true, Bool.not_eq_true'] at h
      obtain ⟨⟨⟨h1, h2⟩, h3⟩, h4⟩ := h
      have S := sndE e X _ C h2
      have hT : chkT X.N X.env.scope (fun _ => true) (.tp is) (.Tuple ts k tp) = true := by unfold chkT; exact h1
      have G : PG X (.Tuple ts k tp) (tgG X.K (.tp is)) := tg_of (X := X) rfl C.nd rfl (fun x _ => by rw [hf]) C.calm hT
      have hw : swappedStores [.Tuple ts k tp] v X.env = pure none := by cases v <;> first | rfl | cases h3
      rw [ee]
      refine PSimp (ps_asg S.f G (by unfold swapsWithSole; exact sw_no h4 (chk_plain e h2) _ _ _) hw rfl) fun D σ H ⟨H0, Hf0, Hf, ρ, o, sr, hd, fin⟩ => ?_
      obtain ⟨d, h5, hd⟩ := Option.bind_eq_some_iff.mp hd
      obtain ⟨ρ', h6, rfl⟩ := Option.map_eq_some_iff.mp hd
      obtain ⟨Hfz, srz, sz⟩ := sr.frzs fz
      refine ⟨Hfz, _, d, srz.er, h5, fun v H' Hf' e r => ?_⟩
      exact tgG_ok (P := fun σ ρ => SR X.K H0 Hf0 σ H' Hf' ρ) sets_sr e.sub r (srz.ext' e) h6 fun σ' sr' _ => fin σ' H' Hf' sr' (sz.trans e.fr)
    · cases h
  | .app fz i e, X, st, C, W, hf, h => by
    have ee : evs T n (.app fz i e) = fun ρ => (ev T n e (frzs fz ρ)).bind (ownApp i (frzs fz ρ)) := by funext ρ; rw [evs, evS]
    unfold chkS at h
    split at h
    · rename_i x p1 m apos a pos pos2
      simp only [Bool.and_eq_true, decide_eq_true_eq] at h
      obtain ⟨⟨⟨⟨⟨rfl, h1⟩, h2⟩, h3⟩, h4⟩, h5⟩ := h
      have S := sndE e X _ C h5
      have st := fun es => star_of (chk_plain e h5) es X.env
      rw [ee]
      refine PSimp (ps_expr (pe_bm PySem.F.plainAttrs_list PySem.F.slot_list_append PySem.F.type_list_append mt_append (pe_var (X := X) (pos := p1) h1 (vis_of h2) (dbg_of h3).1 (dbg_of h3).2) (pa_cons S.f pa_nil (st [])) rfl (by rw [st]; rfl) h4 (st []) rfl) rfl) fun D σ H ⟨H0, Hf0, Hf, ρ, o, sr, hd, fin⟩ => ?_
      obtain ⟨d, h6, hd⟩ := Option.bind_eq_some_iff.mp hd
      obtain ⟨Hfz, srz, sz⟩ := sr.frzs fz
      unfold ownApp at hd
      split at hd
      · rename_i ds hds
        by_cases c : ds.length < 1000000
        · rw [if_pos c] at hd
          cases hd
          obtain ⟨p, vs, g1, g2, g3, g4, g5⟩ := srz.er.own i ds hds
          refine ⟨.ref p, g1, .inl ⟨rfl, vs, .of g2⟩, Hfz, _, d, srz.er, h6, fun v H' Hf' e r => ?_⟩
          have g2' := e.lst g2
          have hz : vs.length < sizeLine := by rw [g4.length, sizeLine_eq]; omega
          refine ⟨p, vs, v, rfl, rfl, g2', hz, fin _ _ Hf' ((srz.ext' e).mut hds g1 ?_ ((g4.mono e.fr _ _).append (.cons r .nil))) (sz.trans e.fr)⟩
          rw [List.length_append, List.length_singleton]; omega
        · rw [if_neg c] at hd; cases hd
      · cases hd
    · cases h
  | .ext fz i e, X, st, C, W, hf, h => by
    have ee : evs T n (.ext fz i e) = fun ρ => (ev T n e (frzs fz ρ)).bind (ownExt i (frzs fz ρ)) := by funext ρ; rw [evs, evS]
    unfold chkS at h
    split at h
    · rename_i x p1 m apos a pos pos2
      simp only [Bool.and_eq_true, decide_eq_true_eq] at h
      obtain ⟨⟨⟨⟨⟨rfl, h1⟩, h2⟩, h3⟩, h4⟩, h5⟩ := h
      have S := sndE e X _ C h5
      have st := fun es => star_of (chk_plain e h5) es X.env
      rw [ee]
      refine PSimp (ps_expr (pe_bm PySem.F.plainAttrs_list PySem.F.slot_list_extend PySem.F.type_list_extend mt_extendL (pe_var (X := X) (pos := p1) h1 (vis_of h2) (dbg_of h3).1 (dbg_of h3).2) (pa_cons S.f pa_nil (st [])) rfl (by rw [st]; rfl) h4 (st []) rfl) rfl) fun D σ H ⟨H0, Hf0, Hf, ρ, o, sr, hd, fin⟩ => ?_
      obtain ⟨d, h6, hd⟩ := Option.bind_eq_some_iff.mp hd
      obtain ⟨Hfz, srz, sz⟩ := sr.frzs fz
      unfold ownExt at hd
      split at hd
      · rename_i ds es hds
        by_cases c : catOk ds.length es.length = true
        · rw [if_pos c] at hd
          cases hd
          have c' := of_decide_eq_true c
          obtain ⟨p, vs, g1, g2, g3, g4, g5⟩ := srz.er.own i ds hds
          refine ⟨.ref p, g1, .inl ⟨rfl, vs, .of g2⟩, Hfz, _, _, srz.er, h6, fun v H' Hf' e r => ?_⟩
          have g2' := e.lst g2
          cases r with
          | @lst b zs _ s1 z1 r1 =>
            have hz : vs.length + zs.length ≤ sizeLine := by rw [g4.length, r1.length]; exact c'
            exact ⟨p, b, vs, zs, rfl, rfl, g2', sqL_sub e.sub.same s1, hz, fin _ _ Hf' ((srz.ext' e).mut hds g1 (by rw [List.length_append]; exact hz) ((g4.mono e.fr _ _).append r1)) (sz.trans e.fr)⟩
        · rw [if_neg c] at hd; cases hd
      · cases hd
    · cases h
  | .iff fz c a b, X, st, C, W, hf, h => by
    have ee : evs T n (.iff fz c a b) = fun ρ => (boolOf (ev T n c (frzs fz ρ))).bind fun k => if k then evss T n a (frzs fz ρ) else evss T n b (frzs fz ρ) := by funext ρ; rw [evs, evS]
    unfold chkS at h
    split at h
    · simp only [Bool.and_eq_true] at h
      obtain ⟨⟨h1, h2⟩, h3⟩ := h
      rw [ee]
      refine PSimp (ps_if (sndE c X _ C h1).t (sndSs a X _ C (fun z => W (by unfold srtS; rw [z]; rfl)) hf h2) (sndSs b X _ C (fun z => W (by unfold srtS; rw [z, Bool.or_true])) hf h3)) fun D σ H ⟨H0, Hf0, Hf, ρ, o, sr, hd, fin⟩ => ?_
      obtain ⟨k, h4, hd⟩ := Option.bind_eq_some_iff.mp hd
      obtain ⟨Hfz, srz, sz⟩ := sr.frzs fz
      refine ⟨Hfz, _, k, srz.er, h4, fun H' Hf' e => ?_⟩
      cases k with
      | true => exact iteT ⟨H0, Hf0, Hf', _, o, srz.ext' e, hd, fin.mono (sz.trans e.fr)⟩
      | false => exact iteF ⟨H0, Hf0, Hf', _, o, srz.ext' e, hd, fin.mono (sz.trans e.fr)⟩
    · cases h
  | .for fz tg it b, X, st, C, W, hf, h => by
    have ee : evs T n (.for fz tg it b) = fun ρ => (evI T.G (T.run n) false it (frzs fz ρ)).bind fun ds => loopR (fun d ρ1 => (asg tg d ρ1).bind fun ρ2 => evss T n b ρ2) ds (frzs fz ρ) := by funext ρ; rw [evs, evS]
    unfold chkS at h
    split at h
    · simp only [Bool.and_eq_true] at h
      obtain ⟨⟨h1, h2⟩, h3⟩ := h
      rw [ee]
      refine PSimp (ps_for (by rw [C.xe]; exact PassesOwn.never) C.calm (sndI it false X _ _ C h1) (tg_of (X := X) rfl C.nd rfl (fun x _ => by rw [hf]) C.calm h2) (sndSs b X _ C (fun z => W (by unfold srtS; exact z)) hf h3) (fold_of (chkI_plain it h1) _)) fun D σ H q => for_in q
    · cases h
  | .ret fz e, X, st, C, W, hf, h => by
    have ee : evs T n (.ret fz e) = fun ρ => (ev T n e (frzs fz ρ)).map .rt := by funext ρ; rw [evs, evS]
    unfold chkS at h
    split at h
    · rw [ee]
      refine PSimp (ps_ret (sndE e X _ C h).f) fun D σ H ⟨H0, Hf0, Hf, ρ, o, sr, hd, fin⟩ => ?_
      obtain ⟨d, h4, rfl⟩ := Option.map_eq_some_iff.mp hd
      obtain ⟨Hfz, srz, sz⟩ := sr.frzs fz
      exact ⟨Hfz, _, d, srz.er, h4, fun v H' Hf' e r => fin v H' Hf' (srz.ext.trans e) r⟩
    · cases h
  | .retN, X, st, C, W, hf, h => by
    have ee : evs T n .retN = fun ρ => some (.rt .none) := by funext ρ; rw [evs, evS]
    unfold chkS at h
    split at h
    · rw [ee]
      refine PSimp ps_retN fun D σ H ⟨H0, Hf0, Hf, ρ, o, sr, hd, fin⟩ => ?_
      cases hd
      exact fin .non H Hf sr.ext .non
    · cases h
  | .pass, X, st, C, W, hf, h => by
    have ee : evs T n .pass = fun ρ => some (.nx ρ) := by funext ρ; rw [evs, evS]
    unfold chkS at h
    split at h
    · rw [ee]
      refine PSimp ps_pass fun D σ H ⟨H0, Hf0, Hf, ρ, o, sr, hd, fin⟩ => ?_
      cases hd
      exact fin σ H Hf sr (Same.refl _)
    · rw [ee]
      refine PSimp ps_doc fun D σ H ⟨H0, Hf0, Hf, ρ, o, sr, hd, fin⟩ => ?_
      cases hd
      exact fin σ H Hf sr (Same.refl _)
    · cases h
theorem sndSs : ∀ (p : QSs) (X : Cx) (st : List Stmt), Cok T n X → (srtSs p = true → Nonempty (SrtOk T n X)) → X.fn = (fun _ => true) → chkSs T X.N p X.env.scope st = true → PSs X st (tS X.K (evss T n p))
  | .nil, X, st, C, W, hf, h => by
    have ee : evss T n .nil = fun ρ => some (.nx ρ) := by funext ρ; rw [evss, evSs]
    unfold chkSs at h
    split at h
    · rw [ee]
      refine PSsimp pss_nil fun D σ H ⟨H0, Hf0, Hf, ρ, o, sr, hd, fin⟩ => ?_
      cases hd
      exact fin σ H Hf sr (Same.refl _)
    · cases h
  | .cons p ps, X, st, C, W, hf, h => by
    have ee : evss T n (.cons p ps) = fun ρ => (evs T n p ρ).bind (thenO fun ρ' => evss T n ps ρ') := by funext ρ; rw [evss, evSs]
    unfold chkSs at h
    split at h
    · simp only [Bool.and_eq_true] at h
      rw [ee]
      refine PSsimp (pss_cons (sndS p X _ C (fun z => W (by unfold srtSs; rw [z]; rfl)) hf h.1) (sndSs ps X _ C (fun z => W (by unfold srtSs; rw [z, Bool.or_true])) hf h.2)) fun D σ H ⟨H0, Hf0, Hf, ρ, o, sr, hd, fin⟩ => ?_
      obtain ⟨o1, h1, hd⟩ := Option.bind_eq_some_iff.mp hd
      refine ⟨H0, Hf0, Hf, ρ, o1, sr, h1, ?_⟩
      cases o1 with
      | nx ρ' => exact fun σ' H' Hf' sr' s' => ⟨H0, Hf0, Hf', ρ', o, sr', hd, fin.mono s'⟩
      | rt v =>
        cases hd
        exact fin
    · cases h
end
end

/-! ### defs -/
def scopeB (N P : List Str) (sc : Scope) : Bool := (match sc.kind with | .function => true | _ => false) && !sc.isCoroutine && !sc.isGenerator && decide N.Nodup && decide (N.take P.length = P) && P.all (locB sc) && sc.names.all fun y => match y.2 with
  | .free => false
  | _ => true
def chkD (T : Tab) (F : FDef) (st : Stmt) : Bool := scopeB F.N F.ps (defScope st) && chkSs T F.N F.body (defScope st) (defBody st)
theorem scope_of {N P : List Str} {sc : Scope} (h : scopeB N P sc = true) : FnScope N P sc := by
  simp only [scopeB, Bool.and_eq_true, decide_eq_true_eq, Bool.not_eq_true', List.all_eq_true] at h
  obtain ⟨⟨⟨⟨⟨⟨h1, h2⟩, h3⟩, h4⟩, h5⟩, h6⟩, h7⟩ := h
  refine ⟨?_, h2, h3, h4, h5, fun x hx => loc_of (h6 x hx), fun y hy e => ?_⟩
  · split at h1
    · assumption
    · cases h1
  · have := h7 y hy
    rw [e] at this
    cases this
/-- where a def of the table stands -/
structure DefAt (K : PySem.W.Frag) (mg : Str → Option Value) (F : FDef) (st : Stmt) (f : Addr) (fd : FuncData) : Prop where
  fn : Fun K F.name F.name st f fd
  mgf : mg F.name = some (.ref f)
  bnd : Binds K fd F.ps []
theorem start_er {K : PySem.W.Frag} {H Hf : Hp} {vs : List V} {ds : List PyData} {N : List Str} (sub : Sub H Hf) (r : RpAll K Hf vs ds) (hl : ds.length ≤ N.length) : SR K H Hf (L2.start N vs) H Hf (startR N.length ds) := by
  have hv := r.length
  have hno : ∀ (i : Nat) es, (startR N.length ds)[i]? ≠ some (.own es) := by
    intro i es h
    unfold startR at h
    by_cases c : i < ds.length
    · rw [List.getElem?_append_left (by simpa using c), List.getElem?_map] at h
      cases q : ds[i]? <;> rw [q] at h <;> simp at h
    · rw [List.getElem?_append_right (by simpa using c), List.getElem?_replicate] at h
      split at h <;> cases h
  have hnd : ∀ (i : Nat) ks es, (startR N.length ds)[i]? ≠ some (.dic ks es) := by
    intro i ks es h
    unfold startR at h
    by_cases c : i < ds.length
    · rw [List.getElem?_append_left (by simpa using c), List.getElem?_map] at h
      cases q : ds[i]? <;> rw [q] at h <;> simp at h
    · rw [List.getElem?_append_right (by simpa using c), List.getElem?_replicate] at h
      split at h <;> cases h
  refine ⟨⟨?_, sub, fun i d h => ?_, fun i es h => absurd h (hno i es), fun i j p di dj h => absurd h (hno i di), fun i ks es h => absurd h (hnd i ks es)⟩, Ext.refl sub, fun i es p h => absurd h (hno i es)⟩
  · unfold startR L2.start
    simp
    omega
  · unfold startR at h
    unfold L2.start
    by_cases c : i < ds.length
    · rw [List.getElem?_append_left (by simpa using c), List.getElem?_map] at h
      obtain ⟨e, h1, h2⟩ := Option.map_eq_some_iff.mp h
      cases h2
      obtain ⟨v, h3, h4⟩ := r.get h1
      exact ⟨v, by rw [List.getElem?_append_left (by simpa using by omega), List.getElem?_map, h3]; rfl, h4⟩
    · rw [List.getElem?_append_right (by simpa using c), List.getElem?_replicate] at h
      split at h <;> cases h
structure TabOk (T : Tab) (K : PySem.W.Frag) (w : World) (mg : Str → Option Value) : Prop where
  cp : 1 ≤ T.c
  fn : ∀ f F, T.fn f = some F → ∃ st a fd, DefAt K mg F st a fd ∧ chkD T F st = true
  blt : ∀ x ∈ bNames, mg x = none
  glb : ∀ g x d, T.glb g = some (x, d) → ∃ u v, mg x = some u ∧ RelV v u ∧ ((∀ H, Rp K H v d) ∨ ∃ kvs, d = .dict kvs ∧ GDic K w v kvs)
theorem run_len {T : Tab} {n f : Nat} {F : FDef} {ds : List PyData} {d : PyData} (hF : T.fn f = some F) (h : T.run n f ds = some d) : ds.length = F.ps.length := by
  cases n with
  | zero => cases h
  | succ n =>
    rw [Tab.run, hF] at h
    by_cases c : ds.length = F.ps.length
    · exact c
    · simp [c] at h
/-- every def of the table keeps its promise, at every level -/
theorem all_ok {P : Program} {w : World} {T : Tab} {K : PySem.W.Frag} {mg : Str → Option Value} {base : Heap} (O : TabOk T K w mg) : ∀ (n : Nat) f F, T.fn f = some F → srtSs F.body = false →
    ∃ a fd, mg F.name = some (.ref a) ∧ PySem.W.keepIn K (.ref a) = true ∧ Binds K fd F.ps [] ∧ FnOk P w K mg base CX0 (T.c * n) a fd F.ps (spD K (T.run n f))
  | 0, f, F, hF, _ => by
    obtain ⟨st, a, fd, D, _⟩ := O.fn f F hF
    have no : ∀ vs H Q E, ¬ spD K (T.run 0 f) vs H Q E := fun vs H Q E ⟨_, _, _, _, _, h, _⟩ => nomatch h
    exact ⟨a, fd, D.mgf, D.fn.kp, D.bnd, fun vs H Q E h => absurd h (no vs H Q E), fun A outer s H args us vs Q E _ _ _ _ h => absurd h (no vs H Q E)⟩
  | n + 1, f, F, hF, hs => by
    obtain ⟨st, a, fd, D, hc⟩ := O.fn f F hF
    have el : T.c * (n + 1) = T.c * n + (T.c - 1) + 1 := by have := O.cp; rw [Nat.mul_succ]; omega
    rw [el]
    refine ⟨a, fd, D.mgf, D.fn.kp, D.bnd, ?_⟩
    simp only [chkD, Bool.and_eq_true] at hc
    have S := scope_of hc.1
    refine D.fn.ok S (fun vs H Q E ⟨Hf, ds, d, sub, r, h, _⟩ => by rw [r.length]; exact run_len hF h) fun cdv A outer s H vs Q E hr ⟨Hf, ds, d, sub, r, h, k⟩ => ?_
    have hl := run_len hF h
    have C : Cok T n (cxOf CX0 P w K mg base F.N F.name (defScope st) a cdv A outer s H E).nox :=
      ⟨S.nd, rfl, rfl, S.kind, hr.mono (by omega), O.blt, O.glb, fun g G hG hS => all_ok O n g G hG hS⟩
    refine ⟨_, sndSs F.body _ _ C (fun z => absurd z (by rw [hs]; simp)) rfl hc.2, ?_⟩
    rw [Tab.run, hF] at h
    have h' : (evSs T.G (T.run n) F.body (startR F.N.length ds)).map outD = some d := by
      have h2 : (if ds.length = F.ps.length then (evSs T.G (T.run n) F.body (startR F.N.length ds)).map outD else none) = some d := h
      rwa [if_pos hl] at h2
    obtain ⟨o, h3, rfl⟩ := Option.map_eq_some_iff.mp h'
    have hN : ds.length ≤ F.N.length := by
      rw [hl]
      have := congrArg List.length S.pre
      rw [List.length_take] at this
      omega
    refine ⟨H, Hf, Hf, _, o, start_er sub r hN, h3, ?_⟩
    cases o with
    | nx ρ' => exact fun σ' H' Hf' sr _ => k .non H' Hf' sr.ext .non
    | rt v => exact fun u H' Hf' e ru => k u H' Hf' e ru
end Ev

/-! EvJ: from a table of defs to a law's row. -/
namespace Ev
variable [Memo]
open PySem PySem.Spec PyProof.Rows L2
/-- the words that stand in the texts -/
inductive Wd where
  | each | some | x | y | a | b | to | not | both | either | yes | no | lacks | splits | none | empty | nil | dash | blank | semi | sem
  deriving DecidableEq
def Wd.s : Wd → Str
  | .each => "each" | .some => "some" | .x => "x" | .y => "y" | .a => "a" | .b => "b" | .to => "to" | .not => "not" | .both => "both" | .either => "either" | .yes => "yes" | .no => "no"
  | .lacks => "lacks" | .splits => "splits" | .none => "none" | .empty => "empty" | .nil => "" | .dash => "-" | .blank => " " | .semi => " ; " | .sem => ";"
theorem Wd.s_inj : ∀ a b : Wd, (a.s = b.s) ↔ a = b := by
  have h : ∀ a b : Wd, decide (a.s = b.s) = decide (a = b) := by
    intro a b
    cases a <;> cases b <;> decide +kernel
  intro a b
  have := h a b
  constructor
  · intro e
    rw [decide_eq_true e] at this
    exact of_decide_eq_true this.symm
  · intro e; rw [e]
theorem Wd.s_beq (a b : Wd) : (a.s == b.s) = decide (a = b) := by
  rw [Bool.beq_eq_decide_eq]
  by_cases h : a = b
  · subst h; simp
  · rw [decide_eq_false h, decide_eq_false fun e => h ((Wd.s_inj a b).mp e)]
/-- the hard part of a heap -/
def hardPart (H : Hp) : Hp := fun b => match H b with
  | some (.ext _) => none
  | some (.tbl _) => none
  | o => o
omit [Memo] in
theorem hp_some {H : Hp} {p : Addr} {o : HO} (h : hardPart H p = some o) : H p = some o ∧ hard o := by
  unfold hardPart at h
  split at h
  · cases h
  · cases h
  · rename_i q1 q2
    refine ⟨h, ?_⟩
    cases o with
    | ext φ => exact absurd h (q1 φ)
    | tbl φ => exact absurd h (q2 φ)
    | _ => trivial
omit [Memo] in
theorem hp_of {H : Hp} {p : Addr} {o : HO} (h : H p = some o) (ho : hard o) : hardPart H p = some o := by
  unfold hardPart
  rw [h]
  cases o <;> first | rfl | exact ho.elim
theorem hp_sub {H : Hp} (i : Memo.inv H (hardPart H)) : Sub H (hardPart H) := ⟨fun p o h => (hp_some h).1, i, fun p o h => (hp_some h).2⟩
omit [Memo] in
theorem hp_seq {K : PySem.W.Frag} {H : Hp} {a : Addr} {xs : List V} (h : SqL K H a xs) : SqL K (hardPart H) a xs := by
  rcases h with (h | ⟨o, h⟩) | h
  · exact .inl (.inl (hp_of h trivial))
  · exact .inl (.inr ⟨o, hp_of h trivial⟩)
  · exact .inr h
/-- nothing is kept in mind -/
def Memo.none : Memo where
  inv := fun _ _ => True
  may := fun _ _ => False
  may_mono := fun _ h => h
  may_upd := fun _ _ h => h
  may_ext := fun _ h => h.elim
  inv_alloc := fun _ _ _ => trivial
  inv_frz := fun _ _ _ _ _ => trivial
  inv_put := fun _ _ _ _ _ _ => trivial
instance (priority := 10) memoDefault : Memo := Memo.none
def spLaw (K : PySem.W.Frag) : Sp := fun vs H Q _ => ∃ (a : Addr) (ns : List Int), vs = [.ref a] ∧ SqL K H a (ns.map V.int) ∧ ns.length ≤ 63 ∧ ∀ H', Q (.bl true) H'
section
variable {K : PySem.W.Frag} {mg : Str → Option Value}
theorem spl_gen {T : Tab} {f n : Nat} (i0 : ∀ H, Memo.inv H (hardPart H)) (h : ∀ ns : List Int, ns.length ≤ 63 → T.run n f [.list (ns.map .int)] = some (.bool true)) : ∀ vs H Q E, spLaw K vs H Q E → spD K (T.run n f) vs H Q E := by
  rintro vs H Q E ⟨a, ns, rfl, hS, h63, q⟩
  refine ⟨hardPart H, _, _, hp_sub (i0 H), .cons (.lst (hp_seq hS) ?_ (RpAll.of_ints ns)) .nil, h ns h63, fun v H' Hf' e r => ?_⟩
  · rw [List.length_map, sizeLine_eq]; omega
  · cases r
    exact q H'
theorem def_at {F : FDef} {st : Stmt} {f : Addr} {oc : Value} {od an : Option Addr} {osl : Array (Option Value)} {kV doc pm cdv ct : Value} (m : mg F.name = some (.ref f)) (l : K.lookup f = some ⟨oc, od, .func (PySem.W.fnOf F.name F.name (defArgs st) (defBody st) (defScope st) .none kV doc pm an cdv ct), osl⟩)
    (c : PySem.W.codeIn K cdv F.name = true) (k : PySem.W.keepIn K (.ref f) = true)
    (h : ∀ us : List Value, us.length = F.ps.length → bindArgs (PySem.W.fnOf F.name F.name (defArgs st) (defBody st) (defScope st) .none kV doc pm an cdv ct) ⟨us, []⟩ = pure (F.ps.zip us)) :
    DefAt K mg F st f (PySem.W.fnOf F.name F.name (defArgs st) (defBody st) (defScope st) .none kV doc pm an cdv ct) :=
  ⟨fun_mk l c k, m, .all h⟩
/-- a module's constant -/
def GlbAt (K : PySem.W.Frag) (w : World) (u : Value) (d : PyData) : Prop := ∃ v, RelV v u ∧ ((∀ H, Rp K H v d) ∨ ∃ kvs, d = .dict kvs ∧ GDic K w v kvs)
theorem GlbAt.int {i : Int} {t : Tok} {w : World} : GlbAt K w (.int i t) (.int i) := ⟨.int i, ⟨t, rfl⟩, .inl fun _ => .int i⟩
theorem glb_at {x : Str} {u : Value} {d : PyData} {w : World} (m : mg x = some u) (h : GlbAt K w u d) : ∃ u v, mg x = some u ∧ RelV v u ∧ ((∀ H, Rp K H v d) ∨ ∃ kvs, d = .dict kvs ∧ GDic K w v kvs) :=
  let ⟨v, h1, h2⟩ := h
  ⟨u, v, m, h1, h2⟩
/-- a tuple of two texts -/
theorem GlbAt.strs2 {w : World} {a : Addr} {x y : Str} {t1 t2 : Tok} {o : Obj} (h : K.lookup a = some o) (hc : o.cls = .type "tuple") {n : Nat} (hd : o.data = .seq #[.str x t1, .str y t2] n) (h1 : decide (x.length ≤ sizeLine) && PyData.strOk x = true) (h2 : decide (y.length ≤ sizeLine) && PyData.strOk y = true) :
    GlbAt K w (.ref a) (.tuple [.str x, .str y]) := by
  simp only [Bool.and_eq_true, decide_eq_true_eq] at h1 h2
  refine ⟨.ref a, rfl, .inl fun H => .tup (xs := [.str x, .str y]) (.inr ⟨o, #[.str x t1, .str y t2], n, h, hc, hd, by show 2 ≤ sizeLine; decide, .cons ⟨t1, rfl⟩ (.cons ⟨t2, rfl⟩ .nil)⟩) (by show 2 ≤ sizeLine; decide) (.cons (.str _ h1.1 h1.2) (.cons (.str _ h2.1 h2.2) .nil))⟩
/-- a dict of texts to ints -/
def gdOk (P : Params) : List DictEntry → List (PyData × PyData) → Prop
  | [], [] => True
  | e :: es, (.str x, .int i) :: kvs => (∃ t, e.key = .str x t) ∧ e.hash = PyData.keyHash P x ∧ (∃ t, e.val = .int i t) ∧ gdOk P es kvs
  | _, _ => False
theorem gdOk_cons {P : Params} {e : DictEntry} {es : List DictEntry} {kvs : List (PyData × PyData)} (h : gdOk P (e :: es) kvs) : ∃ x i t t' r, kvs = (.str x, .int i) :: r ∧ e.key = .str x t ∧ e.hash = PyData.keyHash P x ∧ e.val = .int i t' ∧ gdOk P es r := by
  unfold gdOk at h
  split at h
  · cases ‹_ :: _ = []›
  · rename_i e1 es1 x i kvs1 h1
    cases h1
    obtain ⟨⟨t, a1⟩, a2, ⟨t', a3⟩, a4⟩ := h
    exact ⟨x, i, t, t', _, rfl, a1, a2, a3, a4⟩
  · exact h.elim
theorem gdOk_lit {P : Params} : ∀ {es : List DictEntry} {kvs : List (PyData × PyData)}, gdOk P es kvs → PySem.W.KeysLit P es
  | [], _, _ => trivial
  | e :: es, kvs, h => by
    obtain ⟨x, i, t, t', r, rfl, a1, a2, a3, a4⟩ := gdOk_cons h
    exact ⟨⟨x, t, a1, a2⟩, gdOk_lit a4⟩
theorem gdOk_get {P : Params} (z : Str) : ∀ {es : List DictEntry} {kvs : List (PyData × PyData)}, gdOk P es kvs →
    (∀ d, dkGet kvs z = some d → ∃ e i t, es.find? (·.key.isStr z) = some e ∧ d = .int i ∧ e.val = .int i t) ∧ (dkGet kvs z = none → es.find? (·.key.isStr z) = none) ∧ es.any (·.refKey) = false
  | [], kvs, h => by
    have : kvs = [] := by
      cases kvs with
      | nil => rfl
      | cons a r => exact h.elim
    subst this
    exact ⟨fun d hd => (by cases hd), fun _ => rfl, rfl⟩
  | e :: es, kvs, h => by
    obtain ⟨x, i, t, t', r, rfl, a1, a2, a3, a4⟩ := gdOk_cons h
    obtain ⟨h1, h2, h3⟩ := gdOk_get z a4
    have hk : e.key.isStr z = decide (x = z) := by rw [a1]; show (x == z) = _; rw [Bool.beq_eq_decide_eq]
    have hr : e.refKey = false := by unfold DictEntry.refKey; rw [a1]
    refine ⟨fun d hd => ?_, fun hd => ?_, by rw [List.any_cons, hr, h3]; rfl⟩
    · have hd' : (if x = z then some (PyData.int i) else dkGet r z) = some d := hd
      by_cases c : x = z
      · rw [if_pos c] at hd'
        cases hd'
        exact ⟨e, i, t', by rw [List.find?_cons_of_pos (by rw [hk]; simpa using c)], rfl, a3⟩
      · rw [if_neg c] at hd'
        rw [List.find?_cons_of_neg (by rw [hk]; simpa using c)]
        exact h1 d hd'
    · have hd' : (if x = z then some (PyData.int i) else dkGet r z) = none := hd
      by_cases c : x = z
      · rw [if_pos c] at hd'; cases hd'
      · rw [if_neg c] at hd'
        rw [List.find?_cons_of_neg (by rw [hk]; simpa using c)]
        exact h2 hd'
theorem GlbAt.dct {w : World} {a : Addr} {es : Array DictEntry} {n : Nat} {kvs : List (PyData × PyData)} (h : K.lookup a = some ⟨.type "dict", none, .dict es n, #[]⟩) (hd : (a == sysModules) = false) (ok : gdOk w.params es.toList kvs) : GlbAt K w (.ref a) (.dict kvs) := by
  refine ⟨.ref a, rfl, .inr ⟨kvs, rfl, a, es, n, rfl, ⟨h, gdOk_lit ok, hd⟩, fun z => ?_⟩⟩
  obtain ⟨h1, h2, h3⟩ := gdOk_get z ok
  have e : PySem.W.nsIn K a z = match es.toList.find? (·.key.isStr z) with
      | some e => some (some e.val)
      | none => if es.toList.any (·.refKey) then none else some none := by
    unfold PySem.W.nsIn
    rw [h]
    rfl
  cases c : dkGet kvs z with
  | none =>
    rw [h2 c, h3] at e
    exact ⟨none, e, fun d hd => (by cases hd), fun _ => rfl⟩
  | some d =>
    obtain ⟨f, i, t, g1, rfl, g2⟩ := h1 d c
    rw [g1] at e
    refine ⟨some f.val, e, fun d hd => ?_, fun hd => (by cases hd)⟩
    cases hd
    exact ⟨f.val, .int i, rfl, ⟨t, g2⟩, fun _ => .int i⟩
/-- a def's body from its run -/
theorem body_in {T : Tab} {n f : Nat} {F : FDef} {sc : Scope} {vs : List V} {ds : List PyData} {d : PyData} {H Hf : Hp} {Q : VK} (S : FnScope F.N F.ps sc) (hF : T.fn f = some F) (sub : Sub H Hf) (r : RpAll K Hf vs ds) (h : T.run (n + 1) f ds = some d) (k : KF K H Hf d Q) :
    tS K (evss T n F.body) { nx := fun _ H' => Q .non H', rt := Q } (L2.start F.N vs) H := by
  have hl := run_len hF h
  rw [Tab.run, hF] at h
  have h' : (evSs T.G (T.run n) F.body (startR F.N.length ds)).map outD = some d := by
    have h2 : (if ds.length = F.ps.length then (evSs T.G (T.run n) F.body (startR F.N.length ds)).map outD else none) = some d := h
    rwa [if_pos hl] at h2
  obtain ⟨o, h3, rfl⟩ := Option.map_eq_some_iff.mp h'
  have hN : ds.length ≤ F.N.length := by
    rw [hl]
    have := congrArg List.length S.pre
    rw [List.length_take] at this
    omega
  refine ⟨H, Hf, Hf, _, o, start_er sub r hN, h3, ?_⟩
  cases o with
  | nx ρ' => exact fun σ' H' Hf' sr _ => k .non H' Hf' sr.ext .non
  | rt v => exact fun u H' Hf' e ru => k u H' Hf' e ru
theorem all_of {P : Program} {w : World} {T : Tab} {base : Heap} (O : TabOk T K w mg) (n : Nat) {f : Nat} {F : FDef} {st : Stmt} {a : Addr} {fd : FuncData} (D : DefAt K mg F st a fd) (hc : chkD T F st = true) (hF : T.fn f = some F) (hs : srtSs F.body = false := by rfl) :
    FnOk P w K mg base CX0 (T.c * n) a fd F.ps (spD K (T.run n f)) := by
  cases n with
  | zero =>
    have no : ∀ vs H Q E, ¬ spD K (T.run 0 f) vs H Q E := fun vs H Q E ⟨_, _, _, _, _, h, _⟩ => nomatch h
    exact ⟨fun vs H Q E h => absurd h (no vs H Q E), fun A outer s H args us vs Q E _ _ _ _ h => absurd h (no vs H Q E)⟩
  | succ n =>
    have el : T.c * (n + 1) = T.c * n + (T.c - 1) + 1 := by have := O.cp; rw [Nat.mul_succ]; omega
    rw [el]
    simp only [chkD, Bool.and_eq_true] at hc
    have S := scope_of hc.1
    refine D.fn.ok S (fun vs H Q E ⟨Hf, ds, d, sub, r, h, _⟩ => by rw [r.length]; exact run_len hF h) fun cdv A outer s H vs Q E hr ⟨Hf, ds, d, sub, r, h, k⟩ => ?_
    have C : Cok T n (cxOf CX0 P w K mg base F.N F.name (defScope st) a cdv A outer s H E).nox :=
      ⟨S.nd, rfl, rfl, S.kind, hr.mono (by omega), O.blt, O.glb, fun g G hG hS => all_ok O n g G hG hS⟩
    refine ⟨_, sndSs F.body _ _ C (fun z => absurd z (by rw [hs]; simp)) rfl hc.2, body_in S hF sub r h k⟩
/-- a law that makes a key function: what is kept in mind is its code's table -/
def lamMemo (P : Addr) (q : Str) : Memo where
  inv := fun H _ => LamX.TabS H P q
  may := fun _ _ => False
  may_mono := fun _ h => h
  may_upd := fun _ _ h => h
  may_ext := fun _ h => h.elim
  inv_alloc := fun o hp h => LamX.TabS.ext h (fun b u e => same_upd hp o b u e)
  inv_frz := fun _ _ _ _ h => h
  inv_put := fun {H Hf p o} o' hp ho ho' _ ⟨ps, h1, h2, h3⟩ => by
    have kp : ∀ b u, ¬ hard u → H b = some u → upd H p o' b = some u := fun b u hu e => by
      rw [upd_ne (fun z => by subst z; rw [hp] at e; cases e; exact hu ho)]
      exact e
    exact ⟨ps, kp _ _ (fun z => z) h1, h2, fun pos cv hc => by
      obtain ⟨c, e1, e2⟩ := h3 pos cv hc
      exact ⟨c, e1, kp _ _ (fun z => z) e2⟩⟩
def spLawL (K : PySem.W.Frag) (P : Addr) : Sp := fun vs H Q _ => ∃ (a : Addr) (ns : List Int), vs = [.ref a] ∧ SqL K H a (ns.map V.int) ∧ ns.length ≤ 63 ∧ H P = some (.tbl #[]) ∧ ∀ H', Q (.bl true) H'
omit [Memo] in
theorem law_okL {P : Program} {w : World} {T : Tab} {base : Heap} {oc kV doc pm ct : Value} {od an : Option Addr} {osl : Array (Option Value)} {c Pt : Addr} (O : TabOk T K w mg) (h4 : 4 ≤ T.c) (n : Nat) {f : Nat} {F : FDef} {st : Stmt} {a : Addr}
    (lk : K.lookup a = some ⟨oc, od, .func (PySem.W.fnOf F.name F.name (defArgs st) (defBody st) (defScope st) .none kV doc pm an (.ref c) ct), osl⟩) (hcd : PySem.W.codeIn K (.ref c) F.name = true) (hc : chkD T F st = true) (hF : T.fn f = some F) (TB : LamX.TabB base mg c Pt) (h1 : F.ps.length = 1)
    (pl : ∀ ns : List Int, ns.length ≤ 63 → T.run (n + 1) f [.list (ns.map .int)] = some (.bool true)) :
    FnOk P w K mg base CX0 (T.c * (n + 1)) a (PySem.W.fnOf F.name F.name (defArgs st) (defBody st) (defScope st) .none kV doc pm an (.ref c) ct) F.ps (spLawL K Pt) := by
  have el : T.c * (n + 1) = T.c * n + (T.c - 1) + 1 := by have := O.cp; rw [Nat.mul_succ]; omega
  rw [el]
  simp only [chkD, Bool.and_eq_true] at hc
  have S := scope_of hc.1
  letI : Memo := lamMemo Pt ((envOfC F.name (defScope st) 0 a (.ref c)).qual ++ "<lambda>")
  refine ⟨fun vs H Q E ⟨b, ns, e, _⟩ => by rw [e, h1]; rfl, fun A outer s H args us vs Q E hr e0 hb rv ⟨b, ns, e, hS, h63, hP, q⟩ => ?_⟩
  subst e
  refine LamX.run_ofS (N := F.N) (ps := F.ps) lk hcd S hr e0 hb rv (by rw [h1]; rfl) fun hr' => ?_
  have sub : Sub H (hardPart H) := hp_sub (LamX.TabS.nil hP)
  have rA : RpAll K (hardPart H) [.ref b] [.list (ns.map .int)] := .cons (.lst (hp_seq hS) (by rw [List.length_map, sizeLine_eq]; omega) (RpAll.of_ints ns)) .nil
  have C : Cok T n (cxOf CX0 P w K mg base F.N F.name (defScope st) a (.ref c) A outer s H E).nox :=
    ⟨S.nd, rfl, rfl, S.kind, hr'.mono (by omega), O.blt, O.glb, fun g G hG hS => all_ok O n g G hG hS⟩
  have W : SrtOk T n (cxOf CX0 P w K mg base F.N F.name (defScope st) a (.ref c) A outer s H E).nox :=
    ⟨⟨c, Pt, rfl, TB, fun H Hf z => z, fun _ _ z => z, fun _ _ _ _ z => z⟩, hr'.mono (by omega)⟩
  refine ⟨_, (sndSs F.body _ _ C (fun _ => ⟨W⟩) rfl hc.2).nox, body_in S hF sub rA (pl ns h63) fun v H' Hf' e r => ?_⟩
  cases r
  exact q H'
end
theorem walk {l : PySem.W.OpenLaw} {q : Program} {loose : List Str} {XP : (Str → Option Value) → Heap → Prop} {YP : World → Heap → Prop} {d : DefRec} {K : Params → PySem.W.Frag} (hn : l.most = some 63) (hdf : d.params.defaults = [])
    (hY : ∀ (w : World) (h : Heap), YP w h → (K w.params).In h)
    (F : ∀ (w : World) (mg : Str → Option Value) (fa : Addr) (h : Heap), (K w.params).In h → h.Ns mainGlobals mg → mg d.name = some (.ref fa) →
      ∃ fd : FuncData, (∀ (s : Shared) (u : Value), BindsTo s fd ⟨[u], []⟩ [("_law_script", u)]) ∧ ∀ base : Heap, (K w.params).In base → base.Ns mainGlobals mg → FnOk l.prog w (K w.params) mg base CX0 200 fa fd ["_law_script"] (spLaw (K w.params))) :
    PySem.W.WalkO q loose XP YP l.row.toRowW d [] (fun f vs => PySem.call f vs) :=
  L2.walk_of (n := 63) (k := 200) (x := "_law_script") (CX := fun _ => CX0) (sp := fun w => spLaw (K w.params)) hn (by decide) hdf ⟨rfl, by decide, by decide⟩ hY F (fun _ _ a ns hl _ hS => ⟨a, ns, rfl, hS, hl, fun _ => rfl⟩) fun _ _ _ _ _ z => z
omit [Memo] in
theorem walkL {l : PySem.W.OpenLaw} {q : Program} {loose : List Str} {XP : (Str → Option Value) → Heap → Prop} {YP : World → Heap → Prop} {d : DefRec} {K : Params → PySem.W.Frag} (hn : l.most = some 63) (hdf : d.params.defaults = []) (hrec : (recsOf q).find? (fun e => e.name == d.name) = some d)
    (hY : ∀ (w : World) (h : Heap), YP w h → (K w.params).In h)
    (F : ∀ (w : World) (mg : Str → Option Value) (fa : Addr) (h : Heap), (K w.params).In h → h.Ns mainGlobals mg → mg d.name = some (.ref fa) →
      ∃ (fd : FuncData) (c P : Addr), PySem.W.tabIn (K w.params) d.name = some (c, P) ∧ (K w.params).lookup P = none ∧ (∀ (s : Shared) (u : Value), BindsTo s fd ⟨[u], []⟩ [("_law_script", u)]) ∧ ∀ base : Heap, LamX.TabB base mg c P → FnOk l.prog w (K w.params) mg base CX0 200 fa fd ["_law_script"] (spLawL (K w.params) P)) :
    PySem.W.WalkO q loose XP YP l.row.toRowW d [] (fun f vs => PySem.call f vs) := by
  refine Att.attach_callB hn hdf fun w s₀ s₁ mg mb fa o pm cd doc a vs ns G Y ho hd hcd hmg hobj hints hlen hbits hg => ?_
  have KX := hY w _ Y
  obtain ⟨fd, c, P, ht, nT, hb, hF⟩ := F w mg fa _ KX G.T.g hmg
  obtain ⟨C, T0⟩ := PySem.W.tab_of G.T KX hrec ht
  refine LamX.law_callTs (cs := [(c, P)]) (k := 200) (CX := CX0) KX G.T.g G.T.b G.T.builtins G.T.nolimit hg ?_ ?_ ?_ G.T.bmain hobj hints (Nat.le_trans hlen (by decide)) ⟨rfl, by decide, by decide⟩ (fun base _ _ TB => hF base (TB (c, P) (by simp))) hb (fun H hH hS => ⟨a, ns, rfl, hS, hlen, hH (c, P) (by simp), fun _ => rfl⟩) fun H e s' z => z
  · intro p hp; rw [List.mem_singleton] at hp; subst hp; exact T0
  · intro p hp; rw [List.mem_singleton] at hp; subst hp; exact nT
  · intro p hp; rw [List.mem_singleton] at hp; subst hp; exact C
end Ev

/-! EvP: the small language's equations, told for reckoning: no function is looked into before its argument is there. -/
namespace Ev
open PySem L2
section
variable (G : Nat → Option PyData) (run : Nat → List PyData → Option PyData)
def ap2 (f : PyData → PyData → Option PyData) (x y : Option PyData) : Option PyData := x.bind fun a => y.bind fun b => f a b
@[simp] theorem ap2_some (f : PyData → PyData → Option PyData) (a b : PyData) : ap2 f (some a) (some b) = f a b := rfl
def negD : PyData → Option PyData
  | .int i => some (.int (-i))
  | _ => none
@[simp] theorem negD_int (i : Int) : negD (.int i) = some (.int (-i)) := rfl
def notD : Option PyData → Option PyData
  | some (.bool b) => some (.bool (!b))
  | _ => none
@[simp] theorem notD_bool (i : Bool) : notD (some (.bool i)) = some (.bool (!i)) := rfl
def andK (b : PX) (ρ : Rho) (x : Bool) : Option PyData := if x then evE G run b ρ else some (.bool false)
@[simp] theorem andK_t (b : PX) (ρ : Rho) : andK G run b ρ true = evE G run b ρ := rfl
@[simp] theorem andK_f (b : PX) (ρ : Rho) : andK G run b ρ false = some (.bool false) := rfl
def orK (b : PX) (ρ : Rho) (x : Bool) : Option PyData := if x then some (.bool true) else evE G run b ρ
@[simp] theorem orK_t (b : PX) (ρ : Rho) : orK G run b ρ true = some (.bool true) := rfl
@[simp] theorem orK_f (b : PX) (ρ : Rho) : orK G run b ρ false = evE G run b ρ := rfl
@[simp] theorem boolOf_bool (b : Bool) : boolOf (some (.bool b)) = some b := rfl
def copD (op : COp) (x y : PyData) : Option PyData := (cop op x y).map .bool
def isND (ng : Bool) (x : PyData) : Option PyData := some (.bool (xor ng (isNone x)))
def isID (t : Ty) (x : PyData) : Option PyData := some (.bool (isTy t x))
def tupD (ds : List PyData) : Option PyData := if ds.length ≤ 1000 then some (.tuple ds) else none
def lstD (ds : List PyData) : Option PyData := if ds.length ≤ 1000 then some (.list ds) else none
def slK (x : PyData) (l h : Option Int) : Option PyData := slD x l h
def ap3 (x : Option PyData) (l h : Option (Option Int)) : Option PyData := x.bind fun a => l.bind fun b => h.bind fun c => slD a b c
@[simp] theorem ap3_some (x : PyData) (l h : Option Int) : ap3 (some x) (some l) (some h) = slD x l h := rfl
def chainK (o2 : COp) (c : PX) (ρ : Rho) (y : PyData) (k : Bool) : Option PyData := if k then ap2 (copD o2) (some y) (evE G run c ρ) else some (.bool false)
@[simp] theorem chainK_t (o2 : COp) (c : PX) (ρ : Rho) (y : PyData) : chainK G run o2 c ρ y true = ap2 (copD o2) (some y) (evE G run c ρ) := rfl
@[simp] theorem chainK_f (o2 : COp) (c : PX) (ρ : Rho) (y : PyData) : chainK G run o2 c ρ y false = some (.bool false) := rfl
def chain1 (o1 o2 : COp) (c : PX) (ρ : Rho) (x y : Option PyData) : Option PyData := x.bind fun a => y.bind fun b => (cop o1 a b).bind (chainK G run o2 c ρ b)
@[simp] theorem chain1_some (o1 o2 : COp) (c : PX) (ρ : Rho) (a b : PyData) : chain1 G run o1 o2 c ρ (some a) (some b) = (cop o1 a b).bind (chainK G run o2 c ρ b) := rfl
def compD (tg : Tg) (elt c : PX) (ρ : Rho) (ds : List PyData) : Option (List PyData) := compR tg (fun ρ1 => boolOf (evE G run c ρ1)) (fun ρ1 => evE G run elt ρ1) ρ ds
def rgK (d : PyData) : Option (List PyData) := match d with
  | .int n => if rngOk n then some (rgD n) else none
  | _ => none
def rg2K (d e : PyData) : Option (List PyData) := match d, e with
  | .int n, .int m => if rngOk n && rngOk m && rngOk (m - n) then some (rg2 n m) else none
  | _, _ => none
def ap2L (f : PyData → PyData → Option (List PyData)) (x y : Option PyData) : Option (List PyData) := x.bind fun a => y.bind fun b => f a b
@[simp] theorem ap2L_some (f : PyData → PyData → Option (List PyData)) (a b : PyData) : ap2L f (some a) (some b) = f a b := rfl
def consO (d : Option PyData) (ds : Option (List PyData)) : Option (List PyData) := d.bind fun d => ds.map (d :: ·)
@[simp] theorem consO_some (d : PyData) (ds : List PyData) : consO (some d) (some ds) = some (d :: ds) := rfl
def enumK (d : PyData) : Option (List PyData) := (seqD d).map (enumD 0)

@[simp] theorem evE_var (i : Nat) (ρ : Rho) : evE G run (.var i) ρ = getV i ρ := by rw [evE]
@[simp] theorem evE_lit (d : PyData) (ρ : Rho) : evE G run (.lit d) ρ = some d := by rw [evE]
@[simp] theorem evE_glb (g : Nat) (ρ : Rho) : evE G run (.glb g) ρ = glV (G g) := by rw [evE]
@[simp] theorem glV_int (i : Int) : glV (some (.int i)) = some (.int i) := rfl
@[simp] theorem glV_tup (i : List PyData) : glV (some (.tuple i)) = some (.tuple i) := rfl
@[simp] theorem evE_bin (op : BOp) (a b : PX) (ρ : Rho) : evE G run (.bin op a b) ρ = ap2 (bop op) (evE G run a ρ) (evE G run b ρ) := by rw [evE]; rfl
@[simp] theorem evE_neg (a : PX) (ρ : Rho) : evE G run (.neg a) ρ = (evE G run a ρ).bind negD := by
  rw [evE]
  cases evE G run a ρ with
  | none => rfl
  | some d => cases d <;> rfl
@[simp] theorem evE_not (a : PX) (ρ : Rho) : evE G run (.not a) ρ = notD (evE G run a ρ) := by
  rw [evE]
  cases evE G run a ρ with
  | none => rfl
  | some d => cases d <;> rfl
@[simp] theorem evE_and (a b : PX) (ρ : Rho) : evE G run (.and a b) ρ = (boolOf (evE G run a ρ)).bind (andK G run b ρ) := by rw [evE]; rfl
@[simp] theorem evE_or (a b : PX) (ρ : Rho) : evE G run (.or a b) ρ = (boolOf (evE G run a ρ)).bind (orK G run b ρ) := by rw [evE]; rfl
@[simp] theorem evE_cmp (op : COp) (a b : PX) (ρ : Rho) : evE G run (.cmp op a b) ρ = ap2 (copD op) (bor a ρ (evE G run a ρ)) (bor b ρ (evE G run b ρ)) := by rw [evE]; rfl
@[simp] theorem evE_isN (ng : Bool) (a : PX) (ρ : Rho) : evE G run (.isN ng a) ρ = (bor a ρ (evE G run a ρ)).bind (isND ng) := by
  rw [evE]
  cases bor a ρ (evE G run a ρ) <;> rfl
@[simp] theorem evE_chain (o1 o2 : COp) (a b c : PX) (ρ : Rho) : evE G run (.chain o1 o2 a b c) ρ = chain1 G run o1 o2 c ρ (evE G run a ρ) (evE G run b ρ) := by rw [evE]; rfl
@[simp] theorem evE_tup (es : PXs) (ρ : Rho) : evE G run (.tup es) ρ = (evEs G run es ρ).bind tupD := by rw [evE]; rfl
@[simp] theorem evE_lst (es : PXs) (ρ : Rho) : evE G run (.lst es) ρ = (evEs G run es ρ).bind lstD := by rw [evE]; rfl
@[simp] theorem evE_ix (a i : PX) (ρ : Rho) : evE G run (.ix a i) ρ = ap2 ixD (bor a ρ (evE G run a ρ)) (evE G run i ρ) := by rw [evE]; rfl
@[simp] theorem evE_slc (a lo hi : PX) (ρ : Rho) : evE G run (.slc a lo hi) ρ = ap3 (bor a ρ (evE G run a ρ)) (slP lo (evE G run lo ρ)) (slP hi (evE G run hi ρ)) := by rw [evE]; rfl
@[simp] theorem evE_rev (a : PX) (ρ : Rho) : evE G run (.rev a) ρ = (bor a ρ (evE G run a ρ)).bind revD := by rw [evE]
@[simp] theorem evE_call (f : Nat) (es : PXs) (ρ : Rho) : evE G run (.call f es) ρ = (evEs G run es ρ).bind (run f) := by rw [evE]
@[simp] theorem evE_blt (b : Blt) (a : PX) (ρ : Rho) : evE G run (.blt b a) ρ = (bor a ρ (evE G run a ρ)).bind (blt b) := by rw [evE]
@[simp] theorem evE_isI (a : PX) (t : Ty) (ρ : Rho) : evE G run (.isI a t) ρ = (bor a ρ (evE G run a ρ)).bind (isID t) := by
  rw [evE]
  cases bor a ρ (evE G run a ρ) <;> rfl
@[simp] theorem evE_join (o a : PX) (ρ : Rho) : evE G run (.join o a) ρ = ap2 joinD (evE G run o ρ) (bor a ρ (evE G run a ρ)) := by rw [evE]; rfl
@[simp] theorem evE_index (o a : PX) (ρ : Rho) : evE G run (.index o a) ρ = ap2 idxD (bor o ρ (evE G run o ρ)) (evE G run a ρ) := by rw [evE]; rfl
@[simp] theorem evE_lc (ws : List Nat) (elt : PX) (tg : Tg) (it : PIt) (c : PX) (ρ : Rho) : evE G run (.lc ws elt tg it c) ρ = ((evI G run true it ρ).bind (compD G run tg elt c (wipeR ρ ws))).map .list := by
  rw [evE]
  cases evI G run true it ρ <;> rfl
@[simp] theorem evE_rngL (a : PX) (ρ : Rho) : evE G run (.rngL a) ρ = ((evE G run a ρ).bind rgK).map .list := by
  rw [evE]
  cases evE G run a ρ with
  | none => rfl
  | some d =>
    cases d <;> try rfl
    rename_i n
    show (if rngOk n then some (PyData.list (rgD n)) else none) = (if rngOk n then some (rgD n) else none).map PyData.list
    split <;> rfl
def pick3 (ks : List Str) (x y : Option PyData) (ds : List PyData) : Option PyData := x.bind fun a => y.bind fun b => getX ks ds a b
@[simp] theorem pick3_some (ks : List Str) (x y : PyData) (ds : List PyData) : pick3 ks (some x) (some y) ds = getX ks ds x y := rfl
def pick2 (ks : List Str) (x : Option PyData) (ds : List PyData) : Option PyData := x.bind (pickX ks ds)
@[simp] theorem pick2_some (ks : List Str) (x : PyData) (ds : List PyData) : pick2 ks (some x) ds = pickX ks ds x := rfl
@[simp] theorem evE_pick (ks : List Str) (es : PXs) (k : PX) (ρ : Rho) : evE G run (.pick ks es k) ρ = (evEs G run es ρ).bind (pick2 ks (evE G run k ρ)) := by rw [evE]; rfl
@[simp] theorem evE_getd (ks : List Str) (es : PXs) (k d : PX) (ρ : Rho) : evE G run (.getd ks es k d) ρ = (evEs G run es ρ).bind (pick3 ks (evE G run k ρ) (evE G run d ρ)) := by rw [evE]; rfl
@[simp] theorem evE_inG (neg : Bool) (k : PX) (g : Nat) (ρ : Rho) : evE G run (.inG neg k g) ρ = (evE G run k ρ).bind (gdHas neg (G g)) := by rw [evE]
@[simp] theorem evE_pickG (k : PX) (g : Nat) (ρ : Rho) : evE G run (.pickG g k) ρ = (evE G run k ρ).bind (gdGet (G g)) := by rw [evE]
@[simp] theorem evE_sset (a : PX) (ρ : Rho) : evE G run (.sset a) ρ = (bor a ρ (evE G run a ρ)).bind ssetD := by rw [evE]
def iteE (a b : PX) (ρ : Rho) (k : Bool) : Option PyData := if k then evE G run a ρ else evE G run b ρ
@[simp] theorem iteE_t (a b : PX) (ρ : Rho) : iteE G run a b ρ true = evE G run a ρ := rfl
@[simp] theorem iteE_f (a b : PX) (ρ : Rho) : iteE G run a b ρ false = evE G run b ρ := rfl
@[simp] theorem evE_ife (c a b : PX) (ρ : Rho) : evE G run (.ife c a b) ρ = (boolOf (evE G run c ρ)).bind (iteE G run a b ρ) := by rw [evE]; rfl
@[simp] theorem evE_pickV (i : Nat) (k : PX) (ρ : Rho) : evE G run (.pickV i k) ρ = (evE G run k ρ).bind (pickS ρ i) := by rw [evE]
@[simp] theorem evEs_nil (ρ : Rho) : evEs G run .nil ρ = some [] := by rw [evEs]
@[simp] theorem evEs_cons (e : PX) (es : PXs) (ρ : Rho) : evEs G run (.cons e es) ρ = consO (evE G run e ρ) (evEs G run es ρ) := by rw [evEs]; rfl
@[simp] theorem evI_seqT (a : PX) (ρ : Rho) : evI G run true (.seq a) ρ = (bor a ρ (evE G run a ρ)).bind seqD := by rw [evI]; rfl
@[simp] theorem evI_seqF (a : PX) (ρ : Rho) : evI G run false (.seq a) ρ = (evE G run a ρ).bind seqD := by rw [evI]; rfl
@[simp] theorem evI_rng1 (b : Bool) (a : PX) (ρ : Rho) : evI G run b (.rng1 a) ρ = (evE G run a ρ).bind rgK := by
  rw [evI]
  cases evE G run a ρ with
  | none => rfl
  | some d => cases d <;> rfl
@[simp] theorem evI_rng2 (b : Bool) (a c : PX) (ρ : Rho) : evI G run b (.rng2 a c) ρ = ap2L rg2K (evE G run a ρ) (evE G run c ρ) := by
  rw [evI]
  cases evE G run a ρ with
  | none => rfl
  | some d =>
    cases evE G run c ρ with
    | none => cases d <;> rfl
    | some e => cases d <;> cases e <;> rfl
@[simp] theorem evI_enumT (a : PX) (ρ : Rho) : evI G run true (.enum a) ρ = (bor a ρ (evE G run a ρ)).bind enumK := by rw [evI]; rfl
@[simp] theorem evI_enumF (a : PX) (ρ : Rho) : evI G run false (.enum a) ρ = (evE G run a ρ).bind enumK := by rw [evI]; rfl
@[simp] theorem evI_zip (b : Bool) (a c : PX) (ρ : Rho) : evI G run b (.zip a c) ρ = ap2L zipDD (evE G run a ρ) (evE G run c ρ) := by rw [evI]; rfl

/-! ### statements -/
def cont (r : QSs) : Out → Option Out := thenO (evSs G run r)
@[simp] theorem cont_nx (r : QSs) (ρ : Rho) : cont G run r (.nx ρ) = evSs G run r ρ := rfl
@[simp] theorem cont_rt (r : QSs) (v : PyData) : cont G run r (.rt v) = some (.rt v) := rfl
def setK (i : Nat) (ρ : Rho) (d : PyData) : Option Out := some (.nx (ρ.set i (.val d)))
@[simp] theorem setK_eq (i : Nat) (ρ : Rho) (d : PyData) : setK i ρ d = some (.nx (ρ.set i (.val d))) := rfl
def asgK (tg : Tg) (ρ : Rho) (d : PyData) : Option Out := (asg tg d ρ).map .nx
def iteS (a b : QSs) (ρ : Rho) (k : Bool) : Option Out := if k then evSs G run a ρ else evSs G run b ρ
@[simp] theorem iteS_t (a b : QSs) (ρ : Rho) : iteS G run a b ρ true = evSs G run a ρ := rfl
@[simp] theorem iteS_f (a b : QSs) (ρ : Rho) : iteS G run a b ρ false = evSs G run b ρ := rfl
def loopD (tg : Tg) (b : QSs) (ρ : Rho) (ds : List PyData) : Option Out := loopR (fun d ρ1 => (asg tg d ρ1).bind fun ρ2 => evSs G run b ρ2) ds ρ
def loopK (tg : Tg) (b : QSs) (ds : List PyData) (o : Out) : Option Out := thenO (fun ρ => loopD G run tg b ρ ds) o
@[simp] theorem loopK_nx (tg : Tg) (b : QSs) (ds : List PyData) (ρ : Rho) : loopK G run tg b ds (.nx ρ) = loopD G run tg b ρ ds := rfl
@[simp] theorem loopK_rt (tg : Tg) (b : QSs) (ds : List PyData) (v : PyData) : loopK G run tg b ds (.rt v) = some (.rt v) := rfl
theorem loopD_nil (tg : Tg) (b : QSs) (ρ : Rho) : loopD G run tg b ρ [] = some (.nx ρ) := rfl
theorem loopD_cons (tg : Tg) (b : QSs) (ρ : Rho) (d : PyData) (ds : List PyData) : loopD G run tg b ρ (d :: ds) = ((asg tg d ρ).bind (evSs G run b)).bind (loopK G run tg b ds) := by
  unfold loopD
  rw [loopR]
  rfl
theorem compD_nil (tg : Tg) (elt c : PX) (ρ : Rho) : compD G run tg elt c ρ [] = some [] := rfl
def compK (elt : PX) (ρ : Rho) (r : Option (List PyData)) (b : Bool) : Option (List PyData) := if b then consO (evE G run elt ρ) r else r
@[simp] theorem compK_t (elt : PX) (ρ : Rho) (r : Option (List PyData)) : compK G run elt ρ r true = consO (evE G run elt ρ) r := rfl
@[simp] theorem compK_f (elt : PX) (ρ : Rho) (r : Option (List PyData)) : compK G run elt ρ r false = r := rfl
def compT (elt c : PX) (r : Option (List PyData)) (ρ : Rho) : Option (List PyData) := (boolOf (evE G run c ρ)).bind (compK G run elt ρ r)
@[simp] theorem compT_eq (elt c : PX) (r : Option (List PyData)) (ρ : Rho) : compT G run elt c r ρ = (boolOf (evE G run c ρ)).bind (compK G run elt ρ r) := rfl
theorem compD_cons (tg : Tg) (elt c : PX) (ρ : Rho) (d : PyData) (ds : List PyData) : compD G run tg elt c ρ (d :: ds) = (asg tg d ρ).bind (compT G run elt c (compD G run tg elt c ρ ds)) := by
  unfold compD
  rw [compR]
  rfl
/-- a comprehension, item by item -/
theorem compD_of {tg : Tg} {elt c : PX} {ρ : Rho} (f : PyData → Option PyData) : ∀ (ds : List PyData), (∀ d ∈ ds, ∃ ρ1, asg tg d ρ = some ρ1 ∧ ((∃ y, f d = some y ∧ boolOf (evE G run c ρ1) = some true ∧ evE G run elt ρ1 = some y) ∨ (f d = none ∧ boolOf (evE G run c ρ1) = some false))) →
    compD G run tg elt c ρ ds = some (ds.filterMap f)
  | [], _ => rfl
  | d :: ds, h => by
    obtain ⟨ρ1, h1, h2⟩ := h d (by simp)
    rw [compD_cons, h1, Option.bind_some, compT_eq, compD_of f ds fun e he => h e (List.mem_cons_of_mem _ he)]
    rcases h2 with ⟨y, h3, h4, h5⟩ | ⟨h3, h4⟩
    · rw [h4, Option.bind_some, compK_t, h5, consO_some, List.filterMap_cons_some h3]
    · rw [h4, Option.bind_some, compK_f, List.filterMap_cons_none h3]
/-- without a test -/
theorem compD_map {tg : Tg} {elt c : PX} {ρ : Rho} (f : PyData → PyData) (ds : List PyData) (h : ∀ d ∈ ds, ∃ ρ1, asg tg d ρ = some ρ1 ∧ boolOf (evE G run c ρ1) = some true ∧ evE G run elt ρ1 = some (f d)) :
    compD G run tg elt c ρ ds = some (ds.map f) := by
  rw [compD_of G run (fun d => some (f d)) ds fun d hd => ?_]
  · simp
  · obtain ⟨ρ1, h1, h2, h3⟩ := h d hd
    exact ⟨ρ1, h1, .inl ⟨f d, rfl, h2, h3⟩⟩
/-- the items that pass -/
theorem compD_filter {tg : Tg} {elt c : PX} {ρ : Rho} (p : PyData → Bool) (f : PyData → PyData) (ds : List PyData) (h : ∀ d ∈ ds, ∃ ρ1, asg tg d ρ = some ρ1 ∧ boolOf (evE G run c ρ1) = some (p d) ∧ (p d = true → evE G run elt ρ1 = some (f d))) :
    compD G run tg elt c ρ ds = some ((ds.filter p).map f) := by
  rw [compD_of G run (fun d => if p d then some (f d) else none) ds fun d hd => ?_]
  · congr 1
    induction ds with
    | nil => rfl
    | cons a r ih =>
      have ih := ih fun d hd => h d (List.mem_cons_of_mem _ hd)
      by_cases c : p a = true
      · rw [List.filterMap_cons_some (by rw [if_pos c]), ih, List.filter_cons_of_pos c, List.map_cons]
      · rw [List.filterMap_cons_none (by rw [if_neg c]), ih, List.filter_cons_of_neg c]
  · obtain ⟨ρ1, h1, h2, h3⟩ := h d hd
    by_cases c : p d = true
    · exact ⟨ρ1, h1, .inl ⟨f d, by rw [if_pos c], by rw [h2, c], h3 c⟩⟩
    · exact ⟨ρ1, h1, .inr ⟨by rw [if_neg c], by rw [h2]; simpa using c⟩⟩
/-- over a coded list -/
theorem compD_code {α : Type} {tg : Tg} {elt c : PX} {ρ : Rho} (g : α → PyData) (p : α → Bool) (f : α → PyData) : ∀ (xs : List α), (∀ x ∈ xs, ∃ ρ1, asg tg (g x) ρ = some ρ1 ∧ boolOf (evE G run c ρ1) = some (p x) ∧ (p x = true → evE G run elt ρ1 = some (f x))) →
    compD G run tg elt c ρ (xs.map g) = some ((xs.filter p).map f)
  | [], _ => rfl
  | x :: xs, h => by
    obtain ⟨ρ1, h1, h2, h3⟩ := h x (by simp)
    rw [List.map_cons, compD_cons, h1, Option.bind_some, compT_eq, compD_code g p f xs fun e he => h e (List.mem_cons_of_mem _ he), h2, Option.bind_some]
    cases hp : p x
    · rw [compK_f, List.filter_cons_of_neg (by simp [hp])]
    · rw [compK_t, h3 hp, consO_some, List.filter_cons_of_pos hp, List.map_cons]
theorem compD_codeM {α : Type} {tg : Tg} {elt c : PX} {ρ : Rho} (g : α → PyData) (f : α → PyData) (xs : List α) (h : ∀ x ∈ xs, ∃ ρ1, asg tg (g x) ρ = some ρ1 ∧ boolOf (evE G run c ρ1) = some true ∧ evE G run elt ρ1 = some (f x)) :
    compD G run tg elt c ρ (xs.map g) = some (xs.map f) := by
  have := compD_code G run g (fun _ => true) f xs fun x hx => by
    obtain ⟨ρ1, h1, h2, h3⟩ := h x hx
    exact ⟨ρ1, h1, h2, fun _ => h3⟩
  rwa [List.filter_eq_self.mpr (by simp)] at this
@[simp] theorem evSs_nil (ρ : Rho) : evSs G run .nil ρ = some (.nx ρ) := by rw [evSs]
@[simp] theorem evSs_cons (s : QS) (r : QSs) (ρ : Rho) : evSs G run (.cons s r) ρ = (evS G run s ρ).bind (cont G run r) := by rw [evSs]; rfl
@[simp] theorem evS_set (fz : List Nat) (i : Nat) (e : PX) (ρ : Rho) : evS G run (.set fz i e) ρ = (evE G run e (frzs fz ρ)).bind (setK i (frzs fz ρ)) := by
  rw [evS]
  cases evE G run e (frzs fz ρ) <;> rfl
def setDK (i : Nat) (ks : List Str) (ρ : Rho) (ds : List PyData) : Option Out := some (.nx (ρ.set i (.dic ks ds)))
@[simp] theorem setDK_eq (i : Nat) (ks : List Str) (ρ : Rho) (ds : List PyData) : setDK i ks ρ ds = some (.nx (ρ.set i (.dic ks ds))) := rfl
@[simp] theorem evS_setD (fz : List Nat) (i : Nat) (ks : List Str) (es : PXs) (ρ : Rho) : evS G run (.setD fz i ks es) ρ = (evEs G run es (frzs fz ρ)).bind (setDK i ks (frzs fz ρ)) := by
  rw [evS]
  cases evEs G run es (frzs fz ρ) <;> rfl
@[simp] theorem evS_setO (fz : List Nat) (i : Nat) (e : PX) (ρ : Rho) : evS G run (.setO fz i e) ρ = (evE G run e (frzs fz ρ)).bind (ownSet i (frzs fz ρ)) := by rw [evS]
@[simp] theorem evS_setT (fz is : List Nat) (e : PX) (ρ : Rho) : evS G run (.setT fz is e) ρ = (evE G run e (frzs fz ρ)).bind (asgK (.tp is) (frzs fz ρ)) := by rw [evS]; rfl
@[simp] theorem evS_app (fz : List Nat) (i : Nat) (e : PX) (ρ : Rho) : evS G run (.app fz i e) ρ = (evE G run e (frzs fz ρ)).bind (ownApp i (frzs fz ρ)) := by rw [evS]
@[simp] theorem evS_ext (fz : List Nat) (i : Nat) (e : PX) (ρ : Rho) : evS G run (.ext fz i e) ρ = (evE G run e (frzs fz ρ)).bind (ownExt i (frzs fz ρ)) := by rw [evS]
@[simp] theorem evS_iff (fz : List Nat) (c : PX) (a b : QSs) (ρ : Rho) : evS G run (.iff fz c a b) ρ = (boolOf (evE G run c (frzs fz ρ))).bind (iteS G run a b (frzs fz ρ)) := by rw [evS]; rfl
@[simp] theorem evS_for (fz : List Nat) (tg : Tg) (it : PIt) (b : QSs) (ρ : Rho) : evS G run (.for fz tg it b) ρ = (evI G run false it (frzs fz ρ)).bind (loopD G run tg b (frzs fz ρ)) := by rw [evS]; rfl
@[simp] theorem evS_ret (fz : List Nat) (e : PX) (ρ : Rho) : evS G run (.ret fz e) ρ = (evE G run e (frzs fz ρ)).map .rt := by rw [evS]
@[simp] theorem evS_srt (fz : List Nat) (i : Nat) (tup : Bool) (a : PX) (js : List Nat) (ln : List Str) (b : PX) (ρ : Rho) : evS G run (.srt fz i tup a js ln b) ρ = (srtE tup (evE G run a (frzs fz ρ)) (capsR js (frzs fz ρ)) fun ρ1 => evE G run b ρ1).map fun d => .nx ((frzs fz ρ).set i (.val d)) := by rw [evS]
@[simp] theorem evS_retN (ρ : Rho) : evS G run .retN ρ = some (.rt .none) := by rw [evS]
@[simp] theorem evS_pass (ρ : Rho) : evS G run .pass ρ = some (.nx ρ) := by rw [evS]
end
@[simp] theorem frzs_nil (ρ : Rho) : frzs [] ρ = ρ := rfl
@[simp] theorem frzs_cons (i : Nat) (l : List Nat) (ρ : Rho) : frzs (i :: l) ρ = frzs l (frz1 i ρ) := rfl
@[simp] theorem frz1_nil (i : Nat) : frz1 i [] = [] := by cases i <;> rfl
@[simp] theorem frz1_own0 (ds : List PyData) (r : Rho) : frz1 0 (.own ds :: r) = .val (.list ds) :: r := rfl
@[simp] theorem frz1_val0 (ds : PyData) (r : Rho) : frz1 0 (.val ds :: r) = .val ds :: r := rfl
@[simp] theorem frz1_un0 (r : Rho) : frz1 0 (.un :: r) = .un :: r := rfl
@[simp] theorem frz1_succ (n : Nat) (s : Sl) (r : Rho) : frz1 (n + 1) (s :: r) = s :: frz1 n r := by rw [frz1]
@[simp] theorem getV_0 (d : PyData) (r : Rho) : getV 0 (.val d :: r) = some d := rfl
@[simp] theorem getV_s (n : Nat) (s : Sl) (r : Rho) : getV (n + 1) (s :: r) = getV n r := by simp [getV]
@[simp] theorem bor_0 (ds : List PyData) (r : Rho) (x : Option PyData) : bor (.var 0) (.own ds :: r) x = some (.list ds) := rfl
@[simp] theorem bor_0v (d : PyData) (r : Rho) (x : Option PyData) : bor (.var 0) (.val d :: r) x = x := rfl
@[simp] theorem bor_s (n : Nat) (s : Sl) (r : Rho) (x : Option PyData) : bor (.var (n + 1)) (s :: r) x = bor (.var n) r x := by simp [bor]
@[simp] theorem bor_lit (d : PyData) (ρ : Rho) (x : Option PyData) : bor (.lit d) ρ x = x := rfl
@[simp] theorem bor_glb (d : Nat) (ρ : Rho) (x : Option PyData) : bor (.glb d) ρ x = x := rfl
@[simp] theorem bor_bin (op : BOp) (a b : PX) (ρ : Rho) (x : Option PyData) : bor (.bin op a b) ρ x = x := rfl
@[simp] theorem bor_tup (a : PXs) (ρ : Rho) (x : Option PyData) : bor (.tup a) ρ x = x := rfl
@[simp] theorem bor_lst (a : PXs) (ρ : Rho) (x : Option PyData) : bor (.lst a) ρ x = x := rfl
@[simp] theorem bor_ix (a b : PX) (ρ : Rho) (x : Option PyData) : bor (.ix a b) ρ x = x := rfl
@[simp] theorem bor_slc (a b c : PX) (ρ : Rho) (x : Option PyData) : bor (.slc a b c) ρ x = x := rfl
@[simp] theorem bor_call (f : Nat) (b : PXs) (ρ : Rho) (x : Option PyData) : bor (.call f b) ρ x = x := rfl
@[simp] theorem bor_blt (f : Blt) (b : PX) (ρ : Rho) (x : Option PyData) : bor (.blt f b) ρ x = x := rfl
@[simp] theorem bor_lc (ws : List Nat) (elt : PX) (tg : Tg) (it : PIt) (c : PX) (ρ : Rho) (x : Option PyData) : bor (.lc ws elt tg it c) ρ x = x := rfl
@[simp] theorem bor_rngL (a : PX) (ρ : Rho) (x : Option PyData) : bor (.rngL a) ρ x = x := rfl
@[simp] theorem bor_cmp (op : COp) (a b : PX) (ρ : Rho) (x : Option PyData) : bor (.cmp op a b) ρ x = x := rfl
@[simp] theorem bor_isN (op : Bool) (a : PX) (ρ : Rho) (x : Option PyData) : bor (.isN op a) ρ x = x := rfl
@[simp] theorem bor_not (a : PX) (ρ : Rho) (x : Option PyData) : bor (.not a) ρ x = x := rfl
@[simp] theorem bor_and (a b : PX) (ρ : Rho) (x : Option PyData) : bor (.and a b) ρ x = x := rfl
@[simp] theorem bor_or (a b : PX) (ρ : Rho) (x : Option PyData) : bor (.or a b) ρ x = x := rfl
@[simp] theorem bor_pick (ks : List Str) (es : PXs) (k : PX) (ρ : Rho) (x : Option PyData) : bor (.pick ks es k) ρ x = x := rfl
@[simp] theorem bor_getd (ks : List Str) (es : PXs) (k d : PX) (ρ : Rho) (x : Option PyData) : bor (.getd ks es k d) ρ x = x := rfl
@[simp] theorem bor_pickV (i : Nat) (k : PX) (ρ : Rho) (x : Option PyData) : bor (.pickV i k) ρ x = x := rfl
@[simp] theorem pickX_str (ks : List Str) (ds : List PyData) (x : Str) : pickX ks ds (.str x) = pickD ks ds x := rfl
@[simp] theorem getX_str (ks : List Str) (ds : List PyData) (x : Str) (y : PyData) : getX ks ds (.str x) y = some ((pickD ks ds x).getD y) := rfl
@[simp] theorem pickD_nil (ds : List PyData) (x : Str) : pickD [] ds x = none := by cases ds <;> rfl
@[simp] theorem pickD_cons (k : Str) (ks : List Str) (d : PyData) (ds : List PyData) (x : Str) : pickD (k :: ks) (d :: ds) x = if k = x then some d else pickD ks ds x := rfl
@[simp] theorem pickS_0 (ks : List Str) (ds : List PyData) (r : Rho) (x : PyData) : pickS (.dic ks ds :: r) 0 x = pickX ks ds x := rfl
@[simp] theorem pickS_s (i : Nat) (s : Sl) (r : Rho) (x : PyData) : pickS (s :: r) (i + 1) x = pickS r i x := by simp [pickS]
@[simp] theorem frz1_dic0 (ks : List Str) (ds : List PyData) (r : Rho) : frz1 0 (.dic ks ds :: r) = .dic ks ds :: r := rfl
@[simp] theorem bor_isI (a : PX) (t : Ty) (ρ : Rho) (x : Option PyData) : bor (.isI a t) ρ x = x := rfl
@[simp] theorem bor_rev (a : PX) (ρ : Rho) (x : Option PyData) : bor (.rev a) ρ x = x := rfl
@[simp] theorem bor_inG (ng : Bool) (a : PX) (g : Nat) (ρ : Rho) (x : Option PyData) : bor (.inG ng a g) ρ x = x := rfl
@[simp] theorem bor_pickG (g : Nat) (a : PX) (ρ : Rho) (x : Option PyData) : bor (.pickG g a) ρ x = x := rfl
@[simp] theorem bor_sset (a : PX) (ρ : Rho) (x : Option PyData) : bor (.sset a) ρ x = x := rfl
@[simp] theorem bor_ife (a b c : PX) (ρ : Rho) (x : Option PyData) : bor (.ife a b c) ρ x = x := rfl
@[simp] theorem gdHas_eq (neg : Bool) (kvs : List (PyData × PyData)) (x : Str) : gdHas neg (some (.dict kvs)) (.str x) = some (.bool (xor neg (dkGet kvs x).isSome)) := rfl
@[simp] theorem gdGet_eq (kvs : List (PyData × PyData)) (x : Str) : gdGet (some (.dict kvs)) (.str x) = dkGet kvs x := rfl
@[simp] theorem dkGet_nil (x : Str) : dkGet [] x = none := rfl
@[simp] theorem dkGet_cons (k : Str) (d : PyData) (r : List (PyData × PyData)) (x : Str) : dkGet ((.str k, d) :: r) x = if k = x then some d else dkGet r x := rfl
@[simp] theorem revD_l (a : List PyData) : revD (.list a) = some (.list a.reverse) := rfl
@[simp] theorem revD_t (a : List PyData) : revD (.tuple a) = some (.tuple a.reverse) := rfl
@[simp] theorem bor_join (a b : PX) (ρ : Rho) (x : Option PyData) : bor (.join a b) ρ x = x := rfl
@[simp] theorem bor_index (a b : PX) (ρ : Rho) (x : Option PyData) : bor (.index a b) ρ x = x := rfl
@[simp] theorem slP_omit (x : Option PyData) : slP .omit x = some none := rfl
@[simp] theorem slP_lit (d : PyData) (i : Int) : slP (.lit d) (some (.int i)) = some (some i) := rfl
@[simp] theorem slP_var (d : Nat) (i : Int) : slP (.var d) (some (.int i)) = some (some i) := rfl
@[simp] theorem slP_bin (op : BOp) (a b : PX) (i : Int) : slP (.bin op a b) (some (.int i)) = some (some i) := rfl
@[simp] theorem outD_rt (d : PyData) : outD (.rt d) = d := rfl
@[simp] theorem outD_nx (ρ : Rho) : outD (.nx ρ) = .none := rfl
@[simp] theorem wipeR_nil (ρ : Rho) : wipeR ρ [] = ρ := rfl
@[simp] theorem wipeR_cons (ρ : Rho) (v : Nat) (vs : List Nat) : wipeR ρ (v :: vs) = (wipeR ρ vs).set v .un := rfl
@[simp] theorem asg_nm (i : Nat) (d : PyData) (ρ : Rho) : asg (.nm i) d ρ = some (ρ.set i (.val d)) := rfl
@[simp] theorem setAll_nil (ρ : Rho) : setAll [] [] ρ = ρ := rfl
@[simp] theorem setAll_cons (i : Nat) (is : List Nat) (d : PyData) (ds : List PyData) (ρ : Rho) : setAll (i :: is) (d :: ds) ρ = setAll is ds (ρ.set i (.val d)) := rfl
@[simp] theorem asg_tp (is : List Nat) (ds : List PyData) (ρ : Rho) : asg (.tp is) (.tuple ds) ρ = if is.length = ds.length then some (setAll is ds ρ) else none := rfl
@[simp] theorem asgK_eq (tg : Tg) (ρ : Rho) (d : PyData) : asgK tg ρ d = (asg tg d ρ).map .nx := rfl
@[simp] theorem ownSet_list (i : Nat) (ρ : Rho) (ds : List PyData) : ownSet i ρ (.list ds) = some (.nx (ρ.set i (.own ds))) := rfl
theorem ownApp_own {i : Nat} {ρ : Rho} {ds : List PyData} (d : PyData) (h : ρ[i]? = some (.own ds)) (hl : ds.length < 1000000) : ownApp i ρ d = some (.nx (ρ.set i (.own (ds ++ [d])))) := by
  unfold ownApp
  rw [h]
  simp [hl]
theorem ownExt_own {i : Nat} {ρ : Rho} {ds : List PyData} (es : List PyData) (h : ρ[i]? = some (.own ds)) (hl : ds.length + es.length ≤ 1000000) : ownExt i ρ (.list es) = some (.nx (ρ.set i (.own (ds ++ es)))) := by
  unfold ownExt
  rw [h]
  have : catOk ds.length es.length = true := by simp only [catOk, decide_eq_true_eq, sizeLine_eq]; omega
  simp [this]
/-! ### operators -/
@[simp] theorem bop_add_ii (a b : Int) : bop .add (.int a) (.int b) = some (.int (a + b)) := rfl
@[simp] theorem bop_sub_ii (a b : Int) : bop .sub (.int a) (.int b) = some (.int (a - b)) := rfl
theorem catOk_of {a b : Nat} (h : a + b ≤ 16777216) : catOk a b = true := by simp only [catOk, decide_eq_true_eq, sizeLine_eq]; exact h
@[simp] theorem bop_add_tt (a b : List PyData) : bop .add (.tuple a) (.tuple b) = if catOk a.length b.length then some (.tuple (a ++ b)) else none := rfl
@[simp] theorem bop_add_ll (a b : List PyData) : bop .add (.list a) (.list b) = if catOk a.length b.length then some (.list (a ++ b)) else none := rfl
@[simp] theorem bop_add_ss (a b : Str) : bop .add (.str a) (.str b) = if catOk a.length b.length then some (.str (a ++ b)) else none := rfl
@[simp] theorem bop_mul_ii (a b : Int) : bop .mul (.int a) (.int b) = if rng a || rng b then some (.int (a * b)) else none := rfl
theorem bop_modP {a b : Int} (h : 0 < b) : bop .mod (.int a) (.int b) = some (.int (a % b)) := by show (if decide (0 < b) then _ else _) = _; simp [h]
theorem bop_fdiv_ii {a b : Int} (h : 0 < b) (h2 : b < 1073741824) : bop .fdiv (.int a) (.int b) = some (.int (a / b)) := by show (if decide (0 < b) && decide (b < 1073741824) then _ else _) = _; simp [h, h2]
@[simp] theorem copD_lt (a b : Int) : copD .lt (.int a) (.int b) = some (.bool (decide (a < b))) := rfl
@[simp] theorem copD_le (a b : Int) : copD .le (.int a) (.int b) = some (.bool (decide (a ≤ b))) := rfl
@[simp] theorem copD_gt (a b : Int) : copD .gt (.int a) (.int b) = some (.bool (decide (b < a))) := rfl
@[simp] theorem copD_ge (a b : Int) : copD .ge (.int a) (.int b) = some (.bool (decide (b ≤ a))) := rfl
theorem copD_eq {a b : PyData} (h : eqOk a b = true) : copD .eq a b = some (.bool (PyData.eqv a b)) := by
  have : cop .eq a b = if eqOk a b then some (PyData.eqv a b) else none := by cases a <;> cases b <;> rfl
  rw [copD, this, if_pos h]; rfl
theorem copD_ne {a b : PyData} (h : eqOk a b = true) : copD .ne a b = some (.bool (!PyData.eqv a b)) := by
  have : cop .ne a b = if eqOk a b then some (!PyData.eqv a b) else none := by cases a <;> cases b <;> rfl
  rw [copD, this, if_pos h]; rfl
theorem eqOk_str_r (d : PyData) (s : Str) : eqOk d (.str s) = true := by simp [eqOk, PyData.depth]
theorem eqOk_int_r (d : PyData) (s : Int) : eqOk d (.int s) = true := by simp [eqOk, PyData.depth]
theorem eqOk_bool_r (d : PyData) (s : Bool) : eqOk d (.bool s) = true := by simp [eqOk, PyData.depth]
theorem eqOk_none_r (d : PyData) : eqOk d .none = true := by simp [eqOk, PyData.depth]
theorem eqOk_le {d e : PyData} (h : d.depth ≤ 64 ∨ e.depth ≤ 64) : eqOk d e = true := by simp only [eqOk, decide_eq_true_eq]; omega
theorem eqOk_str_l (d : PyData) (s : Str) : eqOk (.str s) d = true := by simp [eqOk, PyData.depth]
theorem eqOk_int_l (d : PyData) (s : Int) : eqOk (.int s) d = true := by simp [eqOk, PyData.depth]
theorem eqOk_none_l (d : PyData) : eqOk .none d = true := by simp [eqOk, PyData.depth]
theorem eqOk_bool_l (d : PyData) (s : Bool) : eqOk (.bool s) d = true := by simp [eqOk, PyData.depth]
@[simp] theorem eq_str_r (d : PyData) (s : Str) : copD .eq d (.str s) = some (.bool (PyData.eqv d (.str s))) := copD_eq (eqOk_str_r _ _)
@[simp] theorem eq_int_r (d : PyData) (s : Int) : copD .eq d (.int s) = some (.bool (PyData.eqv d (.int s))) := copD_eq (eqOk_int_r _ _)
@[simp] theorem eq_none_r (d : PyData) : copD .eq d .none = some (.bool (PyData.eqv d .none)) := copD_eq (eqOk_none_r _)
@[simp] theorem ne_str_r (d : PyData) (s : Str) : copD .ne d (.str s) = some (.bool (!PyData.eqv d (.str s))) := copD_ne (eqOk_str_r _ _)
@[simp] theorem ne_int_r (d : PyData) (s : Int) : copD .ne d (.int s) = some (.bool (!PyData.eqv d (.int s))) := copD_ne (eqOk_int_r _ _)
@[simp] theorem eq_tup0_r (d : PyData) : copD .eq d (.tuple []) = some (.bool (PyData.eqv d (.tuple []))) := copD_eq (eqOk_le (.inr (by simp [PyData.depth, PyData.depthAll])))
@[simp] theorem ne_tup0_r (d : PyData) : copD .ne d (.tuple []) = some (.bool (!PyData.eqv d (.tuple []))) := copD_ne (eqOk_le (.inr (by simp [PyData.depth, PyData.depthAll])))
@[simp] theorem eq_lst0_r (d : PyData) : copD .eq d (.list []) = some (.bool (PyData.eqv d (.list []))) := copD_eq (eqOk_le (.inr (by simp [PyData.depth, PyData.depthAll])))
@[simp] theorem ne_lst0_r (d : PyData) : copD .ne d (.list []) = some (.bool (!PyData.eqv d (.list []))) := copD_ne (eqOk_le (.inr (by simp [PyData.depth, PyData.depthAll])))
theorem copD_in_t {a : PyData} {b : List PyData} (h : inOk b a = true) : copD .isin a (.tuple b) = some (.bool (b.any fun z => PyData.eqv z a)) := by
  have : cop .isin a (.tuple b) = if inOk b a then some (b.any fun z => PyData.eqv z a) else none := by cases a <;> rfl
  rw [copD, this, if_pos h]; rfl
theorem copD_in_l {a : PyData} {b : List PyData} (h : inOk b a = true) : copD .isin a (.list b) = some (.bool (b.any fun z => PyData.eqv z a)) := by
  have : cop .isin a (.list b) = if inOk b a then some (b.any fun z => PyData.eqv z a) else none := by cases a <;> rfl
  rw [copD, this, if_pos h]; rfl
theorem copD_notin_t {a : PyData} {b : List PyData} (h : inOk b a = true) : copD .notin a (.tuple b) = some (.bool (!b.any fun z => PyData.eqv z a)) := by
  have : cop .notin a (.tuple b) = if inOk b a then some (!b.any fun z => PyData.eqv z a) else none := by cases a <;> rfl
  rw [copD, this, if_pos h]; rfl
theorem copD_notin_l {a : PyData} {b : List PyData} (h : inOk b a = true) : copD .notin a (.list b) = some (.bool (!b.any fun z => PyData.eqv z a)) := by
  have : cop .notin a (.list b) = if inOk b a then some (!b.any fun z => PyData.eqv z a) else none := by cases a <;> rfl
  rw [copD, this, if_pos h]; rfl
theorem inOk_str (xs : List PyData) (s : Str) : inOk xs (.str s) = true := by simp [inOk, PyData.depth]
theorem inOk_int (xs : List PyData) (s : Int) : inOk xs (.int s) = true := by simp [inOk, PyData.depth]
theorem inOk_bool (xs : List PyData) (s : Bool) : inOk xs (.bool s) = true := by simp [inOk, PyData.depth]
theorem inOk_le {xs : List PyData} {d : PyData} (h : d.depth ≤ 64) : inOk xs d = true := by simp only [inOk, decide_eq_true_eq]; omega
@[simp] theorem in_str_t (s : Str) (b : List PyData) : copD .isin (.str s) (.tuple b) = some (.bool (b.any fun z => PyData.eqv z (.str s))) := copD_in_t (inOk_str _ _)
@[simp] theorem in_int_t (s : Int) (b : List PyData) : copD .isin (.int s) (.tuple b) = some (.bool (b.any fun z => PyData.eqv z (.int s))) := copD_in_t (inOk_int _ _)
@[simp] theorem in_int_l (s : Int) (b : List PyData) : copD .isin (.int s) (.list b) = some (.bool (b.any fun z => PyData.eqv z (.int s))) := copD_in_l (inOk_int _ _)
@[simp] theorem in_bool_l (s : Bool) (b : List PyData) : copD .isin (.bool s) (.list b) = some (.bool (b.any fun z => PyData.eqv z (.bool s))) := copD_in_l (inOk_bool _ _)
@[simp] theorem notin_bool_l (s : Bool) (b : List PyData) : copD .notin (.bool s) (.list b) = some (.bool (!b.any fun z => PyData.eqv z (.bool s))) := copD_notin_l (inOk_bool _ _)
@[simp] theorem isND_eq (ng : Bool) (x : PyData) : isND ng x = some (.bool (xor ng (isNone x))) := rfl
@[simp] theorem isID_eq (t : Ty) (x : PyData) : isID t x = some (.bool (isTy t x)) := rfl
@[simp] theorem blt_len_l (a : List PyData) : blt .len (.list a) = some (.int a.length) := rfl
@[simp] theorem blt_len_t (a : List PyData) : blt .len (.tuple a) = some (.int a.length) := rfl
@[simp] theorem blt_len_s (a : Str) : blt .len (.str a) = some (.int a.length) := rfl
@[simp] theorem blt_int_i (a : Int) : blt .int (.int a) = some (.int a) := rfl
@[simp] theorem blt_int_b (a : Bool) : blt .int (.bool a) = some (.int (if a then 1 else 0)) := rfl
@[simp] theorem blt_tup_l (a : List PyData) : blt .tuple (.list a) = some (.tuple a) := rfl
@[simp] theorem blt_tup_t (a : List PyData) : blt .tuple (.tuple a) = some (.tuple a) := rfl
@[simp] theorem blt_lst_l (a : List PyData) : blt .list (.list a) = some (.list a) := rfl
@[simp] theorem blt_lst_t (a : List PyData) : blt .list (.tuple a) = some (.list a) := rfl
theorem blt_sorted_l {a : List PyData} (h : sortOk a = true) : blt .sorted (.list a) = some (.list (sortD a)) := by
  show (if sortOk a then some (PyData.list (sortD a)) else none) = _
  rw [if_pos h]
theorem boolsOf_map (bs : List Bool) : boolsOf (bs.map .bool) = some bs := by
  induction bs with
  | nil => rfl
  | cons b r ih => show (boolsOf (r.map .bool)).map (b :: ·) = _; rw [ih]; rfl
theorem strsOf_map (bs : List Str) : strsOf (bs.map .str) = some bs := by
  induction bs with
  | nil => rfl
  | cons b r ih => show (strsOf (r.map .str)).map (b :: ·) = _; rw [ih]; rfl
theorem blt_all_map (bs : List Bool) : blt .all (.list (bs.map .bool)) = some (.bool (bs.all id)) := by
  show (boolsOf _).map _ = _
  rw [boolsOf_map]; rfl
theorem blt_any_map (bs : List Bool) : blt .any (.list (bs.map .bool)) = some (.bool (bs.any id)) := by
  show (boolsOf _).map _ = _
  rw [boolsOf_map]; rfl
@[simp] theorem ixD_li (a : List PyData) (i : Int) : ixD (.list a) (.int i) = atI a i := rfl
@[simp] theorem ixD_ti (a : List PyData) (i : Int) : ixD (.tuple a) (.int i) = atI a i := rfl
@[simp] theorem slD_l (a : List PyData) (l h : Option Int) : slD (.list a) l h = some (.list (cutD a l h)) := rfl
@[simp] theorem slD_t (a : List PyData) (l h : Option Int) : slD (.tuple a) l h = some (.tuple (cutD a l h)) := rfl
@[simp] theorem seqD_l (a : List PyData) : seqD (.list a) = some a := rfl
@[simp] theorem seqD_t (a : List PyData) : seqD (.tuple a) = some a := rfl
@[simp] theorem enumK_l (a : List PyData) : enumK (.list a) = some (enumD 0 a) := rfl
@[simp] theorem enumK_t (a : List PyData) : enumK (.tuple a) = some (enumD 0 a) := rfl
@[simp] theorem rgK_int (n : Int) : rgK (.int n) = if rngOk n then some (rgD n) else none := rfl
theorem rngOk_of {n : Int} (h0 : 0 ≤ n) (h1 : n ≤ 1000000) : rngOk n = true := by
  rw [rngOk_iff]
  omega
/-! places -/
@[simp] theorem atI_0 {α : Type} (x : α) (r : List α) : atI (x :: r) 0 = some x := by
  have := atI_nat (xs := x :: r) (j := 0) (v := x) rfl
  exact this
@[simp] theorem atI_1 {α : Type} (x y : α) (r : List α) : atI (x :: y :: r) 1 = some y := by
  have := atI_nat (xs := x :: y :: r) (j := 1) (v := y) rfl
  exact this
@[simp] theorem atI_2 {α : Type} (x y z : α) (r : List α) : atI (x :: y :: z :: r) 2 = some z := by
  have := atI_nat (xs := x :: y :: z :: r) (j := 2) (v := z) rfl
  exact this
@[simp] theorem atI_3 {α : Type} (x y z u : α) (r : List α) : atI (x :: y :: z :: u :: r) 3 = some u := by
  have := atI_nat (xs := x :: y :: z :: u :: r) (j := 3) (v := u) rfl
  exact this
theorem atI_nn {α : Type} {xs : List α} {i : Int} (h0 : 0 ≤ i) (h1 : i < xs.length) : ∃ x, x ∈ xs ∧ L2.atI xs i = some x := by
  have hk : i.toNat < xs.length := by omega
  refine ⟨xs[i.toNat], List.getElem_mem hk, ?_⟩
  have e : i = ((i.toNat : Nat) : Int) := by omega
  have q : L2.atI xs ((i.toNat : Nat) : Int) = some xs[i.toNat] := L2.atI_nat (List.getElem?_eq_getElem hk)
  rwa [← e] at q
/-! slices -/
theorem cutD_from (n : Nat) (xs : List PyData) : cutD xs (some (n : Int)) none = xs.drop n := by
  unfold cutD
  rw [HT.sIx_nat, HT.sIx_none]
  by_cases h : n ≤ xs.length
  · rw [Nat.min_eq_left h, List.take_of_length_le (by rw [List.length_drop]; exact Nat.le_refl _)]
  · rw [Nat.min_eq_right (by omega), Nat.sub_self, List.take_zero, List.drop_eq_nil_of_le (by omega)]
theorem cutD_to (n : Nat) (xs : List PyData) : cutD xs none (some (n : Int)) = xs.take n := by
  unfold cutD
  rw [HT.sIx_nat, HT.sIx_none, List.drop_zero, Nat.sub_zero]
  by_cases h : n ≤ xs.length
  · rw [Nat.min_eq_left h]
  · rw [Nat.min_eq_right (by omega), List.take_length, List.take_of_length_le (by omega)]
theorem cutD_mid (n m : Nat) (xs : List PyData) : cutD xs (some (n : Int)) (some (m : Int)) = (xs.drop n).take (m - n) := by
  unfold cutD
  rw [HT.sIx_nat, HT.sIx_nat]
  by_cases h : n ≤ xs.length
  · rw [Nat.min_eq_left h]
    by_cases h2 : m ≤ xs.length
    · rw [Nat.min_eq_left h2]
    · rw [Nat.min_eq_right (by omega), List.take_of_length_le (by rw [List.length_drop]; exact Nat.le_refl _), List.take_of_length_le (by rw [List.length_drop]; omega)]
  · have h3 : min n xs.length = xs.length := by omega
    rw [h3, List.drop_eq_nil_of_le (Nat.le_refl _), List.drop_eq_nil_of_le (by omega), List.take_nil, List.take_nil]
@[simp] theorem cutD_1 (xs : List PyData) : cutD xs (some 1) none = xs.drop 1 := cutD_from 1 xs
@[simp] theorem cutD_2 (xs : List PyData) : cutD xs none (some 2) = xs.take 2 := cutD_to 2 xs
@[simp] theorem cutD_3 (xs : List PyData) : cutD xs none (some 3) = xs.take 3 := cutD_to 3 xs
@[simp] theorem cutD_13 (xs : List PyData) : cutD xs (some 1) (some 3) = (xs.drop 1).take 2 := cutD_mid 1 3 xs
theorem run_succ' {T : Tab} {f : Nat} {F : FDef} (h : T.fn f = some F) (n : Nat) (ds : List PyData) (hl : ds.length = F.ps.length) : T.run (n + 1) f ds = (evSs T.G (T.run n) F.body (startR F.N.length ds)).map outD := by
  rw [Tab.run, h]
  simp [hl]
/-- a def of the table: its number of parameters, of slots, its body -/
def Has (T : Tab) (f k m : Nat) (b : QSs) : Prop := ∃ F, T.fn f = some F ∧ F.ps.length = k ∧ F.N.length = m ∧ F.body = b
theorem run_succ {T : Tab} {f k m : Nat} {b : QSs} (h : Has T f k m b) (n : Nat) (ds : List PyData) (hl : ds.length = k) : T.run (n + 1) f ds = (evSs T.G (T.run n) b (startR m ds)).map outD := by
  obtain ⟨F, h1, rfl, rfl, rfl⟩ := h
  exact run_succ' h1 n ds hl
@[simp] theorem eqv_ii (a b : Int) : PyData.eqv (.int a) (.int b) = (a == b) := by simp [PyData.eqv]
@[simp] theorem eqv_ss (a b : Wd) : PyData.eqv (.str a.s) (.str b.s) = decide (a = b) := by
  have := Wd.s_beq a b
  simp only [PyData.eqv]
  first | exact this | (simp only [← this]; rfl) | simp
@[simp] theorem eqv_nn : PyData.eqv .none .none = true := by simp [PyData.eqv]
@[simp] theorem eqv_ts (a : List PyData) (b : Str) : PyData.eqv (.tuple a) (.str b) = false := by simp [PyData.eqv]
@[simp] theorem eqv_st (a : List PyData) (b : Str) : PyData.eqv (.str b) (.tuple a) = false := by simp [PyData.eqv]
theorem eqv_tt (a b : List PyData) : PyData.eqv (.tuple a) (.tuple b) = PyData.eqvAll a b := by simp [PyData.eqv]
theorem eqv_ll (a b : List PyData) : PyData.eqv (.list a) (.list b) = PyData.eqvAll a b := by simp [PyData.eqv]
@[simp] theorem eqvAll_nn : PyData.eqvAll [] [] = true := by simp [PyData.eqvAll]
@[simp] theorem eqvAll_cn (a : PyData) (l : List PyData) : PyData.eqvAll (a :: l) [] = false := by simp [PyData.eqvAll]
@[simp] theorem eqvAll_nc (a : PyData) (l : List PyData) : PyData.eqvAll [] (a :: l) = false := by simp [PyData.eqvAll]
@[simp] theorem eqvAll_cc (a b : PyData) (l m : List PyData) : PyData.eqvAll (a :: l) (b :: m) = (PyData.eqv a b && PyData.eqvAll l m) := by simp [PyData.eqvAll]
@[simp] theorem Wd.s_eq (a b : Wd) : (a.s = b.s) = (a = b) := propext (Wd.s_inj a b)
@[simp] theorem tupD_le (ds : List PyData) (h : ds.length ≤ 1000) : tupD ds = some (.tuple ds) := by simp [tupD, h]
@[simp] theorem lstD_le (ds : List PyData) (h : ds.length ≤ 1000) : lstD ds = some (.list ds) := by simp [lstD, h]
end Ev

namespace Ev
open PySem
def b_marks_of : QSs := .cons (.ret [] (.lc [1, 2] (.var 1) (.tp [1, 2]) (.enum (.var 0)) (.cmp .eq (.slc (.var 2) (.omit) (.lit (.int 2))) (.tup (.cons (.lit (.str (Wd.s .some))) (.cons (.lit (.str (Wd.s .each))) (.nil))))))) (.nil)
def b_law_cell_at : QSs := .cons (.iff [] (.cmp .lt (.var 1) (.blt .len (.var 0))) (.cons (.ret [] (.ix (.var 0) (.var 1))) (.nil)) (.nil)) (.cons (.ret [] (.lit (.int 0))) (.nil))
def b_law_mixed : QSs := .cons (.set [] 2 (.bin .mod (.bin .mul (.bin .add (.bin .add (.call 10 (.cons (.var 0) (.cons (.var 1) (.nil)))) (.bin .mul (.lit (.int 7919)) (.var 1))) (.lit (.int 1))) (.lit (.int 48271))) (.lit (.int 2147483647)))) (.cons (.ret [] (.bin .mod (.bin .add (.bin .add (.bin .mul (.var 2) (.var 2)) (.bin .mul (.lit (.int 7)) (.var 2))) (.var 1)) (.lit (.int 2147483629)))) (.nil))
def b_law_drawn : QSs := .cons (.set [] 2 (.bin .mod (.bin .mul (.bin .add (.bin .add (.var 0) (.bin .mul (.lit (.int 104729)) (.var 1))) (.lit (.int 17))) (.lit (.int 69621))) (.lit (.int 2147483647)))) (.cons (.ret [] (.bin .mod (.bin .add (.bin .add (.bin .mul (.var 2) (.var 2)) (.bin .mul (.lit (.int 3)) (.var 2))) (.var 1)) (.lit (.int 2147483629)))) (.nil))
def b_law_form : QSs := .cons (.set [] 2 (.bin .mod (.var 0) (.lit (.int 10)))) (.cons (.iff [] (.or (.cmp .eq (.var 1) (.lit (.int 0))) (.cmp .lt (.var 2) (.lit (.int 3)))) (.cons (.set [] 3 (.lst (.cons (.tup (.cons (.lit (.str (Wd.s .a))) (.cons (.lit (.str (Wd.s .x))) (.nil)))) (.cons (.tup (.cons (.lit (.str (Wd.s .a))) (.cons (.lit (.str (Wd.s .y))) (.nil)))) (.cons (.tup (.cons (.lit (.str (Wd.s .b))) (.cons (.lit (.str (Wd.s .x))) (.nil)))) (.cons (.tup (.cons (.lit (.str (Wd.s .b))) (.cons (.lit (.str (Wd.s .y))) (.nil)))) (.cons (.tup (.cons (.lit (.str (Wd.s .to))) (.cons (.lit (.str (Wd.s .x))) (.cons (.lit (.str (Wd.s .y))) (.nil))))) (.cons (.tup (.cons (.lit (.str (Wd.s .to))) (.cons (.lit (.str (Wd.s .y))) (.cons (.lit (.str (Wd.s .x))) (.nil))))) (.cons (.tup (.cons (.lit (.str (Wd.s .to))) (.cons (.lit (.str (Wd.s .x))) (.cons (.lit (.str (Wd.s .y))) (.nil))))) (.nil)))))))))) (.cons (.ret [] (.ix (.bin .add (.var 3) (.lst (.cons (.tup (.cons (.lit (.str (Wd.s .to))) (.cons (.lit (.str (Wd.s .x))) (.cons (.lit (.str (Wd.s .x))) (.nil))))) (.cons (.tup (.cons (.lit (.str (Wd.s .to))) (.cons (.lit (.str (Wd.s .y))) (.cons (.lit (.str (Wd.s .y))) (.nil))))) (.cons (.tup (.cons (.lit (.str (Wd.s .to))) (.cons (.lit (.str (Wd.s .y))) (.cons (.lit (.str (Wd.s .x))) (.nil))))) (.cons (.lit (.str (Wd.s .yes))) (.cons (.lit (.str (Wd.s .no))) (.nil)))))))) (.bin .mod (.bin .fdiv (.var 0) (.lit (.int 10))) (.lit (.int 12))))) (.nil))) (.nil)) (.cons (.set [] 4 (.call 13 (.cons (.call 12 (.cons (.var 0) (.cons (.lit (.int 1)) (.nil)))) (.cons (.bin .sub (.var 1) (.lit (.int 1))) (.nil))))) (.cons (.iff [] (.cmp .eq (.var 2) (.lit (.int 3))) (.cons (.ret [] (.tup (.cons (.lit (.str (Wd.s .not))) (.cons (.var 4) (.nil))))) (.nil)) (.nil)) (.cons (.set [] 5 (.call 13 (.cons (.call 12 (.cons (.var 0) (.cons (.lit (.int 2)) (.nil)))) (.cons (.bin .sub (.var 1) (.lit (.int 1))) (.nil))))) (.cons (.iff [] (.and (.cmp .lt (.var 2) (.lit (.int 6))) (.cmp .gt (.var 1) (.lit (.int 1)))) (.cons (.ret [] (.tup (.cons (.lit (.str (Wd.s .either))) (.cons (.tup (.cons (.lit (.str (Wd.s .not))) (.cons (.call 13 (.cons (.call 12 (.cons (.var 0) (.cons (.lit (.int 1)) (.nil)))) (.cons (.bin .sub (.var 1) (.lit (.int 2))) (.nil)))) (.nil)))) (.cons (.var 5) (.nil)))))) (.nil)) (.nil)) (.cons (.ret [] (.tup (.cons (.ix (.tup (.cons (.lit (.str (Wd.s .both))) (.cons (.lit (.str (Wd.s .either))) (.nil)))) (.bin .mod (.var 2) (.lit (.int 2)))) (.cons (.var 4) (.cons (.var 5) (.nil)))))) (.nil)))))))
def b_law_demand : QSs := .cons (.set [] 2 (.ix (.tup (.cons (.lit (.str (Wd.s .each))) (.cons (.lit (.str (Wd.s .each))) (.cons (.lit (.str (Wd.s .each))) (.cons (.lit (.str (Wd.s .some))) (.nil)))))) (.bin .mod (.var 0) (.lit (.int 4))))) (.cons (.set [] 3 (.ix (.tup (.cons (.lit (.str (Wd.s .some))) (.cons (.lit (.str (Wd.s .each))) (.cons (.lit (.str (Wd.s .some))) (.nil))))) (.bin .mod (.bin .fdiv (.var 0) (.lit (.int 4))) (.lit (.int 3))))) (.cons (.ret [] (.tup (.cons (.var 2) (.cons (.var 3) (.cons (.call 13 (.cons (.bin .fdiv (.var 0) (.lit (.int 12))) (.cons (.var 1) (.nil)))) (.nil)))))) (.nil)))
def b_law_row_f0 : QSs := .cons (.set [] 4 (.call 14 (.cons (.call 12 (.cons (.var 0) (.cons (.var 3) (.nil)))) (.cons (.lit (.int 3)) (.nil))))) (.cons (.set [] 5 (.lc [6] (.var 6) (.nm 6) (.seq (.var 2)) (.cmp .eq (.slc (.var 6) (.omit) (.lit (.int 2))) (.tup (.cons (.lit (.str (Wd.s .some))) (.cons (.lit (.str (Wd.s .each))) (.nil))))))) (.cons (.iff [] (.and (.cmp .eq (.slc (.var 4) (.omit) (.lit (.int 2))) (.tup (.cons (.lit (.str (Wd.s .some))) (.cons (.lit (.str (Wd.s .each))) (.nil))))) (.cmp .eq (.blt .len (.var 5)) (.lit (.int 2)))) (.cons (.set [] 4 (.tup (.cons (.lit (.str (Wd.s .each))) (.cons (.lit (.str (Wd.s .some))) (.cons (.ix (.var 4) (.lit (.int 2))) (.nil)))))) (.nil)) (.nil)) (.cons (.set [] 2 (.bin .add (.var 2) (.tup (.cons (.var 4) (.nil))))) (.nil))))
def b_law_row : QSs := .cons (.set [] 2 (.tup (.nil))) (.cons (.for [] (.nm 3) (.rng1 (.bin .mod (.var 0) (.bin .add (.var 1) (.lit (.int 1))))) b_law_row_f0) (.cons (.ret [] (.var 2)) (.nil)))
def b_law_world_f0 : QSs := .cons (.app [] 3 (.blt .tuple (.lc [5] (.var 5) (.nm 5) (.rng1 (.var 2)) (.cmp .eq (.bin .mod (.bin .fdiv (.call 12 (.cons (.var 0) (.cons (.bin .add (.bin .mul (.lit (.int 10)) (.var 4)) (.var 5)) (.nil)))) (.lit (.int 4))) (.lit (.int 2))) (.lit (.int 1)))))) (.nil)
def b_law_world_f1 : QSs := .cons (.iff [] (.cmp .lt (.bin .mod (.bin .fdiv (.call 12 (.cons (.var 0) (.cons (.bin .add (.bin .add (.lit (.int 30)) (.bin .mul (.lit (.int 8)) (.var 8))) (.var 9)) (.nil)))) (.lit (.int 4))) (.lit (.int 5))) (.var 7)) (.cons (.app [] 6 (.tup (.cons (.var 8) (.cons (.var 9) (.nil))))) (.nil)) (.nil)) (.nil)
def b_law_world_f2 : QSs := .cons (.for [] (.nm 9) (.rng1 (.var 2)) b_law_world_f1) (.nil)
def b_law_world : QSs := .cons (.set [] 2 (.bin .add (.lit (.int 1)) (.bin .mod (.var 0) (.var 1)))) (.cons (.setO [] 3 (.lst (.nil))) (.cons (.for [] (.nm 4) (.seq (.tup (.cons (.lit (.int 0)) (.cons (.lit (.int 1)) (.nil))))) b_law_world_f0) (.cons (.setO [] 6 (.lst (.nil))) (.cons (.set [] 7 (.bin .add (.lit (.int 1)) (.bin .mod (.bin .fdiv (.var 0) (.lit (.int 24))) (.lit (.int 4))))) (.cons (.for [] (.nm 8) (.rng1 (.var 2)) b_law_world_f2) (.cons (.ret [] (.tup (.cons (.var 2) (.cons (.ix (.var 3) (.lit (.int 0))) (.cons (.ix (.var 3) (.lit (.int 1))) (.cons (.blt .tuple (.var 6)) (.nil))))))) (.nil)))))))
def b_words_of_f0 : QSs := .cons (.ext [] 1 (.call 25 (.cons (.var 2) (.nil)))) (.nil)
def b_words_of : QSs := .cons (.iff [] (.isI (.var 0) .str) (.cons (.ret [] (.lst (.cons (.var 0) (.nil)))) (.nil)) (.nil)) (.cons (.iff [] (.cmp .eq (.ix (.var 0) (.lit (.int 0))) (.lit (.str (Wd.s .to)))) (.cons (.ret [] (.lst (.cons (.bin .add (.ix (.var 0) (.lit (.int 1))) (.ix (.var 0) (.lit (.int 2)))) (.nil)))) (.nil)) (.nil)) (.cons (.iff [] (.cmp .isin (.ix (.var 0) (.lit (.int 0))) (.tup (.cons (.lit (.str (Wd.s .a))) (.cons (.lit (.str (Wd.s .b))) (.nil))))) (.cons (.ret [] (.lst (.cons (.bin .add (.ix (.var 0) (.lit (.int 0))) (.ix (.var 0) (.lit (.int 1)))) (.nil)))) (.nil)) (.nil)) (.cons (.setO [] 1 (.lst (.cons (.ix (.var 0) (.lit (.int 0))) (.nil)))) (.cons (.for [] (.nm 2) (.seq (.slc (.var 0) (.lit (.int 1)) (.omit))) b_words_of_f0) (.cons (.ret [1] (.var 1)) (.nil))))))
def b_written : QSs := .cons (.iff [] (.cmp .eq (.var 0) (.tup (.nil))) (.cons (.ret [] (.lit (.str (Wd.s .dash)))) (.nil)) (.nil)) (.cons (.ret [] (.join (.lit (.str (Wd.s .semi))) (.lc [1, 2, 3] (.join (.lit (.str (Wd.s .blank))) (.bin .add (.lst (.cons (.var 1) (.cons (.var 2) (.nil)))) (.call 25 (.cons (.var 3) (.nil))))) (.tp [1, 2, 3]) (.seq (.var 0)) (.lit (.bool true))))) (.nil))
def b_law_words : QSs := .cons (.iff [] (.isI (.var 0) .str) (.cons (.ret [] (.var 0)) (.nil)) (.nil)) (.cons (.iff [] (.cmp .eq (.ix (.var 0) (.lit (.int 0))) (.lit (.str (Wd.s .to)))) (.cons (.ret [] (.bin .add (.ix (.var 0) (.lit (.int 1))) (.ix (.var 0) (.lit (.int 2))))) (.nil)) (.nil)) (.cons (.iff [] (.cmp .isin (.ix (.var 0) (.lit (.int 0))) (.tup (.cons (.lit (.str (Wd.s .a))) (.cons (.lit (.str (Wd.s .b))) (.nil))))) (.cons (.ret [] (.bin .add (.ix (.var 0) (.lit (.int 0))) (.ix (.var 0) (.lit (.int 1))))) (.nil)) (.nil)) (.cons (.ret [] (.join (.lit (.str (Wd.s .blank))) (.bin .add (.lst (.cons (.ix (.var 0) (.lit (.int 0))) (.nil))) (.lc [1] (.call 27 (.cons (.var 1) (.nil))) (.nm 1) (.seq (.slc (.var 0) (.lit (.int 1)) (.omit))) (.lit (.bool true)))))) (.nil))))
def b_law_text : QSs := .cons (.iff [] (.cmp .eq (.var 0) (.tup (.nil))) (.cons (.ret [] (.lit (.str (Wd.s .dash)))) (.nil)) (.nil)) (.cons (.ret [] (.join (.lit (.str (Wd.s .semi))) (.lc [1, 2, 3] (.bin .add (.bin .add (.bin .add (.bin .add (.var 1) (.lit (.str (Wd.s .blank)))) (.var 2)) (.lit (.str (Wd.s .blank)))) (.call 27 (.cons (.var 3) (.nil)))) (.tp [1, 2, 3]) (.seq (.var 0)) (.lit (.bool true))))) (.nil))
def b_form_holds : QSs := .cons (.iff [] (.isI (.var 0) .str) (.cons (.ret [] (.cmp .eq (.var 0) (.lit (.str (Wd.s .yes))))) (.nil)) (.nil)) (.cons (.iff [] (.cmp .eq (.ix (.var 0) (.lit (.int 0))) (.lit (.str (Wd.s .not)))) (.cons (.ret [] (.not (.call 34 (.cons (.ix (.var 0) (.lit (.int 1))) (.cons (.var 1) (.cons (.var 2) (.cons (.var 3) (.nil)))))))) (.nil)) (.nil)) (.cons (.iff [] (.cmp .eq (.ix (.var 0) (.lit (.int 0))) (.lit (.str (Wd.s .both)))) (.cons (.ret [] (.and (.call 34 (.cons (.ix (.var 0) (.lit (.int 1))) (.cons (.var 1) (.cons (.var 2) (.cons (.var 3) (.nil)))))) (.call 34 (.cons (.ix (.var 0) (.lit (.int 2))) (.cons (.var 1) (.cons (.var 2) (.cons (.var 3) (.nil)))))))) (.nil)) (.nil)) (.cons (.iff [] (.cmp .eq (.ix (.var 0) (.lit (.int 0))) (.lit (.str (Wd.s .either)))) (.cons (.ret [] (.or (.call 34 (.cons (.ix (.var 0) (.lit (.int 1))) (.cons (.var 1) (.cons (.var 2) (.cons (.var 3) (.nil)))))) (.call 34 (.cons (.ix (.var 0) (.lit (.int 2))) (.cons (.var 1) (.cons (.var 2) (.cons (.var 3) (.nil)))))))) (.nil)) (.nil)) (.cons (.set [] 4 (.lc [5] (.ix (.tup (.cons (.var 2) (.cons (.var 3) (.nil)))) (.blt .int (.cmp .eq (.var 5) (.lit (.str (Wd.s .y)))))) (.nm 5) (.seq (.slc (.var 0) (.lit (.int 1)) (.omit))) (.lit (.bool true)))) (.cons (.iff [] (.cmp .eq (.ix (.var 0) (.lit (.int 0))) (.lit (.str (Wd.s .to)))) (.cons (.ret [] (.cmp .isin (.tup (.cons (.ix (.var 4) (.lit (.int 0))) (.cons (.ix (.var 4) (.lit (.int 1))) (.nil)))) (.ix (.var 1) (.lit (.int 3))))) (.nil)) (.nil)) (.cons (.iff [] (.cmp .eq (.ix (.var 0) (.lit (.int 0))) (.lit (.str (Wd.s .a)))) (.cons (.ret [] (.cmp .isin (.ix (.var 4) (.lit (.int 0))) (.ix (.var 1) (.lit (.int 1))))) (.nil)) (.nil)) (.cons (.ret [] (.cmp .isin (.ix (.var 4) (.lit (.int 0))) (.ix (.var 1) (.lit (.int 2))))) (.nil))))))))
def b_of_all : QSs := .cons (.iff [] (.cmp .eq (.var 0) (.lit (.str (Wd.s .each)))) (.cons (.ret [] (.blt .all (.var 1))) (.nil)) (.nil)) (.cons (.ret [] (.blt .any (.var 1))) (.nil))
def b_demand_holds_f0 : QSs := .cons (.app [] 5 (.call 35 (.cons (.var 3) (.cons (.lc [7] (.call 34 (.cons (.var 4) (.cons (.var 1) (.cons (.var 6) (.cons (.var 7) (.nil)))))) (.nm 7) (.rng1 (.ix (.var 1) (.lit (.int 0)))) (.lit (.bool true))) (.nil))))) (.nil)
def b_demand_holds : QSs := .cons (.setT [] [2, 3, 4] (.var 0)) (.cons (.setO [] 5 (.lst (.nil))) (.cons (.for [] (.nm 6) (.rng1 (.ix (.var 1) (.lit (.int 0)))) b_demand_holds_f0) (.cons (.ret [5] (.call 35 (.cons (.var 2) (.cons (.var 5) (.nil))))) (.nil))))
def b_holds : QSs := .cons (.ret [] (.blt .all (.lc [2] (.call 36 (.cons (.var 2) (.cons (.var 1) (.nil)))) (.nm 2) (.seq (.var 0)) (.lit (.bool true))))) (.nil)
def b_failing_f0 : QSs := .cons (.iff [] (.not (.call 36 (.cons (.var 3) (.cons (.var 1) (.nil))))) (.cons (.ret [] (.var 2)) (.nil)) (.nil)) (.nil)
def b_failing : QSs := .cons (.for [] (.tp [2, 3]) (.enum (.var 0)) b_failing_f0) (.cons (.ret [] (.lit .none)) (.nil))
def b_contrary : QSs := .cons (.setD [] 1 [(Wd.s .each), (Wd.s .some)] (.cons (.lit (.str (Wd.s .some))) (.cons (.lit (.str (Wd.s .each))) (.nil)))) (.cons (.ret [] (.tup (.cons (.pickV 1 (.ix (.var 0) (.lit (.int 0)))) (.cons (.pickV 1 (.ix (.var 0) (.lit (.int 1)))) (.cons (.tup (.cons (.lit (.str (Wd.s .not))) (.cons (.ix (.var 0) (.lit (.int 2))) (.nil)))) (.nil)))))) (.nil))
def b_law_true : QSs := .cons (.iff [] (.or (.cmp .eq (.var 0) (.lit (.str (Wd.s .yes)))) (.cmp .eq (.var 0) (.lit (.str (Wd.s .no))))) (.cons (.ret [] (.cmp .eq (.var 0) (.lit (.str (Wd.s .yes))))) (.nil)) (.nil)) (.cons (.iff [] (.cmp .isin (.ix (.var 0) (.lit (.int 0))) (.tup (.cons (.lit (.str (Wd.s .a))) (.cons (.lit (.str (Wd.s .b))) (.nil))))) (.cons (.ret [] (.cmp .isin (.pick [(Wd.s .x), (Wd.s .y)] (.cons (.var 2) (.cons (.var 3) (.nil))) (.ix (.var 0) (.lit (.int 1)))) (.ix (.var 1) (.pick [(Wd.s .a), (Wd.s .b)] (.cons (.lit (.int 1)) (.cons (.lit (.int 2)) (.nil))) (.ix (.var 0) (.lit (.int 0))))))) (.nil)) (.nil)) (.cons (.iff [] (.cmp .eq (.ix (.var 0) (.lit (.int 0))) (.lit (.str (Wd.s .to)))) (.cons (.set [] 4 (.blt .tuple (.lc [5] (.pick [(Wd.s .x), (Wd.s .y)] (.cons (.var 2) (.cons (.var 3) (.nil))) (.var 5)) (.nm 5) (.seq (.slc (.var 0) (.lit (.int 1)) (.omit))) (.lit (.bool true))))) (.cons (.ret [] (.cmp .isin (.var 4) (.ix (.var 1) (.lit (.int 3))))) (.nil))) (.nil)) (.cons (.set [] 6 (.lc [7] (.call 40 (.cons (.var 7) (.cons (.var 1) (.cons (.var 2) (.cons (.var 3) (.nil)))))) (.nm 7) (.seq (.slc (.var 0) (.lit (.int 1)) (.omit))) (.lit (.bool true)))) (.cons (.iff [] (.cmp .eq (.ix (.var 0) (.lit (.int 0))) (.lit (.str (Wd.s .not)))) (.cons (.ret [] (.not (.ix (.var 6) (.lit (.int 0))))) (.nil)) (.nil)) (.cons (.iff [] (.cmp .eq (.ix (.var 0) (.lit (.int 0))) (.lit (.str (Wd.s .both)))) (.cons (.ret [] (.and (.ix (.var 6) (.lit (.int 0))) (.ix (.var 6) (.lit (.int 1))))) (.nil)) (.nil)) (.cons (.ret [] (.or (.ix (.var 6) (.lit (.int 0))) (.ix (.var 6) (.lit (.int 1))))) (.nil)))))))
def b_law_meets_f0 : QSs := .cons (.set [] 4 (.lc [5] (.call 40 (.cons (.ix (.var 0) (.lit (.int 2))) (.cons (.var 1) (.cons (.var 3) (.cons (.var 5) (.nil)))))) (.nm 5) (.rng1 (.ix (.var 1) (.lit (.int 0)))) (.lit (.bool true)))) (.cons (.app [] 2 (.ix (.lst (.cons (.cmp .isin (.lit (.bool true)) (.var 4)) (.cons (.not (.cmp .isin (.lit (.bool false)) (.var 4))) (.nil)))) (.blt .int (.cmp .eq (.ix (.var 0) (.lit (.int 1))) (.lit (.str (Wd.s .each))))))) (.nil))
def b_law_meets : QSs := .cons (.setO [] 2 (.lst (.nil))) (.cons (.for [] (.nm 3) (.rng1 (.ix (.var 1) (.lit (.int 0)))) b_law_meets_f0) (.cons (.ret [] (.ix (.lst (.cons (.cmp .isin (.lit (.bool true)) (.var 2)) (.cons (.not (.cmp .isin (.lit (.bool false)) (.var 2))) (.nil)))) (.blt .int (.cmp .eq (.ix (.var 0) (.lit (.int 0))) (.lit (.str (Wd.s .each))))))) (.nil)))
def b_all_parts_f0 : QSs := .cons (.set [] 1 (.bin .add (.var 1) (.lc [3] (.bin .add (.var 3) (.tup (.cons (.var 2) (.nil)))) (.nm 3) (.seq (.var 1)) (.lit (.bool true))))) (.nil)
def b_all_parts : QSs := .cons (.set [] 1 (.lst (.cons (.tup (.nil)) (.nil)))) (.cons (.for [] (.nm 2) (.seq (.var 0)) b_all_parts_f0) (.cons (.ret [] (.var 1)) (.nil)))
def b_all_worlds_f0 : QSs := .cons (.ext [] 2 (.lc [4] (.tup (.cons (.var 3) (.cons (.var 4) (.nil)))) (.nm 4) (.seq (.var 1)) (.lit (.bool true)))) (.nil)
def b_all_worlds_f1 : QSs := .cons (.ext [2] 5 (.lc [8] (.tup (.cons (.var 0) (.cons (.var 6) (.cons (.var 7) (.cons (.var 8) (.nil)))))) (.nm 8) (.seq (.call 43 (.cons (.var 2) (.nil)))) (.lit (.bool true)))) (.nil)
def b_all_worlds_f2 : QSs := .cons (.for [] (.nm 7) (.seq (.call 43 (.cons (.var 1) (.nil)))) b_all_worlds_f1) (.nil)
def b_all_worlds : QSs := .cons (.set [] 1 (.rngL (.var 0))) (.cons (.setO [] 2 (.lst (.nil))) (.cons (.for [] (.nm 3) (.seq (.var 1)) b_all_worlds_f0) (.cons (.setO [] 5 (.lst (.nil))) (.cons (.for [] (.nm 6) (.seq (.call 43 (.cons (.var 1) (.nil)))) b_all_worlds_f2) (.cons (.ret [5] (.var 5)) (.nil))))))
def b_worlds_of : QSs := .cons (.ret [] (.blt .tuple (.blt .sorted (.lc [2] (.var 2) (.nm 2) (.seq (.call 44 (.cons (.var 1) (.nil)))) (.call 37 (.cons (.var 0) (.cons (.var 2) (.nil)))))))) (.nil)
def b_law_holds : QSs := .cons (.ret [] (.cmp .eq (.lc [2] (.var 2) (.nm 2) (.seq (.var 0)) (.not (.call 41 (.cons (.var 2) (.cons (.var 1) (.nil)))))) (.lst (.nil)))) (.nil)
def b_law_some_f0 : QSs := .cons (.set [] 1 (.bin .add (.var 1) (.lc [3] (.bin .add (.var 3) (.tup (.cons (.var 2) (.nil)))) (.nm 3) (.seq (.var 1)) (.lit (.bool true))))) (.nil)
def b_law_some : QSs := .cons (.set [] 1 (.lst (.cons (.tup (.nil)) (.nil)))) (.cons (.for [] (.nm 2) (.seq (.var 0)) b_law_some_f0) (.cons (.ret [] (.var 1)) (.nil)))
def b_beside : QSs := .cons (.set [] 2 (.ix (.var 0) (.lit (.int 0)))) (.cons (.set [] 3 (.lc [5, 6] (.tup (.cons (.bin .add (.var 5) (.var 2)) (.cons (.bin .add (.var 6) (.var 2)) (.nil)))) (.tp [5, 6]) (.seq (.ix (.var 1) (.lit (.int 3)))) (.lit (.bool true)))) (.cons (.set [] 4 (.lc [7] (.blt .tuple (.lc [8] (.bin .add (.var 8) (.var 2)) (.nm 8) (.seq (.var 7)) (.lit (.bool true)))) (.nm 7) (.seq (.slc (.var 1) (.lit (.int 1)) (.lit (.int 3)))) (.lit (.bool true)))) (.cons (.ret [] (.tup (.cons (.bin .add (.var 2) (.ix (.var 1) (.lit (.int 0)))) (.cons (.bin .add (.ix (.var 0) (.lit (.int 1))) (.ix (.var 4) (.lit (.int 0)))) (.cons (.bin .add (.ix (.var 0) (.lit (.int 2))) (.ix (.var 4) (.lit (.int 1)))) (.cons (.blt .tuple (.blt .sorted (.bin .add (.ix (.var 0) (.lit (.int 3))) (.blt .tuple (.var 3))))) (.nil))))))) (.nil))))
def b_doubled_f0 : QSs := .cons (.ext [] 2 (.lst (.cons (.tup (.cons (.var 3) (.cons (.var 4) (.nil)))) (.cons (.tup (.cons (.bin .add (.var 3) (.var 1)) (.cons (.var 4) (.nil)))) (.cons (.tup (.cons (.var 3) (.cons (.bin .add (.var 4) (.var 1)) (.nil)))) (.cons (.tup (.cons (.bin .add (.var 3) (.var 1)) (.cons (.bin .add (.var 4) (.var 1)) (.nil)))) (.nil))))))) (.nil)
def b_doubled : QSs := .cons (.set [] 1 (.ix (.var 0) (.lit (.int 0)))) (.cons (.setO [] 2 (.lst (.nil))) (.cons (.for [] (.tp [3, 4]) (.seq (.ix (.var 0) (.lit (.int 3)))) b_doubled_f0) (.cons (.set [] 5 (.lc [6] (.bin .add (.var 6) (.blt .tuple (.lc [7] (.bin .add (.var 7) (.var 1)) (.nm 7) (.seq (.var 6)) (.lit (.bool true))))) (.nm 6) (.seq (.slc (.var 0) (.lit (.int 1)) (.lit (.int 3)))) (.lit (.bool true)))) (.cons (.ret [] (.tup (.cons (.bin .mul (.lit (.int 2)) (.var 1)) (.cons (.ix (.var 5) (.lit (.int 0))) (.cons (.ix (.var 5) (.lit (.int 1))) (.cons (.blt .tuple (.blt .sorted (.var 2))) (.nil))))))) (.nil)))))
def b_turned_world : QSs := .cons (.ret [] (.bin .add (.slc (.var 0) (.omit) (.lit (.int 3))) (.tup (.cons (.blt .tuple (.blt .sorted (.lc [1, 2] (.tup (.cons (.var 2) (.cons (.var 1) (.nil)))) (.tp [1, 2]) (.seq (.ix (.var 0) (.lit (.int 3)))) (.lit (.bool true))))) (.nil))))) (.nil)
def b_swapped_world : QSs := .cons (.ret [] (.tup (.cons (.ix (.var 0) (.lit (.int 0))) (.cons (.ix (.var 0) (.lit (.int 2))) (.cons (.ix (.var 0) (.lit (.int 1))) (.cons (.ix (.var 0) (.lit (.int 3))) (.nil))))))) (.nil)
def b_shuffled : QSs := .cons (.set [] 2 (.lc [4] (.blt .tuple (.blt .sorted (.lc [5] (.ix (.var 1) (.var 5)) (.nm 5) (.seq (.var 4)) (.lit (.bool true))))) (.nm 4) (.seq (.slc (.var 0) (.lit (.int 1)) (.lit (.int 3)))) (.lit (.bool true)))) (.cons (.set [] 3 (.blt .sorted (.lc [6, 7] (.tup (.cons (.ix (.var 1) (.var 6)) (.cons (.ix (.var 1) (.var 7)) (.nil)))) (.tp [6, 7]) (.seq (.ix (.var 0) (.lit (.int 3)))) (.lit (.bool true))))) (.cons (.ret [] (.tup (.cons (.ix (.var 0) (.lit (.int 0))) (.cons (.ix (.var 2) (.lit (.int 0))) (.cons (.ix (.var 2) (.lit (.int 1))) (.cons (.blt .tuple (.var 3)) (.nil))))))) (.nil)))
def b_are_alike_f0 : QSs := .cons (.iff [] (.cmp .ne (.cmp .isin (.var 1) (.var 3)) (.cmp .isin (.var 2) (.var 3))) (.cons (.ret [] (.lit (.bool false))) (.nil)) (.nil)) (.nil)
def b_are_alike_f1 : QSs := .cons (.iff [] (.or (.cmp .ne (.cmp .isin (.tup (.cons (.var 1) (.cons (.var 4) (.nil)))) (.ix (.var 0) (.lit (.int 3)))) (.cmp .isin (.tup (.cons (.var 2) (.cons (.var 4) (.nil)))) (.ix (.var 0) (.lit (.int 3))))) (.cmp .ne (.cmp .isin (.tup (.cons (.var 4) (.cons (.var 1) (.nil)))) (.ix (.var 0) (.lit (.int 3)))) (.cmp .isin (.tup (.cons (.var 4) (.cons (.var 2) (.nil)))) (.ix (.var 0) (.lit (.int 3)))))) (.cons (.ret [] (.lit (.bool false))) (.nil)) (.nil)) (.nil)
def b_are_alike : QSs := .cons (.for [] (.nm 3) (.seq (.slc (.var 0) (.lit (.int 1)) (.lit (.int 3)))) b_are_alike_f0) (.cons (.for [] (.nm 4) (.rng1 (.ix (.var 0) (.lit (.int 0)))) b_are_alike_f1) (.cons (.ret [] (.lit (.bool true))) (.nil)))
def b_lean_world_f0 : QSs := .cons (.iff [] (.not (.blt .any (.lc [3] (.call 52 (.cons (.var 0) (.cons (.var 2) (.cons (.var 3) (.nil))))) (.nm 3) (.seq (.var 1)) (.lit (.bool true))))) (.cons (.app [] 1 (.var 2)) (.nil)) (.nil)) (.nil)
def b_lean_world : QSs := .cons (.setO [] 1 (.lst (.nil))) (.cons (.for [] (.nm 2) (.rng1 (.ix (.var 0) (.lit (.int 0)))) b_lean_world_f0) (.cons (.set [] 4 (.lc [6] (.blt .tuple (.lc [2] (.index (.var 1) (.var 2)) (.nm 2) (.seq (.var 6)) (.cmp .isin (.var 2) (.var 1)))) (.nm 6) (.seq (.slc (.var 0) (.lit (.int 1)) (.lit (.int 3)))) (.lit (.bool true)))) (.cons (.set [] 5 (.lc [7, 8] (.tup (.cons (.index (.var 1) (.var 7)) (.cons (.index (.var 1) (.var 8)) (.nil)))) (.tp [7, 8]) (.seq (.ix (.var 0) (.lit (.int 3)))) (.and (.cmp .isin (.var 7) (.var 1)) (.cmp .isin (.var 8) (.var 1))))) (.cons (.ret [] (.tup (.cons (.blt .len (.var 1)) (.cons (.ix (.var 4) (.lit (.int 0))) (.cons (.ix (.var 4) (.lit (.int 1))) (.cons (.blt .tuple (.var 5)) (.nil))))))) (.nil)))))
def b_law_alike_f0 : QSs := .cons (.iff [] (.cmp .ne (.cmp .isin (.var 1) (.var 3)) (.cmp .isin (.var 2) (.var 3))) (.cons (.ret [] (.lit (.bool false))) (.nil)) (.nil)) (.nil)
def b_law_alike_f1 : QSs := .cons (.iff [] (.cmp .ne (.cmp .isin (.tup (.cons (.var 1) (.cons (.var 4) (.nil)))) (.ix (.var 0) (.lit (.int 3)))) (.cmp .isin (.tup (.cons (.var 2) (.cons (.var 4) (.nil)))) (.ix (.var 0) (.lit (.int 3))))) (.cons (.ret [] (.lit (.bool false))) (.nil)) (.nil)) (.cons (.iff [] (.cmp .ne (.cmp .isin (.tup (.cons (.var 4) (.cons (.var 1) (.nil)))) (.ix (.var 0) (.lit (.int 3)))) (.cmp .isin (.tup (.cons (.var 4) (.cons (.var 2) (.nil)))) (.ix (.var 0) (.lit (.int 3))))) (.cons (.ret [] (.lit (.bool false))) (.nil)) (.nil)) (.nil))
def b_law_alike : QSs := .cons (.for [] (.nm 3) (.seq (.slc (.var 0) (.lit (.int 1)) (.lit (.int 3)))) b_law_alike_f0) (.cons (.for [] (.nm 4) (.rng1 (.ix (.var 0) (.lit (.int 0)))) b_law_alike_f1) (.cons (.ret [] (.lit (.bool true))) (.nil)))
def b_law_k21_f0 : QSs := .cons (.iff [] (.or (.cmp .ne (.call 37 (.cons (.var 1) (.cons (.var 6) (.nil)))) (.var 3)) (.cmp .ne (.call 42 (.cons (.var 1) (.cons (.var 6) (.nil)))) (.var 3))) (.cons (.ret [] (.lit (.bool false))) (.nil)) (.nil)) (.nil)
def b_law_k21_f1 : QSs := .cons (.iff [] (.cmp .ne (.lc [8] (.var 8) (.nm 8) (.rng1 (.var 7)) (.call 54 (.cons (.var 5) (.cons (.var 7) (.cons (.var 8) (.nil)))))) (.lst (.nil))) (.cons (.ret [] (.lit (.bool false))) (.nil)) (.nil)) (.nil)
def b_law_k21 : QSs := .cons (.set [] 1 (.call 15 (.cons (.call 11 (.cons (.var 0) (.cons (.lit (.int 0)) (.nil)))) (.cons (.lit (.int 4)) (.nil))))) (.cons (.set [] 2 (.call 16 (.cons (.call 11 (.cons (.var 0) (.cons (.lit (.int 1)) (.nil)))) (.cons (.lit (.int 4)) (.nil))))) (.cons (.iff [] (.and (.cmp .eq (.bin .mod (.call 11 (.cons (.var 0) (.cons (.lit (.int 2)) (.nil)))) (.lit (.int 3))) (.lit (.int 1))) (.cmp .lt (.ix (.var 2) (.lit (.int 0))) (.lit (.int 3)))) (.cons (.set [] 2 (.call 48 (.cons (.var 2) (.nil)))) (.nil)) (.nil)) (.cons (.set [] 3 (.call 42 (.cons (.var 1) (.cons (.var 2) (.nil))))) (.cons (.srt [] 4 true (.ix (.var 2) (.lit (.int 0))) [0] ["_law_k", "_law_script"] (.call 12 (.cons (.call 11 (.cons (.var 1) (.cons (.lit (.int 2)) (.nil)))) (.cons (.var 0) (.nil))))) (.cons (.set [] 5 (.call 53 (.cons (.var 2) (.nil)))) (.cons (.for [] (.nm 6) (.seq (.tup (.cons (.call 48 (.cons (.var 2) (.nil))) (.cons (.call 51 (.cons (.var 2) (.cons (.var 4) (.nil)))) (.cons (.var 5) (.nil)))))) b_law_k21_f0) (.cons (.for [] (.nm 7) (.rng1 (.ix (.var 5) (.lit (.int 0)))) b_law_k21_f1) (.cons (.iff [] (.or (.cmp .ne (.call 53 (.cons (.call 48 (.cons (.var 2) (.nil))) (.nil))) (.var 5)) (.cmp .ne (.call 53 (.cons (.var 5) (.nil))) (.var 5))) (.cons (.ret [] (.lit (.bool false))) (.nil)) (.nil)) (.cons (.set [] 9 (.lc [8] (.var 8) (.nm 8) (.rng1 (.ix (.var 2) (.lit (.int 0)))) (.cmp .eq (.lc [12] (.var 12) (.nm 12) (.rng1 (.var 8)) (.call 54 (.cons (.var 2) (.cons (.var 8) (.cons (.var 12) (.nil)))))) (.lst (.nil))))) (.cons (.set [] 10 (.lc [13] (.blt .tuple (.lc [8] (.index (.var 9) (.var 8)) (.nm 8) (.seq (.var 13)) (.cmp .isin (.var 8) (.var 9)))) (.nm 13) (.seq (.slc (.var 2) (.lit (.int 1)) (.lit (.int 3)))) (.lit (.bool true)))) (.cons (.set [] 11 (.lc [14, 15] (.tup (.cons (.index (.var 9) (.var 14)) (.cons (.index (.var 9) (.var 15)) (.nil)))) (.tp [14, 15]) (.seq (.ix (.var 2) (.lit (.int 3)))) (.and (.cmp .isin (.var 14) (.var 9)) (.cmp .isin (.var 15) (.var 9))))) (.cons (.ret [] (.cmp .eq (.var 5) (.tup (.cons (.blt .len (.var 9)) (.cons (.ix (.var 10) (.lit (.int 0))) (.cons (.ix (.var 10) (.lit (.int 1))) (.cons (.blt .tuple (.var 11)) (.nil)))))))) (.nil)))))))))))))
def b_world_of_two : QSs := .cons (.set [] 3 (.tup (.cons (.var 0) (.cons (.var 1) (.nil))))) (.cons (.set [] 4 (.lc [6] (.blt .tuple (.lc [7] (.var 7) (.nm 7) (.seq (.tup (.cons (.lit (.int 0)) (.cons (.lit (.int 1)) (.nil))))) (.cmp .eq (.ix (.ix (.var 3) (.var 7)) (.var 6)) (.lit (.int 1))))) (.nm 6) (.seq (.tup (.cons (.lit (.int 0)) (.cons (.lit (.int 1)) (.nil))))) (.lit (.bool true)))) (.cons (.setO [] 5 (.lc [7] (.tup (.cons (.var 7) (.cons (.var 7) (.nil)))) (.nm 7) (.seq (.tup (.cons (.lit (.int 0)) (.cons (.lit (.int 1)) (.nil))))) (.cmp .eq (.ix (.ix (.var 3) (.var 7)) (.lit (.int 2))) (.lit (.int 1))))) (.cons (.iff [] (.cmp .eq (.ix (.var 2) (.lit (.int 0))) (.lit (.int 1))) (.cons (.app [] 5 (.tup (.cons (.lit (.int 0)) (.cons (.lit (.int 1)) (.nil))))) (.nil)) (.nil)) (.cons (.iff [] (.cmp .eq (.ix (.var 2) (.lit (.int 1))) (.lit (.int 1))) (.cons (.app [] 5 (.tup (.cons (.lit (.int 1)) (.cons (.lit (.int 0)) (.nil))))) (.nil)) (.nil)) (.cons (.ret [] (.tup (.cons (.lit (.int 2)) (.cons (.ix (.var 4) (.lit (.int 0))) (.cons (.ix (.var 4) (.lit (.int 1))) (.cons (.blt .tuple (.blt .sorted (.var 5))) (.nil))))))) (.nil))))))
def b_law_pair_world : QSs := .cons (.set [] 3 (.tup (.cons (.var 0) (.cons (.var 1) (.nil))))) (.cons (.set [] 4 (.lc [6] (.blt .tuple (.lc [7] (.var 7) (.nm 7) (.seq (.tup (.cons (.lit (.int 0)) (.cons (.lit (.int 1)) (.nil))))) (.cmp .eq (.ix (.ix (.var 3) (.var 7)) (.var 6)) (.lit (.int 1))))) (.nm 6) (.seq (.tup (.cons (.lit (.int 0)) (.cons (.lit (.int 1)) (.nil))))) (.lit (.bool true)))) (.cons (.set [] 5 (.lc [7] (.tup (.cons (.var 7) (.cons (.var 7) (.nil)))) (.nm 7) (.seq (.tup (.cons (.lit (.int 0)) (.cons (.lit (.int 1)) (.nil))))) (.cmp .eq (.ix (.ix (.var 3) (.var 7)) (.lit (.int 2))) (.lit (.int 1))))) (.cons (.set [] 5 (.bin .add (.bin .add (.var 5) (.bin .mul (.lst (.cons (.tup (.cons (.lit (.int 0)) (.cons (.lit (.int 1)) (.nil)))) (.nil))) (.ix (.var 2) (.lit (.int 0))))) (.bin .mul (.lst (.cons (.tup (.cons (.lit (.int 1)) (.cons (.lit (.int 0)) (.nil)))) (.nil))) (.ix (.var 2) (.lit (.int 1)))))) (.cons (.ret [] (.tup (.cons (.lit (.int 2)) (.cons (.ix (.var 4) (.lit (.int 0))) (.cons (.ix (.var 4) (.lit (.int 1))) (.cons (.blt .tuple (.blt .sorted (.var 5))) (.nil))))))) (.nil)))))
end Ev
/-! PuA: what the small language computes, first steps; the laws' draws, forms, rows. -/
namespace Ev
open PySem

/-! ### draws -/
def mixF (c k : Int) : Int := let h := (c + 7919 * k + 1) * 48271 % 2147483647; (h * h + 7 * h + k) % 2147483629
def drawF (m k : Int) : Int := let h := (m + 104729 * k + 17) * 69621 % 2147483647; (h * h + 3 * h + k) % 2147483629
theorem drawF_nn (m k : Int) : 0 ≤ drawF m k := by unfold drawF; exact Int.emod_nonneg _ (by decide)
theorem mixF_nn (m k : Int) : 0 ≤ mixF m k := by unfold mixF; exact Int.emod_nonneg _ (by decide)
structure Draws (T : Tab) : Prop where
  cell : Has T 10 2 2 b_law_cell_at
  mixed : Has T 11 2 3 b_law_mixed
  drawn : Has T 12 2 3 b_law_drawn
section
variable {T : Tab}
theorem rng_mod (a : Int) : rng (a % 2147483647) = true := by
  have h1 := Int.emod_nonneg a (show (2147483647 : Int) ≠ 0 by decide)
  have h2 := Int.emod_lt_of_pos a (show (0 : Int) < 2147483647 by decide)
  rw [rng_iff]
  omega
theorem run_drawn (D : Draws T) (n : Nat) (m k : Int) : T.run (n + 1) 12 [.int m, .int k] = some (.int (drawF m k)) := by
  rw [run_succ D.drawn n _ rfl]
  have e1 : rng 104729 = true := by decide
  have e2 : rng 69621 = true := by decide
  have e3 : rng 3 = true := by decide
  simp [b_law_drawn, startR, bop_modP, e1, e2, e3, rng_mod, drawF]
theorem run_cell (D : Draws T) (n : Nat) (ns : List Int) (k : Int) (h0 : 0 ≤ k) : ∃ c, T.run (n + 1) 10 [.list (ns.map .int), .int k] = some (.int c) := by
  rw [run_succ D.cell n _ rfl]
  by_cases h : k < ns.length
  · obtain ⟨x, hx, e⟩ := atI_nn (xs := ns.map PyData.int) h0 (by simpa using h)
    obtain ⟨c, _, rfl⟩ := List.mem_map.mp hx
    refine ⟨c, ?_⟩
    simp [b_law_cell_at, startR, h, e]
  · refine ⟨0, ?_⟩
    simp [b_law_cell_at, startR, h]
theorem run_mixed (D : Draws T) (n : Nat) (ns : List Int) (k : Int) (h0 : 0 ≤ k) : ∃ m, 0 ≤ m ∧ T.run (n + 2) 11 [.list (ns.map .int), .int k] = some (.int m) := by
  obtain ⟨c, hc⟩ := run_cell D n ns k h0
  refine ⟨mixF c k, mixF_nn _ _, ?_⟩
  rw [run_succ D.mixed (n + 1) _ rfl]
  have e1 : rng 7919 = true := by decide
  have e2 : rng 48271 = true := by decide
  have e3 : rng 7 = true := by decide
  simp [b_law_mixed, startR, bop_modP, e1, e2, e3, rng_mod, mixF, hc]
end

/-! ### forms, demands, rows -/
/-- names: false for x, true for y -/
inductive Form where
  | yes | no
  | a (x : Bool) | b (x : Bool)
  | to (x y : Bool)
  | not (f : Form)
  | both (f g : Form) | either (f g : Form)
  deriving DecidableEq
def nm : Bool → Wd
  | false => .x
  | true => .y
def wS (w : Wd) : PyData := .str w.s
def Form.enc : Form → PyData
  | .yes => wS .yes
  | .no => wS .no
  | .a x => .tuple [wS .a, wS (nm x)]
  | .b x => .tuple [wS .b, wS (nm x)]
  | .to x y => .tuple [wS .to, wS (nm x), wS (nm y)]
  | .not f => .tuple [wS .not, f.enc]
  | .both f g => .tuple [wS .both, f.enc, g.enc]
  | .either f g => .tuple [wS .either, f.enc, g.enc]
def Form.deep : Form → Nat
  | .not f => f.deep + 1
  | .both f g => max f.deep g.deep + 1
  | .either f g => max f.deep g.deep + 1
  | _ => 0
theorem Form.enc_depth : ∀ f : Form, f.enc.depth ≤ f.deep + 1
  | .yes => by simp [enc, wS, PyData.depth]
  | .no => by simp [enc, wS, PyData.depth]
  | .a x => by simp [enc, wS, PyData.depth, PyData.depthAll]
  | .b x => by simp [enc, wS, PyData.depth, PyData.depthAll]
  | .to x y => by simp [enc, wS, PyData.depth, PyData.depthAll]
  | .not f => by have := enc_depth f; simp [enc, wS, PyData.depth, PyData.depthAll, deep]; omega
  | .both f g => by have := enc_depth f; have := enc_depth g; simp [enc, wS, PyData.depth, PyData.depthAll, deep]; omega
  | .either f g => by have := enc_depth f; have := enc_depth g; simp [enc, wS, PyData.depth, PyData.depthAll, deep]; omega
/-- each: false, some: true -/
def qw : Bool → Wd
  | false => .each
  | true => .some
structure Dem where
  one : Bool
  other : Bool
  form : Form
  deriving DecidableEq
@[simp] theorem qw_f : qw false = .each := rfl
@[simp] theorem qw_t : qw true = .some := rfl
def Dem.enc (d : Dem) : PyData := .tuple [wS (qw d.one), wS (qw d.other), d.form.enc]
def encR (r : List Dem) : PyData := .tuple (r.map Dem.enc)
theorem depthAll_le {n : Nat} : ∀ {l : List PyData}, (∀ d ∈ l, d.depth ≤ n) → PyData.depthAll l ≤ n
  | [], _ => by simp [PyData.depthAll]
  | d :: r, h => by
    have h1 := h d (by simp)
    have h2 := depthAll_le fun e he => h e (List.mem_cons_of_mem _ he)
    simp [PyData.depthAll]
    omega
/-- a mark begins with some and then each -/
def Dem.mark (d : Dem) : Bool := d.one && !d.other

structure Rows (T : Tab) : Prop extends Draws T where
  form : Has T 13 2 6 b_law_form
  demand : Has T 14 2 4 b_law_demand
  row : Has T 15 2 7 b_law_row
section
variable {T : Tab}
def leaf12 : List Form := [.a false, .a true, .b false, .b true, .to false true, .to true false, .to false true, .to false false, .to true true, .to true false, .yes, .no]
theorem run_formK (R : Rows T) : ∀ (k : Nat) (n : Nat) (m K : Int), 0 ≤ m → K = (k : Int) → ∃ f : Form, f.deep ≤ k ∧ T.run (n + k + 2) 13 [.int m, .int K] = some f.enc := by
  intro k
  induction k using Nat.strongRecOn with
  | ind k ih =>
    intro n m K hm hK
    have q0 : 0 ≤ m % 10 := Int.emod_nonneg _ (by decide)
    by_cases h1 : K = 0 ∨ m % 10 < 3
    · have h2 : 0 ≤ m / 10 % 12 := Int.emod_nonneg _ (by decide)
      have h3 : m / 10 % 12 < 12 := Int.emod_lt_of_pos _ (by decide)
      obtain ⟨x, hx, e⟩ := atI_nn (xs := leaf12.map Form.enc) h2 (by simpa [leaf12] using h3)
      obtain ⟨f, hf, rfl⟩ := List.mem_map.mp hx
      have hd : f.deep = 0 := by
        have : ∀ g ∈ leaf12, g.deep = 0 := by decide
        exact this f hf
      refine ⟨f, by omega, ?_⟩
      simp only [leaf12, List.map_cons, List.map_nil, Form.enc, wS, nm] at e
      rw [run_succ R.form (n + k + 1) _ rfl]
      rcases h1 with h | h
      · simp [b_law_form, startR, bop_modP, bop_fdiv_ii, PyData.eqv, h, catOk_of, e]
      · by_cases h' : K = 0
        · simp [b_law_form, startR, bop_modP, bop_fdiv_ii, PyData.eqv, h', catOk_of, e]
        · have h'' : (K == 0) = false := by simpa using h'
          simp [b_law_form, startR, bop_modP, bop_fdiv_ii, PyData.eqv, h'', h, catOk_of, e]
    · have hk0 : ¬ K = 0 := fun h => h1 (.inl h)
      have hm3 : ¬ m % 10 < 3 := fun h => h1 (.inr h)
      obtain ⟨j, rfl⟩ : ∃ j, k = j + 1 := ⟨k - 1, by omega⟩
      have ez : (K == 0) = false := by simpa using hk0
      obtain ⟨f1, d1, r1⟩ := ih j (by omega) n (drawF m 1) (K - 1) (drawF_nn _ _) (by omega)
      obtain ⟨f2, d2, r2⟩ := ih j (by omega) n (drawF m 2) (K - 1) (drawF_nn _ _) (by omega)
      have w1 := run_drawn R.toDraws (n + j + 1) m 1
      have w2 := run_drawn R.toDraws (n + j + 1) m 2
      rw [show n + (j + 1) + 2 = (n + j + 2) + 1 by omega, run_succ R.form (n + j + 2) _ rfl]
      by_cases h3 : m % 10 = 3
      · exact ⟨.not f1, by simp [Form.deep]; omega, by
          simp [b_law_form, startR, bop_modP, bop_fdiv_ii, PyData.eqv, ez, h3, w1, r1, Form.enc, wS]⟩
      · have h3' : (m % 10 == 3) = false := by simpa using h3
        by_cases h6 : m % 10 < 6 ∧ 1 < K
        · obtain ⟨i, rfl⟩ : ∃ i, j = i + 1 := ⟨j - 1, by omega⟩
          obtain ⟨f3, d3, r3⟩ := ih i (by omega) (n + 1) (drawF m 1) (K - 2) (drawF_nn _ _) (by omega)
          rw [show n + 1 + i + 2 = n + (i + 1) + 2 by omega] at r3
          exact ⟨.either (.not f3) f2, by simp [Form.deep]; omega, by
            simp [b_law_form, startR, bop_modP, bop_fdiv_ii, PyData.eqv, ez, hm3, h3', h6.1, h6.2, w1, w2, r1, r2, r3, Form.enc, wS]⟩
        · have q2 : m % 10 % 2 = 0 ∨ m % 10 % 2 = 1 := by omega
          have fin : ∀ b : Bool, b = true ∨ b = false := by intro b; cases b <;> simp
          rcases q2 with q2 | q2
          · refine ⟨.both f1 f2, by simp [Form.deep]; omega, ?_⟩
            by_cases h7 : m % 10 < 6
            · have h8 : ¬ 1 < K := fun h => h6 ⟨h7, h⟩
              simp [b_law_form, startR, bop_modP, bop_fdiv_ii, PyData.eqv, ez, hm3, h3', h7, h8, w1, w2, r1, r2, Form.enc, wS, q2]
            · simp [b_law_form, startR, bop_modP, bop_fdiv_ii, PyData.eqv, ez, hm3, h3', h7, w1, w2, r1, r2, Form.enc, wS, q2]
          · refine ⟨.either f1 f2, by simp [Form.deep]; omega, ?_⟩
            by_cases h7 : m % 10 < 6
            · have h8 : ¬ 1 < K := fun h => h6 ⟨h7, h⟩
              simp [b_law_form, startR, bop_modP, bop_fdiv_ii, PyData.eqv, ez, hm3, h3', h7, h8, w1, w2, r1, r2, Form.enc, wS, q2]
            · simp [b_law_form, startR, bop_modP, bop_fdiv_ii, PyData.eqv, ez, hm3, h3', h7, w1, w2, r1, r2, Form.enc, wS, q2]
theorem run_form (R : Rows T) (k n : Nat) (m : Int) (hm : 0 ≤ m) : ∃ f : Form, f.deep ≤ k ∧ T.run (n + k + 2) 13 [.int m, .int (k : Int)] = some f.enc := run_formK R k n m k hm rfl
theorem atI_of_lt {α β : Type} (g : β → α) {xs : List β} {i : Int} (h0 : 0 ≤ i) (h1 : i < xs.length) : ∃ x, x ∈ xs ∧ L2.atI (xs.map g) i = some (g x) := by
  obtain ⟨y, hy, e⟩ := atI_nn (xs := xs.map g) h0 (by simpa using h1)
  obtain ⟨x, hx, rfl⟩ := List.mem_map.mp hy
  exact ⟨x, hx, e⟩
theorem run_demand (R : Rows T) (k n : Nat) (m : Int) (hm : 0 ≤ m) : ∃ d : Dem, d.form.deep ≤ k ∧ T.run (n + k + 3) 14 [.int m, .int (k : Int)] = some d.enc := by
  obtain ⟨f, hf, rf⟩ := run_form R k n (m / 12) (Int.ediv_nonneg hm (by decide))
  obtain ⟨a, _, ea⟩ := atI_of_lt (fun b => PyData.str (qw b).s) (xs := [false, false, false, true]) (i := m % 4) (Int.emod_nonneg _ (by decide)) (Int.emod_lt_of_pos _ (by decide))
  obtain ⟨b, _, eb⟩ := atI_of_lt (fun b => PyData.str (qw b).s) (xs := [true, false, true]) (i := m / 4 % 3) (Int.emod_nonneg _ (by decide)) (Int.emod_lt_of_pos _ (by decide))
  simp only [List.map_cons, List.map_nil, qw] at ea eb
  refine ⟨⟨a, b, f⟩, hf, ?_⟩
  rw [run_succ R.demand (n + k + 2) _ rfl]
  cases a <;> cases b <;> simp only [qw] at ea eb <;> simp [b_law_demand, startR, bop_modP, bop_fdiv_ii, ea, eb, rf, Dem.enc, wS, qw]

/-! ### rows -/
def mkD : Dem := ⟨true, false, .yes⟩
structure GoodRow (most : Nat) (r : List Dem) : Prop where
  len : r.length ≤ most
  deep : ∀ d ∈ r, d.form.deep ≤ 3
  marks : (r.filter Dem.mark).length ≤ 2
def headD : PyData → PyData
  | .tuple ds => .tuple (ds.take 2)
  | d => d
theorem Dem.enc_head (d : Dem) : PyData.eqv (.tuple [wS (qw d.one), wS (qw d.other)]) (.tuple [wS .some, wS .each]) = d.mark := by
  cases d with | mk a b f => cases a <;> cases b <;> simp [eqv_tt, wS, Dem.mark]
theorem filt_marks (r : List Dem) : ((r.map Dem.enc).filter fun d => PyData.eqv (headD d) (.tuple [wS .some, wS .each])) = (r.filter Dem.mark).map Dem.enc := by
  rw [List.filter_map]
  congr 1
  apply List.filter_congr
  intro d _
  exact Dem.enc_head d
theorem depth_se : (PyData.tuple [wS .some, wS .each]).depth ≤ 64 := by simp [PyData.depth, PyData.depthAll, wS]
theorem copD_se (d : PyData) : copD .eq d (.tuple [.str (Wd.s .some), .str (Wd.s .each)]) = some (.bool (PyData.eqv d (.tuple [wS .some, wS .each]))) := copD_eq (eqOk_le (.inr depth_se))
theorem row_loop (R : Rows T) (n : Nat) (N M : Int) : ∀ (ks : List Int) (r : List Dem) (c : Nat) (s3 s4 s5 s6 : Sl), c + ks.length ≤ 60 → GoodRow c r →
    ∃ r' s3' s4' s5' s6', GoodRow (c + ks.length) r' ∧ loopD T.G (T.run (n + 6)) (.nm 3) b_law_row_f0 [.val (.int N), .val (.int M), .val (encR r), s3, s4, s5, s6] (ks.map .int) = some (.nx [.val (.int N), .val (.int M), .val (encR r'), s3', s4', s5', s6'])
  | [], r, c, s3, s4, s5, s6, hc, g => ⟨r, s3, s4, s5, s6, g, by simp [loopD_nil]⟩
  | k :: ks, r, c, s3, s4, s5, s6, hc, g => by
    obtain ⟨d, hd, rd⟩ := run_demand R 3 n (drawF N k) (drawF_nn _ _)
    have rd : T.run (n + 6) 14 [.int (drawF N k), .int 3] = some d.enc := rd
    have w := run_drawn R.toDraws (n + 5) N k
    simp only [List.length_cons] at hc ⊢
    have hlen : r.length + 1 ≤ 16777216 := by have := g.len; omega
    have hcomp : ∀ s4, compD T.G (T.run (n + 6)) (.nm 6) (.var 6) (.cmp .eq (.slc (.var 6) (.omit) (.lit (.int 2))) (.tup (.cons (.lit (.str (Wd.s .some))) (.cons (.lit (.str (Wd.s .each))) (.nil))))) [.val (.int N), .val (.int M), .val (.tuple (r.map Dem.enc)), .val (.int k), s4, s5, .un] (r.map Dem.enc) = some ((r.filter Dem.mark).map Dem.enc) := by
      intro s4
      rw [compD_filter T.G (T.run (n + 6)) (fun d => PyData.eqv (headD d) (.tuple [wS .some, wS .each])) id, filt_marks, List.map_id]
      intro e he
      obtain ⟨q, _, rfl⟩ := List.mem_map.mp he
      refine ⟨_, rfl, ?_, ?_⟩
      · simp [Dem.enc, copD_se, headD]
      · intro _
        simp
    have hev := Dem.enc_head d
    obtain ⟨d', hd', hm', e'⟩ : ∃ d' : Dem, d'.form.deep ≤ 3 ∧ (d'.mark = true → (r.filter Dem.mark).length ≠ 2) ∧ evSs T.G (T.run (n + 6)) b_law_row_f0 [.val (.int N), .val (.int M), .val (encR r), .val (.int k), s4, s5, s6] = some (.nx [.val (.int N), .val (.int M), .val (encR (r ++ [d'])), .val (.int k), .val d'.enc, .val (.list ((r.filter Dem.mark).map Dem.enc)), s6]) := by
      by_cases h2 : d.mark = true ∧ (r.filter Dem.mark).length = 2
      · refine ⟨⟨false, true, d.form⟩, hd, by simp [Dem.mark], ?_⟩
        rw [h2.1] at hev
        simp only [encR]
        simp only [b_law_row_f0]
        simp only [wS] at hev
        simp [w, rd, hcomp, Dem.enc, hev, h2.2, copD_se, catOk_of, hlen, wS]
      · refine ⟨d, hd, fun h e => h2 ⟨h, e⟩, ?_⟩
        simp only [encR]
        simp only [b_law_row_f0]
        simp only [wS] at hev
        cases hm : d.mark
        · rw [hm] at hev
          simp [w, rd, hcomp, Dem.enc, hev, copD_se, catOk_of, hlen, wS]
        · have : (r.filter Dem.mark).length ≠ 2 := fun e => h2 ⟨hm, e⟩
          have t : (((r.filter Dem.mark).length : Int) == 2) = false := by simp; omega
          rw [hm] at hev
          simp [w, rd, hcomp, Dem.enc, hev, t, copD_se, catOk_of, hlen, wS]
    have g' : GoodRow (c + 1) (r ++ [d']) := by
      refine ⟨by have := g.len; simp; omega, ?_, ?_⟩
      · intro x hx
        rcases List.mem_append.mp hx with h | h
        · exact g.deep x h
        · rw [List.mem_singleton] at h; subst h; exact hd'
      · rw [List.filter_append, List.length_append]
        have := g.marks
        cases hm : d'.mark
        · simp [List.filter, hm]; exact this
        · have := hm' hm
          simp [List.filter, hm]; omega
    obtain ⟨r', a3, a4, a5, a6, gr, e⟩ := row_loop R n N M ks (r ++ [d']) (c + 1) (.val (.int k)) (.val d'.enc) (.val (.list ((r.filter Dem.mark).map Dem.enc))) s6 (by omega) g'
    refine ⟨r', a3, a4, a5, a6, by rw [show c + (ks.length + 1) = c + 1 + ks.length by omega]; exact gr, ?_⟩
    rw [List.map_cons, loopD_cons]
    simp only [asg_nm, List.set, Option.bind_some, e', loopK_nx, e]
theorem rgD_eq (n : Nat) : rgD (n : Int) = ((List.range n).map fun i : Nat => (i : Int)).map PyData.int := by
  unfold rgD
  rw [List.map_map]
  rfl
theorem run_row (R : Rows T) (n : Nat) (N : Int) (M : Nat) (hM : M ≤ 20) (hN : 0 ≤ N) : ∃ r, GoodRow M r ∧ T.run (n + 7) 15 [.int N, .int (M : Int)] = some (encR r) := by
  have h0 : 0 ≤ N % ((M : Int) + 1) := Int.emod_nonneg _ (by omega)
  have h1 : N % ((M : Int) + 1) < (M : Int) + 1 := Int.emod_lt_of_pos _ (by omega)
  obtain ⟨m, hm⟩ : ∃ m : Nat, N % ((M : Int) + 1) = m := ⟨(N % ((M : Int) + 1)).toNat, by omega⟩
  have hp : (0 : Int) < (M : Int) + 1 := by omega
  have hr : rngOk (m : Int) = true := rngOk_of (by omega) (by omega)
  obtain ⟨r, a3, a4, a5, a6, g, e⟩ := row_loop R n N M ((List.range m).map fun i : Nat => (i : Int)) [] 0 .un .un .un .un (by simp; omega) ⟨Nat.le_refl _, by simp, by simp⟩
  simp only [List.length_map, List.length_range, Nat.zero_add] at g
  refine ⟨r, ⟨by have := g.len; omega, g.deep, g.marks⟩, ?_⟩
  rw [run_succ R.row (n + 6) _ rfl]
  simp only [encR, List.map_nil] at e
  have e2 : rgK (.int (m : Int)) = some (((List.range m).map fun i : Nat => (i : Int)).map PyData.int) := by
    rw [← rgD_eq, rgK_int, hr]; rfl
  generalize hk : ((List.range m).map fun i : Nat => (i : Int)).map PyData.int = zs at e e2
  simp [-rgK_int, b_law_row, startR, bop_modP hp]
  rw [hm, e2]
  simp [e, encR]
theorem run_rowK (R : Rows T) (n : Nat) (N K : Int) (M : Nat) (hK : K = (M : Int)) (hM : M ≤ 20) (hN : 0 ≤ N) : ∃ r, GoodRow M r ∧ T.run (n + 7) 15 [.int N, .int K] = some (encR r) := by
  subst hK; exact run_row R n N M hM hN
end
end Ev

/-! PuB: a row's text (law k02). -/
namespace Ev
open PySem
theorem Str.asc (a b c : Str) : (a ++ b) ++ c = a ++ (b ++ c) := by
  cases a; cases b; cases c
  show Str.mk _ = Str.mk _
  congr 1
  exact Array.append_assoc ..
theorem slen (a b : Str) : (a ++ b).length = a.length + b.length := Str.length_append a b
theorem Wd.len (w : Wd) : w.s.length ≤ 6 := by cases w <;> decide +kernel
theorem join_cons2 (s x y : Str) (r : List Str) : Str.join s (x :: y :: r) = x ++ s ++ Str.join s (y :: r) := rfl
theorem join_one (s x : Str) : Str.join s [x] = x := rfl
theorem join_app (s : Str) : ∀ (a b : List Str), a ≠ [] → b ≠ [] → Str.join s (a ++ b) = Str.join s a ++ s ++ Str.join s b
  | [x], y :: b, _, _ => by rw [join_one]; rfl
  | x :: z :: a, y :: b, _, hb => by
    rw [List.cons_append, List.cons_append, join_cons2, ← List.cons_append, join_app s (z :: a) (y :: b) (by simp) hb, join_cons2]
    simp only [Str.asc]
  | _, [], _, hb => absurd rfl hb
  | [], _, ha, _ => absurd rfl ha
def Form.ws : Form → List Str
  | .yes => [Wd.s .yes]
  | .no => [Wd.s .no]
  | .a x => [Wd.s .a ++ Wd.s (nm x)]
  | .b x => [Wd.s .b ++ Wd.s (nm x)]
  | .to x y => [Wd.s (nm x) ++ Wd.s (nm y)]
  | .not f => Wd.s .not :: f.ws
  | .both f g => Wd.s .both :: (f.ws ++ g.ws)
  | .either f g => Wd.s .either :: (f.ws ++ g.ws)
def Form.size : Form → Nat
  | .not f => f.size + 1
  | .both f g => f.size + g.size + 1
  | .either f g => f.size + g.size + 1
  | _ => 1
theorem Form.size_le : ∀ f : Form, f.size ≤ 2 ^ (f.deep + 1) - 1
  | .not f => by
    have := f.size_le
    have p : 1 ≤ 2 ^ (f.deep + 1) := Nat.one_le_two_pow
    have e : 2 ^ (f.deep + 1 + 1) = 2 * 2 ^ (f.deep + 1) := by rw [Nat.pow_succ]; omega
    simp only [size, deep, e]; omega
  | .both f g => by
    have := f.size_le; have := g.size_le
    have p : 1 ≤ 2 ^ (f.deep + 1) := Nat.one_le_two_pow
    have p' : 1 ≤ 2 ^ (g.deep + 1) := Nat.one_le_two_pow
    have e : 2 ^ (max f.deep g.deep + 1 + 1) = 2 * 2 ^ (max f.deep g.deep + 1) := by rw [Nat.pow_succ]; omega
    have h1 : 2 ^ (f.deep + 1) ≤ 2 ^ (max f.deep g.deep + 1) := Nat.pow_le_pow_right (by decide) (by omega)
    have h2 : 2 ^ (g.deep + 1) ≤ 2 ^ (max f.deep g.deep + 1) := Nat.pow_le_pow_right (by decide) (by omega)
    simp only [size, deep, e]; omega
  | .either f g => by
    have := f.size_le; have := g.size_le
    have p : 1 ≤ 2 ^ (f.deep + 1) := Nat.one_le_two_pow
    have p' : 1 ≤ 2 ^ (g.deep + 1) := Nat.one_le_two_pow
    have e : 2 ^ (max f.deep g.deep + 1 + 1) = 2 * 2 ^ (max f.deep g.deep + 1) := by rw [Nat.pow_succ]; omega
    have h1 : 2 ^ (f.deep + 1) ≤ 2 ^ (max f.deep g.deep + 1) := Nat.pow_le_pow_right (by decide) (by omega)
    have h2 : 2 ^ (g.deep + 1) ≤ 2 ^ (max f.deep g.deep + 1) := Nat.pow_le_pow_right (by decide) (by omega)
    simp only [size, deep, e]; omega
  | .yes | .no | .a _ | .b _ | .to _ _ => by simp [size, deep]
theorem Form.size_small {f : Form} (h : f.deep ≤ 10) : f.size ≤ 2047 := by
  have := f.size_le
  have : 2 ^ (f.deep + 1) ≤ 2 ^ 11 := Nat.pow_le_pow_right (by decide) (by omega)
  omega
theorem Form.ws_ne (f : Form) : f.ws ≠ [] := by cases f <;> simp [ws]
theorem Form.ws_len : ∀ f : Form, f.ws.length = f.size
  | .not f => by simp [ws, size, ws_len f]
  | .both f g => by simp [ws, size, ws_len f, ws_len g]
  | .either f g => by simp [ws, size, ws_len f, ws_len g]
  | .yes | .no | .a _ | .b _ | .to _ _ => by simp [size, ws]
theorem Form.ws_each : ∀ (f : Form) (w : Str), w ∈ f.ws → w.length ≤ 12
  | .not f, w, h => by
    rcases List.mem_cons.mp h with rfl | h
    · have := Wd.len .not; omega
    · exact ws_each f w h
  | .both f g, w, h => by
    rcases List.mem_cons.mp h with rfl | h
    · have := Wd.len .both; omega
    · exact (List.mem_append.mp h).elim (ws_each f w) (ws_each g w)
  | .either f g, w, h => by
    rcases List.mem_cons.mp h with rfl | h
    · have := Wd.len .either; omega
    · exact (List.mem_append.mp h).elim (ws_each f w) (ws_each g w)
  | .yes, w, h => by rw [ws, List.mem_singleton] at h; subst h; have := Wd.len .yes; omega
  | .no, w, h => by rw [ws, List.mem_singleton] at h; subst h; have := Wd.len .no; omega
  | .a x, w, h => by rw [ws, List.mem_singleton] at h; subst h; rw [slen]; have := Wd.len .a; have := Wd.len (nm x); omega
  | .b x, w, h => by rw [ws, List.mem_singleton] at h; subst h; rw [slen]; have := Wd.len .b; have := Wd.len (nm x); omega
  | .to x y, w, h => by rw [ws, List.mem_singleton] at h; subst h; rw [slen]; have := Wd.len (nm y); have := Wd.len (nm x); omega
theorem joinLen_le {n b : Nat} : ∀ {l : List Str}, (∀ w ∈ l, w.length ≤ b) → joinLen n l ≤ l.length * (b + n)
  | [], _ => by simp [joinLen]
  | x :: r, h => by
    have h1 := h x (by simp)
    have h2 := joinLen_le (n := n) fun w hw => h w (List.mem_cons_of_mem _ hw)
    rw [joinLen, List.length_cons, Nat.succ_mul]
    omega
theorem join_len (s : Str) : ∀ l : List Str, (Str.join s l).length ≤ joinLen s.length l
  | [] => Nat.le_refl 0
  | [x] => by rw [join_one, joinLen]; omega
  | x :: y :: r => by
    have := join_len s (y :: r)
    rw [join_cons2, slen, slen, joinLen]
    omega
@[simp] theorem joinD_strs (s : Str) (l : List Str) (h : joinLen s.length l ≤ sizeLine) : joinD (.str s) (.list (l.map .str)) = some (.str (Str.join s l)) := by
  show ((strsOf (l.map .str)).bind fun xs => if joinLen s.length xs ≤ sizeLine then some (PyData.str (Str.join s xs)) else none) = _
  rw [strsOf_map]
  simp [h]
def Form.text (f : Form) : Str := Str.join (Wd.s .blank) f.ws
theorem Form.text_len (f : Form) : f.text.length ≤ f.size * 18 := by
  have h := join_len (Wd.s .blank) f.ws
  have h2 := joinLen_le (n := (Wd.s .blank).length) f.ws_each
  have h3 := Wd.len .blank
  rw [f.ws_len] at h2
  have : f.size * (12 + (Wd.s .blank).length) ≤ f.size * 18 := Nat.mul_le_mul_left _ (by omega)
  unfold Form.text; omega

structure Wr (T : Tab) : Prop where
  words : Has T 25 1 3 b_words_of
  written : Has T 26 1 4 b_written
structure LWr (T : Tab) : Prop where
  words : Has T 27 1 2 b_law_words
  text : Has T 28 1 4 b_law_text
section
variable {T : Tab}
theorem wcat (v w : Wd) : catOk v.s.length w.s.length = true := catOk_of (by have := v.len; have := w.len; omega)
theorem run_words (W : Wr T) : ∀ (f : Form) (n : Nat), f.size ≤ 100000 → T.run (n + f.deep + 1) 25 [f.enc] = some (.list (f.ws.map .str)) := by
  intro f
  induction f with
  | yes => intro n hs; rw [run_succ W.words _ _ rfl]; simp [b_words_of, startR, Form.enc, wS, Form.ws, isTy]
  | no => intro n hs; rw [run_succ W.words _ _ rfl]; simp [b_words_of, startR, Form.enc, wS, Form.ws, isTy]
  | a x => intro n hs; rw [run_succ W.words _ _ rfl]; simp [b_words_of, startR, Form.enc, wS, Form.ws, isTy, wcat]
  | b x => intro n hs; rw [run_succ W.words _ _ rfl]; simp [b_words_of, startR, Form.enc, wS, Form.ws, isTy, wcat]
  | to x y => intro n hs; rw [run_succ W.words _ _ rfl]; simp [b_words_of, startR, Form.enc, wS, Form.ws, isTy, wcat]
  | not f ih =>
    intro n hs
    simp only [Form.size] at hs
    have e := ih n (by omega)
    rw [run_succ W.words _ _ rfl]
    have hl := f.ws_len
    have e2 : catOk 1 f.ws.length = true := catOk_of (by omega)
    simp [b_words_of, b_words_of_f0, startR, Form.enc, wS, Form.ws, isTy, loopD_cons, loopD_nil, Form.deep, ← Nat.add_assoc, e, ownExt, e2]
  | both f g ihf ihg =>
    intro n hs
    simp only [Form.size] at hs
    have e := ihf (n + (max f.deep g.deep - f.deep)) (by omega)
    have e' := ihg (n + (max f.deep g.deep - g.deep)) (by omega)
    rw [show n + (max f.deep g.deep - f.deep) + f.deep + 1 = n + max f.deep g.deep + 1 by omega] at e
    rw [show n + (max f.deep g.deep - g.deep) + g.deep + 1 = n + max f.deep g.deep + 1 by omega] at e'
    rw [run_succ W.words _ _ rfl]
    have hl := f.ws_len
    have hl' := g.ws_len
    have e2 : catOk 1 f.ws.length = true := catOk_of (by omega)
    have e3 : catOk (f.ws.length + 1) g.ws.length = true := catOk_of (by omega)
    simp [b_words_of, b_words_of_f0, startR, Form.enc, wS, Form.ws, isTy, loopD_cons, loopD_nil, Form.deep, ← Nat.add_assoc, e, e', ownExt, e2, e3]
  | either f g ihf ihg =>
    intro n hs
    simp only [Form.size] at hs
    have e := ihf (n + (max f.deep g.deep - f.deep)) (by omega)
    have e' := ihg (n + (max f.deep g.deep - g.deep)) (by omega)
    rw [show n + (max f.deep g.deep - f.deep) + f.deep + 1 = n + max f.deep g.deep + 1 by omega] at e
    rw [show n + (max f.deep g.deep - g.deep) + g.deep + 1 = n + max f.deep g.deep + 1 by omega] at e'
    rw [run_succ W.words _ _ rfl]
    have hl := f.ws_len
    have hl' := g.ws_len
    have e2 : catOk 1 f.ws.length = true := catOk_of (by omega)
    have e3 : catOk (f.ws.length + 1) g.ws.length = true := catOk_of (by omega)
    simp [b_words_of, b_words_of_f0, startR, Form.enc, wS, Form.ws, isTy, loopD_cons, loopD_nil, Form.deep, ← Nat.add_assoc, e, e', ownExt, e2, e3]
theorem joinD_2 (s a b : Str) (h : a.length + b.length + 2 * s.length ≤ 16777216) : joinD (.str s) (.list [.str a, .str b]) = some (.str (a ++ s ++ b)) := by
  have := joinD_strs s [a, b] (by simp only [joinLen, sizeLine_eq]; omega)
  exact this
theorem joinD_3 (s a b c : Str) (h : a.length + b.length + c.length + 3 * s.length ≤ 16777216) : joinD (.str s) (.list [.str a, .str b, .str c]) = some (.str (a ++ s ++ (b ++ s ++ c))) := by
  have := joinD_strs s [a, b, c] (by simp only [joinLen, sizeLine_eq]; omega)
  exact this
theorem text_two (w : Wd) (f : Form) : Str.join (Wd.s .blank) (w.s :: f.ws) = w.s ++ Wd.s .blank ++ f.text := by
  have := join_app (Wd.s .blank) [w.s] f.ws (by simp) f.ws_ne
  exact this
theorem text_three (w : Wd) (f g : Form) : Str.join (Wd.s .blank) (w.s :: (f.ws ++ g.ws)) = w.s ++ Wd.s .blank ++ (f.text ++ Wd.s .blank ++ g.text) := by
  have h1 := join_app (Wd.s .blank) [w.s] (f.ws ++ g.ws) (by simp) (by simp [f.ws_ne])
  have h2 := join_app (Wd.s .blank) f.ws g.ws f.ws_ne g.ws_ne
  rw [h2] at h1
  exact h1
theorem run_lwords (W : LWr T) : ∀ (f : Form) (n : Nat), f.size ≤ 100000 → T.run (n + f.deep + 1) 27 [f.enc] = some (.str f.text) := by
  intro f
  have hb := Wd.len .blank
  induction f with
  | yes => intro n hs; rw [run_succ W.words _ _ rfl]; simp [b_law_words, startR, Form.enc, wS, Form.text, Form.ws, isTy, Str.join]
  | no => intro n hs; rw [run_succ W.words _ _ rfl]; simp [b_law_words, startR, Form.enc, wS, Form.text, Form.ws, isTy, Str.join]
  | a x => intro n hs; rw [run_succ W.words _ _ rfl]; simp [b_law_words, startR, Form.enc, wS, Form.text, Form.ws, isTy, wcat, Str.join]
  | b x => intro n hs; rw [run_succ W.words _ _ rfl]; simp [b_law_words, startR, Form.enc, wS, Form.text, Form.ws, isTy, wcat, Str.join]
  | to x y => intro n hs; rw [run_succ W.words _ _ rfl]; simp [b_law_words, startR, Form.enc, wS, Form.text, Form.ws, isTy, wcat, Str.join]
  | not f ih =>
    intro n hs
    simp only [Form.size] at hs
    have e := ih n (by omega)
    rw [run_succ W.words _ _ rfl]
    have hl := f.text_len
    have hw := Wd.len .not
    have e2 := joinD_2 (Wd.s .blank) (Wd.s .not) f.text (by omega)
    have e3 := text_two .not f
    have e4 : catOk 1 1 = true := catOk_of (by omega)
    simp [b_law_words, startR, Form.enc, wS, isTy, compD_cons, compD_nil, Form.deep, ← Nat.add_assoc, e, e2, e4]
    simp only [Form.text, Form.ws] at e3 ⊢
    rw [e3]
  | both f g ihf ihg =>
    intro n hs
    simp only [Form.size] at hs
    have e := ihf (n + (max f.deep g.deep - f.deep)) (by omega)
    have e' := ihg (n + (max f.deep g.deep - g.deep)) (by omega)
    rw [show n + (max f.deep g.deep - f.deep) + f.deep + 1 = n + max f.deep g.deep + 1 by omega] at e
    rw [show n + (max f.deep g.deep - g.deep) + g.deep + 1 = n + max f.deep g.deep + 1 by omega] at e'
    rw [run_succ W.words _ _ rfl]
    have hl := f.text_len
    have hl' := g.text_len
    have hw := Wd.len .both
    have e2 := joinD_3 (Wd.s .blank) (Wd.s .both) f.text g.text (by omega)
    have e3 := text_three .both f g
    have e4 : catOk 1 2 = true := catOk_of (by omega)
    simp [b_law_words, startR, Form.enc, wS, isTy, compD_cons, compD_nil, Form.deep, ← Nat.add_assoc, e, e', e2, e4]
    simp only [Form.text, Form.ws] at e3 ⊢
    rw [e3]
  | either f g ihf ihg =>
    intro n hs
    simp only [Form.size] at hs
    have e := ihf (n + (max f.deep g.deep - f.deep)) (by omega)
    have e' := ihg (n + (max f.deep g.deep - g.deep)) (by omega)
    rw [show n + (max f.deep g.deep - f.deep) + f.deep + 1 = n + max f.deep g.deep + 1 by omega] at e
    rw [show n + (max f.deep g.deep - g.deep) + g.deep + 1 = n + max f.deep g.deep + 1 by omega] at e'
    rw [run_succ W.words _ _ rfl]
    have hl := f.text_len
    have hl' := g.text_len
    have hw := Wd.len .either
    have e2 := joinD_3 (Wd.s .blank) (Wd.s .either) f.text g.text (by omega)
    have e3 := text_three .either f g
    have e4 : catOk 1 2 = true := catOk_of (by omega)
    simp [b_law_words, startR, Form.enc, wS, isTy, compD_cons, compD_nil, Form.deep, ← Nat.add_assoc, e, e', e2, e4]
    simp only [Form.text, Form.ws] at e3 ⊢
    rw [e3]
/-- a demand's text -/
def Dem.text (d : Dem) : Str := (qw d.one).s ++ Wd.s .blank ++ (qw d.other).s ++ Wd.s .blank ++ d.form.text
theorem Dem.text_join (d : Dem) : Str.join (Wd.s .blank) ((qw d.one).s :: (qw d.other).s :: d.form.ws) = d.text := by
  have h := join_app (Wd.s .blank) [(qw d.one).s, (qw d.other).s] d.form.ws (by simp) d.form.ws_ne
  simp only [Dem.text, Form.text, Str.asc] at h ⊢
  have h2 : Str.join (Wd.s .blank) [(qw d.one).s, (qw d.other).s] = (qw d.one).s ++ Wd.s .blank ++ (qw d.other).s := rfl
  rw [h2] at h
  simp only [Str.asc] at h
  exact h
def rowText (r : List Dem) : Str := if r = [] then Wd.s .dash else Str.join (Wd.s .semi) (r.map Dem.text)
theorem Dem.text_len (d : Dem) : d.text.length ≤ d.form.size * 18 + 24 := by
  have h1 := d.form.text_len
  have h2 := Wd.len .blank
  have h3 := (qw d.one).len
  have h4 := (qw d.other).len
  simp only [Dem.text, slen]; omega
theorem encR_nil (r : List Dem) : PyData.eqv (encR r) (.tuple []) = decide (r = []) := by
  cases r with
  | nil => simp [encR, eqv_tt]
  | cons a l => simp [encR, eqv_tt]
structure SmallRow (r : List Dem) : Prop where
  len : r.length ≤ 1000
  size : ∀ d ∈ r, d.form.size ≤ 800
  deep : ∀ d ∈ r, d.form.deep ≤ 150
theorem GoodRow.small {m : Nat} {r : List Dem} (g : GoodRow m r) (hm : m ≤ 1000) : SmallRow r :=
  ⟨Nat.le_trans g.len hm, fun d hd => by
    have := g.deep d hd
    have h := d.form.size_le
    have : 2 ^ (d.form.deep + 1) ≤ 2 ^ 4 := Nat.pow_le_pow_right (by decide) (by omega)
    omega, fun d hd => by have := g.deep d hd; omega⟩
theorem SmallRow.join {r : List Dem} (s : SmallRow r) : joinLen (Wd.s .semi).length (r.map Dem.text) ≤ sizeLine := by
  have h := joinLen_le (n := (Wd.s .semi).length) (b := 14424) (l := r.map Dem.text) (fun w hw => by
    obtain ⟨d, hd, rfl⟩ := List.mem_map.mp hw
    have := s.size d hd
    have := d.text_len
    omega)
  have h3 := Wd.len .semi
  have h2 := s.len
  rw [List.length_map] at h
  have : r.length * (14424 + (Wd.s .semi).length) ≤ 1000 * 14430 := Nat.mul_le_mul h2 (by omega)
  rw [sizeLine_eq]; omega
theorem run_deep {f k n : Nat} {ds : List PyData} {m : Nat} (hk : k ≤ m) {d : PyData} (h : ∀ n, T.run (n + k + 1) f ds = some d) : T.run (n + m + 1) f ds = some d := by
  have := h (n + (m - k))
  rwa [show n + (m - k) + k + 1 = n + m + 1 by omega] at this
theorem run_written (W : Wr T) (n : Nat) (r : List Dem) (s : SmallRow r) : T.run (n + 152) 26 [encR r] = some (.str (rowText r)) := by
  rw [run_succ W.written (n + 151) _ rfl]
  by_cases h : r = []
  · subst h
    simp [b_written, startR, encR, eqv_tt, rowText]
  · have hc : compD T.G (T.run (n + 151)) (.tp [1, 2, 3]) (.join (.lit (.str (Wd.s .blank))) (.bin .add (.lst (.cons (.var 1) (.cons (.var 2) (.nil)))) (.call 25 (.cons (.var 3) (.nil))))) (.lit (.bool true)) [.val (encR r), .un, .un, .un] (r.map Dem.enc) = some (r.map fun d => .str d.text) := by
      refine compD_codeM _ _ Dem.enc (fun d => .str d.text) r fun d hd => ⟨_, rfl, by simp, ?_⟩
      have hs := s.size d hd
      have e : T.run (n + 151) 25 [d.form.enc] = some (.list (d.form.ws.map .str)) := run_deep (s.deep d hd) fun m => run_words W d.form m (by omega)
      have hl := d.form.ws_len
      have e4 : catOk 2 d.form.ws.length = true := catOk_of (by omega)
      have e5 : joinD (.str (Wd.s .blank)) (.list (.str (qw d.one).s :: .str (qw d.other).s :: d.form.ws.map .str)) = some (.str d.text) := by
        rw [← d.text_join]
        refine joinD_strs (Wd.s .blank) ((qw d.one).s :: (qw d.other).s :: d.form.ws) ?_
        have h1 := joinLen_le (n := (Wd.s .blank).length) d.form.ws_each
        have h2 := Wd.len .blank
        have h3 := (qw d.one).len
        have h4 := (qw d.other).len
        rw [hl] at h1
        have : d.form.size * (12 + (Wd.s .blank).length) ≤ 800 * 18 := Nat.mul_le_mul hs (by omega)
        simp only [joinLen, sizeLine_eq]; omega
      simp [Dem.enc, wS, e, e4, e5]
    have hj := joinD_strs (Wd.s .semi) (r.map Dem.text) s.join
    have he := encR_nil r
    simp only [h, decide_false] at he
    rw [List.map_map] at hj
    have hj : joinD (.str (Wd.s .semi)) (.list (r.map fun d => .str d.text)) = _ := hj
    simp only [encR] at hc he
    simp [b_written, startR, encR, he, hc, hj, rowText, h]
theorem run_ltext (W : LWr T) (n : Nat) (r : List Dem) (s : SmallRow r) : T.run (n + 152) 28 [encR r] = some (.str (rowText r)) := by
  rw [run_succ W.text (n + 151) _ rfl]
  by_cases h : r = []
  · subst h
    simp [b_law_text, startR, encR, eqv_tt, rowText]
  · have hc : compD T.G (T.run (n + 151)) (.tp [1, 2, 3]) (.bin .add (.bin .add (.bin .add (.bin .add (.var 1) (.lit (.str (Wd.s .blank)))) (.var 2)) (.lit (.str (Wd.s .blank)))) (.call 27 (.cons (.var 3) (.nil)))) (.lit (.bool true)) [.val (encR r), .un, .un, .un] (r.map Dem.enc) = some (r.map fun d => .str d.text) := by
      refine compD_codeM _ _ Dem.enc (fun d => .str d.text) r fun d hd => ⟨_, rfl, by simp, ?_⟩
      have hs := s.size d hd
      have e : T.run (n + 151) 27 [d.form.enc] = some (.str d.form.text) := run_deep (s.deep d hd) fun m => run_lwords W d.form m (by omega)
      have hl := d.form.text_len
      have h2 := Wd.len .blank
      have h3 := (qw d.one).len
      have h4 := (qw d.other).len
      have c1 : catOk (qw d.one).s.length (Wd.s .blank).length = true := catOk_of (by omega)
      have c2 : catOk ((qw d.one).s.length + (Wd.s .blank).length) (qw d.other).s.length = true := catOk_of (by omega)
      have c3 : catOk ((qw d.one).s.length + (Wd.s .blank).length + (qw d.other).s.length) (Wd.s .blank).length = true := catOk_of (by omega)
      have c4 : catOk ((qw d.one).s.length + (Wd.s .blank).length + (qw d.other).s.length + (Wd.s .blank).length) d.form.text.length = true := catOk_of (by omega)
      simp [Dem.enc, wS, e, c1, c2, c3, c4, slen, Dem.text]
    have hj := joinD_strs (Wd.s .semi) (r.map Dem.text) s.join
    have he := encR_nil r
    simp only [h, decide_false] at he
    rw [List.map_map] at hj
    have hj : joinD (.str (Wd.s .semi)) (.list (r.map fun d => .str d.text)) = _ := hj
    simp only [encR] at hc he
    simp [b_law_text, startR, encR, he, hc, hj, rowText, h]
end
end Ev

/-! PuC: worlds, what holds in them. -/
namespace Ev
open PySem
section
variable (G : Nat → Option PyData) (run : Nat → List PyData → Option PyData)
/-- a loop that goes through, by an invariant over what is behind -/
theorem loopD_inv {α : Type} {tg : Tg} {b : QSs} (g : α → PyData) (I : List α → Rho → Prop) (xs : List α) (h : ∀ pre x post ρ, xs = pre ++ x :: post → I pre ρ → ∃ ρ1 ρ2, asg tg (g x) ρ = some ρ1 ∧ evSs G run b ρ1 = some (.nx ρ2) ∧ I (pre ++ [x]) ρ2) :
    ∀ ρ, I [] ρ → ∃ ρ', loopD G run tg b ρ (xs.map g) = some (.nx ρ') ∧ I xs ρ' := by
  suffices H : ∀ (post pre : List α) ρ, xs = pre ++ post → I pre ρ → ∃ ρ', loopD G run tg b ρ (post.map g) = some (.nx ρ') ∧ I xs ρ' from fun ρ h0 => H xs [] ρ rfl h0
  intro post
  induction post with
  | nil => intro pre ρ e i; rw [List.append_nil] at e; subst e; exact ⟨ρ, rfl, i⟩
  | cons x post ih =>
    intro pre ρ e i
    obtain ⟨ρ1, ρ2, h1, h2, h3⟩ := h pre x post ρ e i
    obtain ⟨ρ', h4, h5⟩ := ih (pre ++ [x]) ρ2 (by rw [e]; simp) h3
    refine ⟨ρ', ?_, h5⟩
    rw [List.map_cons, loopD_cons, h1, Option.bind_some, h2, Option.bind_some, loopK_nx, h4]
/-- a loop that ends at the first item with p -/
theorem loopD_find {α : Type} {tg : Tg} {b : QSs} (g : α → PyData) (p : α → Bool) (o : α → PyData) (I : Rho → Prop) : ∀ (xs : List α), (∀ x ρ, x ∈ xs → I ρ → ∃ ρ1, asg tg (g x) ρ = some ρ1 ∧ ((p x = true ∧ evSs G run b ρ1 = some (.rt (o x))) ∨ (p x = false ∧ ∃ ρ2, evSs G run b ρ1 = some (.nx ρ2) ∧ I ρ2))) →
    ∀ ρ, I ρ → (∃ x, xs.find? p = some x ∧ loopD G run tg b ρ (xs.map g) = some (.rt (o x))) ∨ (xs.find? p = none ∧ ∃ ρ', loopD G run tg b ρ (xs.map g) = some (.nx ρ') ∧ I ρ')
  | [], _, ρ, i => .inr ⟨rfl, ρ, rfl, i⟩
  | x :: xs, h, ρ, i => by
    obtain ⟨ρ1, h1, h2⟩ := h x ρ (by simp) i
    rw [List.map_cons, loopD_cons, h1, Option.bind_some]
    rcases h2 with ⟨hp, h2⟩ | ⟨hp, ρ2, h2, i2⟩
    · exact .inl ⟨x, by simp [hp], by rw [h2]; rfl⟩
    · rw [h2, Option.bind_some, loopK_nx]
      rw [List.find?_cons_of_neg (by simp [hp])]
      exact loopD_find g p o I xs (fun y ρ hy => h y ρ (List.mem_cons_of_mem _ hy)) ρ2 i2
end
def iN (i : Nat) : PyData := .int (i : Int)
theorem rgD_iN (n : Nat) : rgD (n : Int) = (List.range n).map iN := rfl
structure Wld where
  n : Nat
  a : List Nat
  b : List Nat
  r : List (Nat × Nat)
  deriving DecidableEq
def pr2 (p : Nat × Nat) : PyData := .tuple [iN p.1, iN p.2]
def Wld.enc (w : Wld) : PyData := .tuple [iN w.n, .tuple (w.a.map iN), .tuple (w.b.map iN), .tuple (w.r.map pr2)]
structure GoodW (most : Nat) (w : Wld) : Prop where
  pos : 1 ≤ w.n
  le : w.n ≤ most
  a : ∃ p, w.a = (List.range w.n).filter p
  b : ∃ p, w.b = (List.range w.n).filter p
  r : ∃ p, w.r = ((List.range w.n).flatMap fun i => (List.range w.n).map fun j => (i, j)).filter p
structure Worlds (T : Tab) : Prop extends Draws T where
  world : Has T 16 2 10 b_law_world
section
variable {T : Tab}
theorem run_world (W : Worlds T) (k : Nat) (N M : Int) (most : Nat) (hM : M = (most : Int)) (h0 : 0 < most) (h1 : most ≤ 800) : ∃ w, GoodW most w ∧ T.run (k + 2) 16 [.int N, .int M] = some w.enc := by
  subst hM
  have hn0 : 0 ≤ N % (most : Int) := Int.emod_nonneg _ (by omega)
  have hn1 : N % (most : Int) < most := Int.emod_lt_of_pos _ (by omega)
  obtain ⟨n, hn⟩ : ∃ n : Nat, 1 + N % (most : Int) = n := ⟨(1 + N % (most : Int)).toNat, by omega⟩
  have hp : (0 : Int) < (most : Int) := by omega
  have hr : rngOk (n : Int) = true := rngOk_of (by omega) (by omega)
  have er : rgK (.int (n : Int)) = some ((List.range n).map iN) := by rw [rgK_int, hr]; rfl
  have e10 : rng 10 = true := by decide
  have e8 : rng 8 = true := by decide
  let pm : Nat → Nat → Bool := fun at_ i => drawF N (10 * (at_ : Int) + (i : Int)) / 4 % 2 == 1
  let share : Int := 1 + N / 24 % 4
  let pr : Nat × Nat → Bool := fun p => decide (drawF N (30 + 8 * (p.1 : Int) + (p.2 : Int)) / 4 % 5 < share)
  have wd := fun j => run_drawn W.toDraws k N j
  -- the marked
  have c0 : ∀ (at_ : Nat) s5, ∀ s3 s6 s7 s8 s9, compD T.G (T.run (k + 1)) (.nm 5) (.var 5) (.cmp .eq (.bin .mod (.bin .fdiv (.call 12 (.cons (.var 0) (.cons (.bin .add (.bin .mul (.lit (.int 10)) (.var 4)) (.var 5)) (.nil)))) (.lit (.int 4))) (.lit (.int 2))) (.lit (.int 1)))
      [.val (.int N), .val (.int (most : Int)), .val (.int (n : Int)), s3, .val (iN at_), s5, s6, s7, s8, s9] ((List.range n).map iN) = some (((List.range n).filter (pm at_)).map iN) := by
    intro at_ s5 s3 s6 s7 s8 s9
    refine compD_code _ _ iN (pm at_) iN _ fun i hi => ⟨_, rfl, ?_, ?_⟩
    · simp [iN, bop_modP, bop_fdiv_ii, e10, wd, pm]
    · simp
  have c1 : ∀ s3 s5, ∃ s5', loopD T.G (T.run (k + 1)) (.nm 4) b_law_world_f0 [.val (.int N), .val (.int (most : Int)), .val (.int (n : Int)), .own [], s3, s5, .un, .un, .un, .un] [.int 0, .int 1] =
      some (.nx [.val (.int N), .val (.int (most : Int)), .val (.int (n : Int)), .own [.tuple (((List.range n).filter (pm 0)).map iN), .tuple (((List.range n).filter (pm 1)).map iN)], .val (.int 1), s5', .un, .un, .un, .un]) := by
    intro s3 s5
    have a0 := fun s3 => c0 0 .un s3 .un .un .un .un
    have a1 := fun s3 => c0 1 .un s3 .un .un .un .un
    simp only [iN, Int.natCast_zero, Int.natCast_one] at a0 a1
    refine ⟨s5, ?_⟩
    simp [loopD_cons, loopD_nil, b_law_world_f0, er, a0, a1, ownApp]
  have hsh : share = 1 + N / 24 % 4 := rfl
  -- one arrow
  have a1 : ∀ (i : Nat) (L : List (Nat × Nat)) s3 s4 s5 s9, L.length ≤ 900000 → ∀ (js : List Nat), L.length + js.length ≤ 900000 → ∃ s9', loopD T.G (T.run (k + 1)) (.nm 9) b_law_world_f1 [.val (.int N), .val (.int (most : Int)), .val (.int (n : Int)), s3, s4, s5, .own (L.map pr2), .val (.int share), .val (iN i), s9] (js.map iN) =
      some (.nx [.val (.int N), .val (.int (most : Int)), .val (.int (n : Int)), s3, s4, s5, .own ((L ++ (js.map fun j => (i, j)).filter pr).map pr2), .val (.int share), .val (iN i), s9']) := by
    intro i L s3 s4 s5 s9 hL js
    induction js generalizing L s9 with
    | nil => intro _; exact ⟨s9, by simp [loopD_nil]⟩
    | cons j js ih =>
      intro hl
      rw [List.length_cons] at hl
      by_cases hpr : pr (i, j) = true
      · obtain ⟨s9', e⟩ := ih (L ++ [(i, j)]) (.val (iN j)) (by simp; omega) (by simp; omega)
        refine ⟨s9', ?_⟩
        rw [List.map_cons, loopD_cons]
        have hpr' : drawF N (30 + 8 * (i : Int) + (j : Int)) / 4 % 5 < share := by simpa [pr] using hpr
        have ha : ownApp 6 [.val (.int N), .val (.int (most : Int)), .val (.int (n : Int)), s3, s4, s5, .own (L.map pr2), .val (.int share), .val (iN i), .val (iN j)] (pr2 (i, j)) = some (.nx [.val (.int N), .val (.int (most : Int)), .val (.int (n : Int)), s3, s4, s5, .own (L.map pr2 ++ [pr2 (i, j)]), .val (.int share), .val (iN i), .val (iN j)]) :=
          ownApp_own _ rfl (by rw [List.length_map]; omega)
        simp only [pr2, iN] at ha
        have hb : evSs T.G (T.run (k + 1)) b_law_world_f1 [.val (.int N), .val (.int (most : Int)), .val (.int (n : Int)), s3, s4, s5, .own (L.map pr2), .val (.int share), .val (iN i), .val (iN j)] = some (.nx [.val (.int N), .val (.int (most : Int)), .val (.int (n : Int)), s3, s4, s5, .own (L.map pr2 ++ [pr2 (i, j)]), .val (.int share), .val (iN i), .val (iN j)]) := by
          simp [b_law_world_f1, iN, pr2, e8, bop_modP, bop_fdiv_ii, wd, hpr', ha]
        simp only [asg_nm, List.set, Option.bind_some, hb, loopK_nx]
        rw [List.map_append] at e
        simp only [List.map_cons, List.map_nil] at e
        rw [e]
        simp [List.filter_cons, hpr]
      · obtain ⟨s9', e⟩ := ih L (.val (iN j)) hL (by omega)
        refine ⟨s9', ?_⟩
        rw [List.map_cons, loopD_cons]
        have hpr' : ¬ drawF N (30 + 8 * (i : Int) + (j : Int)) / 4 % 5 < share := by simpa [pr] using hpr
        have hb : evSs T.G (T.run (k + 1)) b_law_world_f1 [.val (.int N), .val (.int (most : Int)), .val (.int (n : Int)), s3, s4, s5, .own (L.map pr2), .val (.int share), .val (iN i), .val (iN j)] = some (.nx [.val (.int N), .val (.int (most : Int)), .val (.int (n : Int)), s3, s4, s5, .own (L.map pr2), .val (.int share), .val (iN i), .val (iN j)]) := by
          simp [b_law_world_f1, iN, pr2, e8, bop_modP, bop_fdiv_ii, wd, hpr']
        simp only [asg_nm, List.set, Option.bind_some, hb, loopK_nx]
        rw [e]
        simp [List.filter_cons, hpr]
  have a2 : ∀ s3 s4 s5 s8 s9, ∃ ρ', loopD T.G (T.run (k + 1)) (.nm 8) b_law_world_f2 [.val (.int N), .val (.int (most : Int)), .val (.int (n : Int)), s3, s4, s5, .own [], .val (.int share), s8, s9] ((List.range n).map iN) = some (.nx ρ') ∧
      ∃ s8 s9, ρ' = [.val (.int N), .val (.int (most : Int)), .val (.int (n : Int)), s3, s4, s5, .own ((((List.range n).flatMap fun i => (List.range n).map fun j => (i, j)).filter pr).map pr2), .val (.int share), s8, s9] := by
    intro s3 s4 s5 s8 s9
    refine loopD_inv _ _ iN (fun pre ρ => ∃ s8 s9, ρ = [.val (.int N), .val (.int (most : Int)), .val (.int (n : Int)), s3, s4, s5, .own (((pre.flatMap fun i => (List.range n).map fun j => (i, j)).filter pr).map pr2), .val (.int share), s8, s9]) (List.range n) ?_ _ ⟨s8, s9, rfl⟩
    rintro pre x post ρ hx ⟨s8, s9, rfl⟩
    have hpl : pre.length ≤ n := by have := congrArg List.length hx; simp at this; omega
    have hfl : ((pre.flatMap fun i => (List.range n).map fun j => (i, j)).filter pr).length ≤ pre.length * n := by
      refine Nat.le_trans (List.length_filter_le _ _) ?_
      clear hx hpl
      induction pre with
      | nil => simp
      | cons a r ih => rw [List.flatMap_cons, List.length_append, List.length_map, List.length_range, List.length_cons, Nat.succ_mul]; omega
    have hpn : pre.length * n ≤ 1000 * n := Nat.mul_le_mul_right _ (by omega)
    by_cases hbig : most ≤ 800
    · have hnn : pre.length * n ≤ 800 * 800 := Nat.mul_le_mul (by omega) (by omega)
      obtain ⟨s9', e⟩ := a1 x ((pre.flatMap fun i => (List.range n).map fun j => (i, j)).filter pr) s3 s4 s5 s9 (by omega) (List.range n) (by rw [List.length_range]; omega)
      refine ⟨_, [.val (.int N), .val (.int (most : Int)), .val (.int (n : Int)), s3, s4, s5, .own ((((pre ++ [x]).flatMap fun i => (List.range n).map fun j => (i, j)).filter pr).map pr2), .val (.int share), .val (iN x), s9'], rfl, ?_, .val (iN x), s9', rfl⟩
      have hasg : (([.val (.int N), .val (.int (most : Int)), .val (.int (n : Int)), s3, s4, s5, .own (((pre.flatMap fun i => (List.range n).map fun j => (i, j)).filter pr).map pr2), .val (.int share), s8, s9] : Rho).set 8 (.val (iN x))) = [.val (.int N), .val (.int (most : Int)), .val (.int (n : Int)), s3, s4, s5, .own (((pre.flatMap fun i => (List.range n).map fun j => (i, j)).filter pr).map pr2), .val (.int share), .val (iN x), s9] := rfl
      rw [hasg]
      simp only [b_law_world_f2, evSs_cons, evS_for, frzs_nil, evI_rng1, evE_var, getV_s, getV_0, Option.bind_some, er, e, cont_nx, evSs_nil]
      simp
    · omega
  obtain ⟨s5', c1⟩ := c1 .un .un
  obtain ⟨ρ', d1, s8, s9, rfl⟩ := a2 (.own [.tuple (((List.range n).filter (pm 0)).map iN), .tuple (((List.range n).filter (pm 1)).map iN)]) (.val (.int 1)) s5' .un .un
  refine ⟨⟨n, (List.range n).filter (pm 0), (List.range n).filter (pm 1), ((List.range n).flatMap fun i => (List.range n).map fun j => (i, j)).filter pr⟩, ⟨by show 1 ≤ n; omega, by show n ≤ most; omega, ⟨_, rfl⟩, ⟨_, rfl⟩, ⟨_, rfl⟩⟩, ?_⟩
  rw [run_succ W.world (k + 1) _ rfl]
  simp only [Wld.enc, iN] at d1 c1 ⊢
  have em : bop .mod (.int N) (.int (most : Int)) = some (.int (N % (most : Int))) := bop_modP hp
  have em2 : ∀ a : Int, bop .mod (.int a) (.int 4) = some (.int (a % 4)) := fun a => bop_modP (by decide)
  simp [b_law_world, startR, em, em2, hn, c1, bop_fdiv_ii, ← hsh, er, d1]
end
end Ev

/-! PuD: what holds in a world; law and program. -/
namespace Ev
open PySem
def sel (x y : Nat) : Bool → Nat
  | false => x
  | true => y
def Form.tr (w : Wld) (x y : Nat) : Form → Bool
  | .yes => true
  | .no => false
  | .a v => w.a.contains (sel x y v)
  | .b v => w.b.contains (sel x y v)
  | .to u v => w.r.contains (sel x y u, sel x y v)
  | .not f => !f.tr w x y
  | .both f g => f.tr w x y && g.tr w x y
  | .either f g => f.tr w x y || g.tr w x y
theorem any_iN (x : Nat) (l : List Nat) : ((l.map iN).any fun z => PyData.eqv z (iN x)) = l.contains x := by
  induction l with
  | nil => rfl
  | cons a r ih =>
    rw [List.map_cons, List.any_cons, ih, List.contains_cons]
    congr 1
    simp only [iN, eqv_ii]
    by_cases h : x = a
    · subst h; simp
    · have h1 : (x == a) = false := by simpa using h
      have h2 : ((a : Int) == (x : Int)) = false := by simp; omega
      rw [h1, h2]
theorem any_pr2 (x : Nat × Nat) (l : List (Nat × Nat)) : ((l.map pr2).any fun z => PyData.eqv z (pr2 x)) = l.contains x := by
  induction l with
  | nil => rfl
  | cons a r ih =>
    rw [List.map_cons, List.any_cons, ih, List.contains_cons]
    congr 1
    obtain ⟨x1, x2⟩ := x
    obtain ⟨a1, a2⟩ := a
    simp only [pr2, iN, eqv_tt, eqvAll_cc, eqv_ii, eqvAll_nn]
    by_cases h : x1 = a1 ∧ x2 = a2
    · obtain ⟨rfl, rfl⟩ := h; simp
    · have h1 : (((x1, x2) : Nat × Nat) == (a1, a2)) = false := by simpa using h
      rw [h1]
      simp only [Bool.and_true, Bool.and_eq_false_iff, beq_eq_false_iff_ne, ne_eq, Int.natCast_inj]
      omega
theorem in_iN (x : Nat) (l : List Nat) : copD .isin (iN x) (.tuple (l.map iN)) = some (.bool (l.contains x)) := by
  rw [copD_in_t (inOk_le (by simp [PyData.depth, iN])), any_iN]
theorem in_pr2 (x : Nat × Nat) (l : List (Nat × Nat)) : copD .isin (pr2 x) (.tuple (l.map pr2)) = some (.bool (l.contains x)) := by
  rw [copD_in_t (inOk_le (by simp [pr2, PyData.depth, PyData.depthAll, iN])), any_pr2]
theorem in_pr2' (x y : Nat) (l : List (Nat × Nat)) : copD .isin (.tuple [iN x, iN y]) (.tuple (l.map pr2)) = some (.bool (l.contains (x, y))) := in_pr2 (x, y) l
structure HoldF (T : Tab) : Prop where
  form : Has T 34 4 6 b_form_holds
structure Hold (T : Tab) : Prop extends HoldF T where
  ofall : Has T 35 2 2 b_of_all
  demand : Has T 36 2 8 b_demand_holds
structure LTrue (T : Tab) : Prop where
  tru : Has T 40 4 8 b_law_true
section
variable {T : Tab}
theorem things_eq (m : Nat) (s0 s1 : Sl) (x y : Nat) (vs : List Bool) : compD T.G (T.run m) (.nm 5) (.ix (.tup (.cons (.var 2) (.cons (.var 3) (.nil)))) (.blt .int (.cmp .eq (.var 5) (.lit (.str (Wd.s .y)))))) (.lit (.bool true)) [s0, s1, .val (iN x), .val (iN y), .un, .un] (vs.map fun v => .str (nm v).s) = some (vs.map fun v => iN (sel x y v)) := by
  refine compD_codeM _ _ (fun v => .str (nm v).s) _ vs fun v _ => ⟨_, rfl, by simp, ?_⟩
  cases v <;> simp [nm, sel]
theorem wix (w : Wld) : ixD w.enc (.int 0) = some (iN w.n) ∧ ixD w.enc (.int 1) = some (.tuple (w.a.map iN)) ∧ ixD w.enc (.int 2) = some (.tuple (w.b.map iN)) ∧ ixD w.enc (.int 3) = some (.tuple (w.r.map pr2)) := by
  simp [Wld.enc]
theorem run_fholds_a (W : HoldF T) (w : Wld) (x y : Nat) (v : Bool) (n : Nat) : T.run (n + 1) 34 [(Form.a v).enc, w.enc, iN x, iN y] = some (.bool ((Form.a v).tr w x y)) := by
  have h := things_eq (T := T) n (.val (Form.a v).enc) (.val w.enc) x y [v]
  simp only [List.map_cons, List.map_nil, Form.enc, wS] at h
  rw [run_succ W.form _ _ rfl]
  simp [b_form_holds, startR, Form.enc, wS, isTy, Form.tr, h, in_iN, wix]
theorem run_fholds_b (W : HoldF T) (w : Wld) (x y : Nat) (v : Bool) (n : Nat) : T.run (n + 1) 34 [(Form.b v).enc, w.enc, iN x, iN y] = some (.bool ((Form.b v).tr w x y)) := by
  have h := things_eq (T := T) n (.val (Form.b v).enc) (.val w.enc) x y [v]
  simp only [List.map_cons, List.map_nil, Form.enc, wS] at h
  rw [run_succ W.form _ _ rfl]
  simp [b_form_holds, startR, Form.enc, wS, isTy, Form.tr, h, in_iN, wix]
theorem run_fholds_to (W : HoldF T) (w : Wld) (x y : Nat) (u v : Bool) (n : Nat) : T.run (n + 1) 34 [(Form.to u v).enc, w.enc, iN x, iN y] = some (.bool ((Form.to u v).tr w x y)) := by
  have h := things_eq (T := T) n (.val (Form.to u v).enc) (.val w.enc) x y [u, v]
  simp only [List.map_cons, List.map_nil, Form.enc, wS] at h
  rw [run_succ W.form _ _ rfl]
  simp [b_form_holds, startR, Form.enc, wS, isTy, Form.tr, h, in_pr2', wix]
theorem run_fholds (W : HoldF T) (w : Wld) (x y : Nat) : ∀ (f : Form) (n : Nat), T.run (n + f.deep + 1) 34 [f.enc, w.enc, iN x, iN y] = some (.bool (f.tr w x y)) := by
  intro f
  induction f with
  | yes => intro n; rw [run_succ W.form _ _ rfl]; simp [b_form_holds, startR, Form.enc, wS, isTy, Form.tr]
  | no => intro n; rw [run_succ W.form _ _ rfl]; simp [b_form_holds, startR, Form.enc, wS, isTy, Form.tr]
  | a v => exact fun n => run_fholds_a W w x y v n
  | b v => exact fun n => run_fholds_b W w x y v n
  | to u v => exact fun n => run_fholds_to W w x y u v n
  | not f ih =>
    intro n
    have e := ih n
    rw [run_succ W.form _ _ rfl]
    simp [b_form_holds, startR, Form.enc, wS, isTy, Form.tr, Form.deep, ← Nat.add_assoc, e, compD_cons, compD_nil]
  | both f g ihf ihg =>
    intro n
    have e := ihf (n + (max f.deep g.deep - f.deep))
    have e' := ihg (n + (max f.deep g.deep - g.deep))
    rw [show n + (max f.deep g.deep - f.deep) + f.deep + 1 = n + max f.deep g.deep + 1 by omega] at e
    rw [show n + (max f.deep g.deep - g.deep) + g.deep + 1 = n + max f.deep g.deep + 1 by omega] at e'
    rw [run_succ W.form _ _ rfl]
    cases hf : f.tr w x y <;> rw [hf] at e <;> simp [b_form_holds, startR, Form.enc, wS, isTy, Form.tr, Form.deep, ← Nat.add_assoc, e, e', hf, compD_cons, compD_nil]
  | either f g ihf ihg =>
    intro n
    have e := ihf (n + (max f.deep g.deep - f.deep))
    have e' := ihg (n + (max f.deep g.deep - g.deep))
    rw [show n + (max f.deep g.deep - f.deep) + f.deep + 1 = n + max f.deep g.deep + 1 by omega] at e
    rw [show n + (max f.deep g.deep - g.deep) + g.deep + 1 = n + max f.deep g.deep + 1 by omega] at e'
    rw [run_succ W.form _ _ rfl]
    cases hf : f.tr w x y <;> rw [hf] at e <;> simp [b_form_holds, startR, Form.enc, wS, isTy, Form.tr, Form.deep, ← Nat.add_assoc, e, e', hf, compD_cons, compD_nil]
theorem pick_xy (v : Bool) (x y : Nat) : pickD [Wd.s .x, Wd.s .y] [iN x, iN y] (nm v).s = some (iN (sel x y v)) := by
  cases v <;> simp [nm, sel]
theorem run_ltrue_a (W : LTrue T) (w : Wld) (x y : Nat) (v : Bool) (n : Nat) : T.run (n + 1) 40 [(Form.a v).enc, w.enc, iN x, iN y] = some (.bool ((Form.a v).tr w x y)) := by
  rw [run_succ W.tru _ _ rfl]
  have := pick_xy v x y
  simp [-pickD_cons, b_law_true, startR, Form.enc, wS, isTy, Form.tr, this, in_iN, wix, show pickD [Wd.s .a, Wd.s .b] [PyData.int 1, PyData.int 2] (Wd.s .a) = some (.int 1) by simp]
theorem run_ltrue_b (W : LTrue T) (w : Wld) (x y : Nat) (v : Bool) (n : Nat) : T.run (n + 1) 40 [(Form.b v).enc, w.enc, iN x, iN y] = some (.bool ((Form.b v).tr w x y)) := by
  rw [run_succ W.tru _ _ rfl]
  have := pick_xy v x y
  simp [-pickD_cons, b_law_true, startR, Form.enc, wS, isTy, Form.tr, this, in_iN, wix, show pickD [Wd.s .a, Wd.s .b] [PyData.int 1, PyData.int 2] (Wd.s .b) = some (.int 2) by simp]
theorem run_ltrue_to (W : LTrue T) (w : Wld) (x y : Nat) (u v : Bool) (n : Nat) : T.run (n + 1) 40 [(Form.to u v).enc, w.enc, iN x, iN y] = some (.bool ((Form.to u v).tr w x y)) := by
  rw [run_succ W.tru _ _ rfl]
  have p1 := pick_xy v x y
  have p2 := pick_xy u x y
  simp [-pickD_cons, b_law_true, startR, Form.enc, wS, isTy, Form.tr, p1, p2, in_pr2', wix, compD_cons, compD_nil]
theorem run_ltrue (W : LTrue T) (w : Wld) (x y : Nat) : ∀ (f : Form) (n : Nat), T.run (n + f.deep + 1) 40 [f.enc, w.enc, iN x, iN y] = some (.bool (f.tr w x y)) := by
  intro f
  induction f with
  | yes => intro n; rw [run_succ W.tru _ _ rfl]; simp [b_law_true, startR, Form.enc, wS, isTy, Form.tr]
  | no => intro n; rw [run_succ W.tru _ _ rfl]; simp [b_law_true, startR, Form.enc, wS, isTy, Form.tr]
  | a v => exact fun n => run_ltrue_a W w x y v n
  | b v => exact fun n => run_ltrue_b W w x y v n
  | to u v => exact fun n => run_ltrue_to W w x y u v n
  | not f ih =>
    intro n
    have e := ih n
    rw [run_succ W.tru _ _ rfl]
    simp [b_law_true, startR, Form.enc, wS, isTy, Form.tr, Form.deep, ← Nat.add_assoc, e, compD_cons, compD_nil]
  | both f g ihf ihg =>
    intro n
    have e := ihf (n + (max f.deep g.deep - f.deep))
    have e' := ihg (n + (max f.deep g.deep - g.deep))
    rw [show n + (max f.deep g.deep - f.deep) + f.deep + 1 = n + max f.deep g.deep + 1 by omega] at e
    rw [show n + (max f.deep g.deep - g.deep) + g.deep + 1 = n + max f.deep g.deep + 1 by omega] at e'
    rw [run_succ W.tru _ _ rfl]
    cases hf : f.tr w x y <;> rw [hf] at e <;> simp [b_law_true, startR, Form.enc, wS, isTy, Form.tr, Form.deep, ← Nat.add_assoc, e, e', hf, compD_cons, compD_nil]
  | either f g ihf ihg =>
    intro n
    have e := ihf (n + (max f.deep g.deep - f.deep))
    have e' := ihg (n + (max f.deep g.deep - g.deep))
    rw [show n + (max f.deep g.deep - f.deep) + f.deep + 1 = n + max f.deep g.deep + 1 by omega] at e
    rw [show n + (max f.deep g.deep - g.deep) + g.deep + 1 = n + max f.deep g.deep + 1 by omega] at e'
    rw [run_succ W.tru _ _ rfl]
    cases hf : f.tr w x y <;> rw [hf] at e <;> simp [b_law_true, startR, Form.enc, wS, isTy, Form.tr, Form.deep, ← Nat.add_assoc, e, e', hf, compD_cons, compD_nil]
end
end Ev

/-! PuE: demands and rows in a world. -/
namespace Ev
open PySem
def ofAll (q : Bool) (l : List Bool) : Bool := if q then l.any id else l.all id
def Dem.inner (d : Dem) (w : Wld) (x : Nat) : Bool := ofAll d.other ((List.range w.n).map fun y => d.form.tr w x y)
def Dem.tr (w : Wld) (d : Dem) : Bool := ofAll d.one ((List.range w.n).map fun x => d.inner w x)
def rowTr (w : Wld) (r : List Dem) : Bool := r.all (Dem.tr w)
def Dem.contra (d : Dem) : Dem := ⟨!d.one, !d.other, .not d.form⟩
theorem ofAll_not (q : Bool) (l : List Bool) : ofAll (!q) (l.map (!·)) = !ofAll q l := by
  cases q <;> simp [ofAll, List.not_any_eq_all_not, List.not_all_eq_any_not]
theorem Dem.contra_tr (w : Wld) (d : Dem) : d.contra.tr w = !d.tr w := by
  have h1 : ∀ x, d.contra.inner w x = !d.inner w x := by
    intro x
    unfold Dem.inner
    rw [← ofAll_not, List.map_map]
    rfl
  unfold Dem.tr
  rw [← ofAll_not, List.map_map]
  congr 1
  exact List.map_congr_left fun x _ => h1 x
theorem in_bools (bs : List Bool) (s : Bool) : ((bs.map PyData.bool).any fun z => PyData.eqv z (.bool s)) = bs.contains s := by
  induction bs with
  | nil => rfl
  | cons a r ih =>
    rw [List.map_cons, List.any_cons, ih, List.contains_cons]
    congr 1
    cases a <;> cases s <;> simp [PyData.eqv]
theorem cont_t (bs : List Bool) : bs.contains true = bs.any id := by
  induction bs with
  | nil => rfl
  | cons a r ih => rw [List.contains_cons, List.any_cons, ih]; cases a <;> rfl
theorem cont_f (bs : List Bool) : (!bs.contains false) = bs.all id := by
  induction bs with
  | nil => rfl
  | cons a r ih => rw [List.contains_cons, List.all_cons, ← ih]; cases a <;> rfl
theorem in_bools_l (bs : List Bool) (s : Bool) : copD .isin (.bool s) (.list (bs.map .bool)) = some (.bool (bs.contains s)) := by rw [in_bool_l, in_bools]
theorem notin_bools_l (bs : List Bool) (s : Bool) : copD .notin (.bool s) (.list (bs.map .bool)) = some (.bool (!bs.contains s)) := by rw [notin_bool_l, in_bools]
/-- [True in l, not False in l][int(each)] -/
theorem ofAll_ix (q : Bool) (bs : List Bool) : L2.atI [PyData.bool (bs.contains true), .bool (!bs.contains false)] (if qw q = Wd.each then 1 else 0) = some (.bool (ofAll q bs)) := by
  rw [cont_t, cont_f]
  cases q <;> simp [ofAll]
section
variable {T : Tab}
theorem run_ofall (W : Hold T) (n : Nat) (q : Bool) (bs : List Bool) : T.run (n + 1) 35 [wS (qw q), .list (bs.map .bool)] = some (.bool (ofAll q bs)) := by
  rw [run_succ W.ofall _ _ rfl]
  cases q <;> simp [b_of_all, startR, wS, blt_all_map, blt_any_map, ofAll]
theorem erange (w : Wld) (hw : w.n ≤ 1000000) : rgK (iN w.n) = some ((List.range w.n).map iN) := by
  have h : rngOk (w.n : Int) = true := rngOk_of (by omega) (by omega)
  show rgK (.int (w.n : Int)) = _
  rw [rgK_int, if_pos h, rgD_iN]
theorem run_dholds (W : Hold T) (w : Wld) (hw : w.n ≤ 900000) (d : Dem) (n : Nat) : T.run (n + d.form.deep + 2) 36 [d.enc, w.enc] = some (.bool (d.tr w)) := by
  have er := erange w (by omega)
  have hloop : ∀ s6 s7, ∃ ρ', loopD T.G (T.run (n + d.form.deep + 1)) (.nm 6) b_demand_holds_f0 [.val d.enc, .val w.enc, .val (wS (qw d.one)), .val (wS (qw d.other)), .val d.form.enc, .own [], s6, s7] ((List.range w.n).map iN) = some (.nx ρ') ∧
      ∃ s6 s7, ρ' = [.val d.enc, .val w.enc, .val (wS (qw d.one)), .val (wS (qw d.other)), .val d.form.enc, .own ((List.range w.n).map fun x => .bool (d.inner w x)), s6, s7] := by
    intro s6 s7
    refine loopD_inv _ _ iN (fun pre ρ => ∃ s6 s7, ρ = [.val d.enc, .val w.enc, .val (wS (qw d.one)), .val (wS (qw d.other)), .val d.form.enc, .own (pre.map fun x => .bool (d.inner w x)), s6, s7]) (List.range w.n) ?_ _ ⟨s6, s7, rfl⟩
    rintro pre x post ρ hx ⟨s6, s7, rfl⟩
    have hpl : pre.length ≤ w.n := by have := congrArg List.length hx; simp at this; omega
    have hc : compD T.G (T.run (n + d.form.deep + 1)) (.nm 7) (.call 34 (.cons (.var 4) (.cons (.var 1) (.cons (.var 6) (.cons (.var 7) (.nil)))))) (.lit (.bool true)) [.val d.enc, .val w.enc, .val (wS (qw d.one)), .val (wS (qw d.other)), .val d.form.enc, .own (pre.map fun x => .bool (d.inner w x)), .val (iN x), .un] ((List.range w.n).map iN)
        = some (((List.range w.n).map fun y => d.form.tr w x y).map .bool) := by
      rw [List.map_map]
      refine compD_codeM _ _ iN _ _ fun y _ => ⟨_, rfl, by simp, ?_⟩
      simp [run_fholds W.toHoldF w x y d.form n]
    have ho := run_ofall W (n + d.form.deep) d.other ((List.range w.n).map fun y => d.form.tr w x y)
    have ha := ownApp_own (i := 5) (ρ := [.val d.enc, .val w.enc, .val (wS (qw d.one)), .val (wS (qw d.other)), .val d.form.enc, .own (pre.map fun x => .bool (d.inner w x)), .val (iN x), s7]) (.bool (d.inner w x)) rfl (by rw [List.length_map]; omega)
    refine ⟨_, _, rfl, ?_, .val (iN x), s7, rfl⟩
    have hset : (([.val d.enc, .val w.enc, .val (wS (qw d.one)), .val (wS (qw d.other)), .val d.form.enc, .own (pre.map fun x => .bool (d.inner w x)), s6, s7] : Rho).set 6 (.val (iN x))) = [.val d.enc, .val w.enc, .val (wS (qw d.one)), .val (wS (qw d.other)), .val d.form.enc, .own (pre.map fun x => .bool (d.inner w x)), .val (iN x), s7] := rfl
    rw [hset]
    simp only [Dem.inner] at ha hc ho ⊢
    simp [-List.map_map, b_demand_holds_f0, wix, er, hc, ho, ha]
  obtain ⟨ρ', hl, s6, s7, rfl⟩ := hloop .un .un
  have ho := run_ofall W (n + d.form.deep) d.one ((List.range w.n).map fun x => d.inner w x)
  rw [List.map_map] at ho
  have ho : T.run (n + d.form.deep + 1) 35 [wS (qw d.one), .list ((List.range w.n).map fun x => .bool (d.inner w x))] = some (.bool (d.tr w)) := ho
  rw [run_succ W.demand (n + d.form.deep + 1) _ rfl]
  simp only [Dem.enc] at hl ⊢
  simp [b_demand_holds, startR, wix, er, hl, ho]
structure LMeets (T : Tab) : Prop extends LTrue T where
  meets : Has T 41 2 6 b_law_meets
theorem run_meets (W : LMeets T) (w : Wld) (hw : w.n ≤ 900000) (d : Dem) (n : Nat) : T.run (n + d.form.deep + 2) 41 [d.enc, w.enc] = some (.bool (d.tr w)) := by
  have er := erange w (by omega)
  have hloop : ∀ s3 s4 s5, ∃ ρ', loopD T.G (T.run (n + d.form.deep + 1)) (.nm 3) b_law_meets_f0 [.val d.enc, .val w.enc, .own [], s3, s4, s5] ((List.range w.n).map iN) = some (.nx ρ') ∧
      ∃ s3 s4 s5, ρ' = [.val d.enc, .val w.enc, .own (((List.range w.n).map fun x => d.inner w x).map .bool), s3, s4, s5] := by
    intro s3 s4 s5
    refine loopD_inv _ _ iN (fun pre ρ => ∃ s3 s4 s5, ρ = [.val d.enc, .val w.enc, .own ((pre.map fun x => d.inner w x).map .bool), s3, s4, s5]) (List.range w.n) ?_ _ ⟨s3, s4, s5, rfl⟩
    rintro pre x post ρ hx ⟨s3, s4, s5, rfl⟩
    have hpl : pre.length ≤ w.n := by have := congrArg List.length hx; simp at this; omega
    have hc : compD T.G (T.run (n + d.form.deep + 1)) (.nm 5) (.call 40 (.cons (.ix (.var 0) (.lit (.int 2))) (.cons (.var 1) (.cons (.var 3) (.cons (.var 5) (.nil)))))) (.lit (.bool true)) [.val d.enc, .val w.enc, .own ((pre.map fun x => d.inner w x).map .bool), .val (iN x), s4, .un] ((List.range w.n).map iN)
        = some (((List.range w.n).map fun y => d.form.tr w x y).map .bool) := by
      rw [show ((List.range w.n).map fun y => d.form.tr w x y).map PyData.bool = (List.range w.n).map fun y => .bool (d.form.tr w x y) by rw [List.map_map]; rfl]
      refine compD_codeM _ _ iN (fun y => .bool (d.form.tr w x y)) _ fun y _ => ⟨[.val d.enc, .val w.enc, .own ((pre.map fun x => d.inner w x).map .bool), .val (iN x), s4, .val (iN y)], rfl, ?_, ?_⟩
      · simp
      · simp [Dem.enc, run_ltrue W.toLTrue w x y d.form n]
    let bs := (List.range w.n).map fun y => d.form.tr w x y
    have ho := ofAll_ix d.other bs
    have i1 := in_bools_l bs true
    have i2 := in_bools_l bs false
    have ha := ownApp_own (i := 2) (ρ := [.val d.enc, .val w.enc, .own ((pre.map fun x => d.inner w x).map .bool), .val (iN x), .val (.list (bs.map .bool)), s5]) (.bool (d.inner w x)) rfl (by rw [List.length_map, List.length_map]; omega)
    refine ⟨_, [.val d.enc, .val w.enc, .own (((pre ++ [x]).map fun x => d.inner w x).map .bool), .val (iN x), .val (.list (bs.map .bool)), s5], rfl, ?_, .val (iN x), .val (.list (bs.map .bool)), s5, rfl⟩
    have hset : (([.val d.enc, .val w.enc, .own ((pre.map fun x => d.inner w x).map .bool), s3, s4, s5] : Rho).set 3 (.val (iN x))) = [.val d.enc, .val w.enc, .own ((pre.map fun x => d.inner w x).map .bool), .val (iN x), s4, s5] := rfl
    rw [hset]
    rw [show d.inner w x = ofAll d.other bs from rfl] at ha
    have hx2 : (((pre ++ [x]).map fun x => d.inner w x).map PyData.bool) = ((pre.map fun x => d.inner w x).map PyData.bool) ++ [.bool (ofAll d.other bs)] := by simp [bs, Dem.inner]
    rw [hx2]
    have hc : compD T.G (T.run (n + d.form.deep + 1)) (.nm 5) (.call 40 (.cons (.ix (.var 0) (.lit (.int 2))) (.cons (.var 1) (.cons (.var 3) (.cons (.var 5) (.nil)))))) (.lit (.bool true)) [.val d.enc, .val w.enc, .own ((pre.map fun x => d.inner w x).map .bool), .val (iN x), s4, .un] ((List.range w.n).map iN) = some (bs.map .bool) := hc
    generalize bs.map PyData.bool = zs at *
    generalize (pre.map fun x => d.inner w x).map PyData.bool = ys at *
    simp only [Dem.enc, wS] at hc ha ⊢
    simp [-in_bool_l, -List.contains_eq_mem, b_law_meets_f0, wix, er, hc, i1, i2, ha, ho]
  obtain ⟨ρ', hl, s3, s4, s5, rfl⟩ := hloop .un .un .un
  let bs := (List.range w.n).map fun x => d.inner w x
  have ho := ofAll_ix d.one bs
  have i1 := in_bools_l bs true
  have i2 := in_bools_l bs false
  have hl : loopD T.G (T.run (n + d.form.deep + 1)) (.nm 3) b_law_meets_f0 [.val d.enc, .val w.enc, .own [], .un, .un, .un] ((List.range w.n).map iN) = some (.nx [.val d.enc, .val w.enc, .own (bs.map .bool), s3, s4, s5]) := hl
  rw [run_succ W.meets (n + d.form.deep + 1) _ rfl, show d.tr w = ofAll d.one bs from rfl]
  generalize bs.map PyData.bool = zs at *
  simp only [Dem.enc, wS] at hl ⊢
  simp [-in_bool_l, -List.contains_eq_mem, b_law_meets, startR, wix, er, hl, i1, i2, ho]
end
end Ev

/-! PuF: rows in a world, the first failing, the contrary. -/
namespace Ev
open PySem
structure HoldR (T : Tab) : Prop extends Hold T where
  holds : Has T 37 2 3 b_holds
  failing : Has T 38 2 4 b_failing
structure Contr (T : Tab) : Prop where
  contrary : Has T 39 1 2 b_contrary
section
variable {T : Tab}
theorem run_contrary (W : Contr T) (n : Nat) (d : Dem) : T.run (n + 1) 39 [d.enc] = some d.contra.enc := by
  rw [run_succ W.contrary _ _ rfl]
  cases d with | mk a b f => cases a <;> cases b <;> simp [b_contrary, startR, Dem.enc, Dem.contra, Form.enc, wS]
theorem dholds_at (W : Hold T) {K : Nat} (w : Wld) (hw : w.n ≤ 900000) (d : Dem) (hd : d.form.deep ≤ K) (n : Nat) : T.run (n + K + 2) 36 [d.enc, w.enc] = some (.bool (d.tr w)) := by
  have := run_dholds W w hw d (n + (K - d.form.deep))
  rwa [show n + (K - d.form.deep) + d.form.deep + 2 = n + K + 2 by omega] at this
theorem meets_at (W : LMeets T) {K : Nat} (w : Wld) (hw : w.n ≤ 900000) (d : Dem) (hd : d.form.deep ≤ K) (n : Nat) : T.run (n + K + 2) 41 [d.enc, w.enc] = some (.bool (d.tr w)) := by
  have := run_meets W w hw d (n + (K - d.form.deep))
  rwa [show n + (K - d.form.deep) + d.form.deep + 2 = n + K + 2 by omega] at this
theorem fholds_at (W : HoldF T) {K : Nat} (w : Wld) (x y : Nat) (f : Form) (hd : f.deep ≤ K) (n : Nat) : T.run (n + K + 1) 34 [f.enc, w.enc, iN x, iN y] = some (.bool (f.tr w x y)) := by
  have := run_fholds W w x y f (n + (K - f.deep))
  rwa [show n + (K - f.deep) + f.deep + 1 = n + K + 1 by omega] at this
theorem ltrue_at (W : LTrue T) {K : Nat} (w : Wld) (x y : Nat) (f : Form) (hd : f.deep ≤ K) (n : Nat) : T.run (n + K + 1) 40 [f.enc, w.enc, iN x, iN y] = some (.bool (f.tr w x y)) := by
  have := run_ltrue W w x y f (n + (K - f.deep))
  rwa [show n + (K - f.deep) + f.deep + 1 = n + K + 1 by omega] at this
theorem run_holdsH (W : Hold T) (Wh : Has T 37 2 3 b_holds) {K : Nat} (w : Wld) (hw : w.n ≤ 900000) (r : List Dem) (hr : ∀ d ∈ r, d.form.deep ≤ K) (n : Nat) : T.run (n + K + 3) 37 [encR r, w.enc] = some (.bool (rowTr w r)) := by
  have hc : compD T.G (T.run (n + K + 2)) (.nm 2) (.call 36 (.cons (.var 2) (.cons (.var 1) (.nil)))) (.lit (.bool true)) [.val (encR r), .val w.enc, .un] (r.map Dem.enc) = some ((r.map (Dem.tr w)).map .bool) := by
    rw [List.map_map]
    refine compD_codeM _ _ Dem.enc (fun d => .bool (d.tr w)) _ fun d hd => ⟨_, rfl, ?_, ?_⟩
    · simp
    · simp [dholds_at W w hw d (hr d hd) n]
  have ha := blt_all_map (r.map (Dem.tr w))
  rw [run_succ Wh (n + K + 2) _ rfl]
  simp only [encR] at hc ⊢
  generalize r.map Dem.enc = es at *
  simp [-List.map_map, b_holds, startR, hc, ha, rowTr]
theorem run_holds (W : HoldR T) {K : Nat} (w : Wld) (hw : w.n ≤ 900000) (r : List Dem) (hr : ∀ d ∈ r, d.form.deep ≤ K) (n : Nat) : T.run (n + K + 3) 37 [encR r, w.enc] = some (.bool (rowTr w r)) :=
  run_holdsH W.toHold W.holds w hw r hr n
theorem enumD_range : ∀ (l : List PyData) (k : Nat), enumD k l = (List.range l.length).map fun i => .tuple [.int ((k + i : Nat) : Int), l.getD i .none]
  | [], _ => rfl
  | d :: l, k => by
    rw [enumD, enumD_range l (k + 1), List.length_cons, List.range_succ_eq_map, List.map_cons, List.map_map]
    congr 1
    apply List.map_congr_left
    intro i _
    simp [Nat.add_assoc, Nat.add_comm 1 i]
def mkD0 : Dem := ⟨false, false, .yes⟩
theorem enum_row (r : List Dem) : enumD 0 (r.map Dem.enc) = (List.range r.length).map fun i => .tuple [iN i, (r.getD i mkD0).enc] := by
  rw [enumD_range, List.length_map]
  apply List.map_congr_left
  intro i hi
  have hi : i < r.length := by simpa using hi
  simp [List.getD, List.getElem?_eq_getElem hi, iN]
/-- the number of the first that fails -/
def failN (w : Wld) (r : List Dem) : Option Nat := (List.range r.length).find? fun i => !(r.getD i mkD0).tr w
def optN : Option Nat → PyData
  | some i => iN i
  | none => .none
theorem getD_mem {r : List Dem} {i : Nat} (h : i < r.length) : r.getD i mkD0 ∈ r := by
  simp [List.getD, List.getElem?_eq_getElem h]
theorem run_failing (W : HoldR T) {K : Nat} (w : Wld) (hw : w.n ≤ 900000) (r : List Dem) (hr : ∀ d ∈ r, d.form.deep ≤ K) (n : Nat) : T.run (n + K + 3) 38 [encR r, w.enc] = some (optN (failN w r)) := by
  have hl := loopD_find T.G (T.run (n + K + 2)) (tg := .tp [2, 3]) (b := b_failing_f0) (fun i => .tuple [iN i, (r.getD i mkD0).enc]) (fun i => !(r.getD i mkD0).tr w) iN (fun ρ => ∃ s2 s3, ρ = [.val (encR r), .val w.enc, s2, s3]) (List.range r.length) (by
    rintro i ρ hi ⟨s2, s3, rfl⟩
    have hi : i < r.length := by simpa using hi
    have e := dholds_at W.toHold w hw (r.getD i mkD0) (hr _ (getD_mem hi)) n
    refine ⟨[.val (encR r), .val w.enc, .val (iN i), .val (r.getD i mkD0).enc], rfl, ?_⟩
    generalize r.getD i mkD0 = d at *
    cases ht : d.tr w
    · rw [ht] at e
      exact .inl ⟨rfl, by simp [b_failing_f0, e]⟩
    · rw [ht] at e
      exact .inr ⟨rfl, [.val (encR r), .val w.enc, .val (iN i), .val d.enc], by simp [b_failing_f0, e], _, _, rfl⟩)
    [.val (encR r), .val w.enc, .un, .un] ⟨_, _, rfl⟩
  rw [← enum_row] at hl
  rw [run_succ W.failing (n + K + 2) _ rfl]
  unfold failN
  rcases hl with ⟨i, h1, h2⟩ | ⟨h1, ρ', h2, s2, s3, rfl⟩
  · rw [h1]
    simp only [encR] at h2 ⊢
    simp [b_failing, startR, h2, optN]
  · rw [h1]
    simp only [encR] at h2 ⊢
    simp [b_failing, startR, h2, optN]
end
end Ev

/-! PuG: all parts, all worlds of a size; sorted lists of worlds. -/
namespace Ev
open PySem
section
variable {α : Type}
def partsL (xs : List α) : List (List α) := xs.foldl (fun acc t => acc ++ acc.map (· ++ [t])) [[]]
theorem partsL_snoc (pre : List α) (x : α) : partsL (pre ++ [x]) = partsL pre ++ (partsL pre).map (· ++ [x]) := by
  simp [partsL, List.foldl_append]
theorem partsL_len : ∀ (xs pre : List α), (partsL (pre ++ xs)).length = (partsL pre).length * 2 ^ xs.length
  | [], pre => by simp
  | x :: xs, pre => by
    have := partsL_len xs (pre ++ [x])
    rw [show pre ++ x :: xs = pre ++ [x] ++ xs by simp, this, partsL_snoc, List.length_append, List.length_map, List.length_cons, Nat.pow_succ]
    rw [← Nat.mul_two, Nat.mul_assoc, Nat.mul_comm 2]
theorem partsL_length (xs : List α) : (partsL xs).length = 2 ^ xs.length := by
  have := partsL_len xs []
  simpa [partsL] using this
theorem partsL_mem : ∀ (n : Nat) (xs : List α), xs.length = n → ∀ p ∈ partsL xs, p.length ≤ xs.length ∧ ∀ a ∈ p, a ∈ xs
  | 0, xs, h, p, hp => by
    have : xs = [] := List.eq_nil_of_length_eq_zero h
    subst this
    simp [partsL] at hp
    subst hp
    simp
  | n + 1, xs, h, p, hp => by
    obtain ⟨pre, x, rfl⟩ : ∃ pre x, xs = pre ++ [x] := by
      have hne : xs ≠ [] := fun e => by rw [e] at h; cases h
      exact ⟨xs.dropLast, xs.getLast hne, (List.dropLast_concat_getLast hne).symm⟩
    have hl : pre.length = n := by simpa using h
    rw [partsL_snoc, List.mem_append, List.mem_map] at hp
    rcases hp with hp | ⟨q, hq, rfl⟩
    · obtain ⟨h1, h2⟩ := partsL_mem n pre hl p hp
      exact ⟨by simp; omega, fun a ha => by simp [h2 a ha]⟩
    · obtain ⟨h1, h2⟩ := partsL_mem n pre hl q hq
      refine ⟨by simp; omega, fun a ha => ?_⟩
      rcases List.mem_append.mp ha with h3 | h3
      · simp [h2 a h3]
      · rw [List.mem_singleton] at h3; simp [h3]
end
section
variable {T : Tab}
/-- the program's and the law's way to go through all parts have one text -/
theorem run_partsF {α : Type} {fid : Nat} {f0 b : QSs} (hb : Has T fid 1 4 b)
    (h1 : b = .cons (.set [] 1 (.lst (.cons (.tup (.nil)) (.nil)))) (.cons (.for [] (.nm 2) (.seq (.var 0)) f0) (.cons (.ret [] (.var 1)) (.nil))))
    (h0 : f0 = .cons (.set [] 1 (.bin .add (.var 1) (.lc [3] (.bin .add (.var 3) (.tup (.cons (.var 2) (.nil)))) (.nm 3) (.seq (.var 1)) (.lit (.bool true))))) (.nil))
    (g : α → PyData) (xs : List α) (hx : xs.length ≤ 12) (n : Nat) : T.run (n + 1) fid [.list (xs.map g)] = some (.list ((partsL xs).map fun p => .tuple (p.map g))) := by
  obtain ⟨ρ', hl, s2, s3, rfl⟩ := loopD_inv T.G (T.run n) (tg := .nm 2) (b := f0) g (fun pre ρ => ∃ s2 s3, ρ = [.val (.list (xs.map g)), .val (.list ((partsL pre).map fun p => .tuple (p.map g))), s2, s3]) xs (by
    rintro pre x post ρ hxs ⟨s2, s3, rfl⟩
    have hpl : pre.length ≤ 12 := by have := congrArg List.length hxs; simp at this; omega
    have hc : compD T.G (T.run n) (.nm 3) (.bin .add (.var 3) (.tup (.cons (.var 2) (.nil)))) (.lit (.bool true)) [.val (.list (xs.map g)), .val (.list ((partsL pre).map fun p => .tuple (p.map g))), .val (g x), .un] ((partsL pre).map fun p => .tuple (p.map g)) = some (((partsL pre).map (· ++ [x])).map fun p => .tuple (p.map g)) := by
      rw [show ((partsL pre).map (· ++ [x])).map (fun p => PyData.tuple (p.map g)) = (partsL pre).map fun p => .tuple ((p ++ [x]).map g) by rw [List.map_map]; rfl]
      refine compD_codeM _ _ (fun p : List α => .tuple (p.map g)) (fun p => .tuple ((p ++ [x]).map g)) _ fun p hp => ⟨_, rfl, ?_, ?_⟩
      · simp
      · have := (partsL_mem _ pre rfl p hp).1
        have hk : catOk p.length 1 = true := catOk_of (by omega)
        simp [hk]
    have hlen : (partsL pre).length ≤ 4096 := by
      rw [partsL_length]
      exact Nat.pow_le_pow_right (by decide) hpl
    have hk : catOk (partsL pre).length (partsL pre).length = true := catOk_of (by omega)
    refine ⟨_, [.val (.list (xs.map g)), .val (.list ((partsL (pre ++ [x])).map fun p => .tuple (p.map g))), .val (g x), s3], rfl, ?_, _, _, rfl⟩
    have hset : (([.val (.list (xs.map g)), .val (.list ((partsL pre).map fun p => .tuple (p.map g))), s2, s3] : Rho).set 2 (.val (g x))) = [.val (.list (xs.map g)), .val (.list ((partsL pre).map fun p => .tuple (p.map g))), .val (g x), s3] := rfl
    have hk2 : catOk ((partsL pre).map fun p => PyData.tuple (p.map g)).length (((partsL pre).map (· ++ [x])).map fun p => PyData.tuple (p.map g)).length = true := by simp only [List.length_map]; exact hk
    rw [hset, h0, partsL_snoc, List.map_append]
    generalize (partsL pre).map (fun p => PyData.tuple (p.map g)) = A at *
    generalize ((partsL pre).map (· ++ [x])).map (fun p => PyData.tuple (p.map g)) = B at *
    simp [hc, hk2])
    [.val (.list (xs.map g)), .val (.list [.tuple []]), .un, .un] ⟨.un, .un, by simp [partsL]⟩
  rw [run_succ hb n _ rfl, h1]
  generalize (partsL xs).map (fun p => PyData.tuple (p.map g)) = A at *
  generalize xs.map g = B at *
  simp [startR, hl]
def pairsN (n : Nat) : List (Nat × Nat) := (List.range n).flatMap fun i => (List.range n).map fun j => (i, j)
def worldsN (n : Nat) : List Wld := (partsL (List.range n)).flatMap fun a => (partsL (List.range n)).flatMap fun b => (partsL (pairsN n)).map fun r => ⟨n, a, b, r⟩
structure AllW (T : Tab) : Prop where
  parts : Has T 43 1 4 b_all_parts
  worlds : Has T 44 1 9 b_all_worlds
theorem run_parts (W : AllW T) {α : Type} (g : α → PyData) (xs : List α) (hx : xs.length ≤ 12) (n : Nat) : T.run (n + 1) 43 [.list (xs.map g)] = some (.list ((partsL xs).map fun p => .tuple (p.map g))) :=
  run_partsF W.parts rfl rfl g xs hx n
end
end Ev

/-! PuH: all worlds of a size, the worlds of a row. -/
namespace Ev
open PySem
theorem flat_len {α β : Type} {k : Nat} (f : α → List β) (h : ∀ a, (f a).length = k) : ∀ l : List α, (l.flatMap f).length = l.length * k
  | [] => by simp
  | a :: r => by rw [List.flatMap_cons, List.length_append, h a, flat_len f h r, List.length_cons, Nat.succ_mul]; omega
def tN (p : List Nat) : PyData := .tuple (p.map iN)
def tP (p : List (Nat × Nat)) : PyData := .tuple (p.map pr2)
theorem pairsN_len (n : Nat) : (pairsN n).length = n * n := by
  unfold pairsN
  rw [flat_len (k := n) _ (fun i => by simp), List.length_range]
section
variable {T : Tab}
def wOf (n : Nat) (a b : List Nat) (rs : List (List (Nat × Nat))) : List Wld := rs.map fun r => ⟨n, a, b, r⟩
theorem run_allworlds (W : AllW T) (n : Nat) (hn : n ≤ 2) (k : Nat) : T.run (k + 2) 44 [iN n] = some (.list ((worldsN n).map Wld.enc)) := by
  have hr : rngOk (n : Int) = true := rngOk_of (by omega) (by omega)
  have er : rgK (iN n) = some ((List.range n).map iN) := by
    show rgK (.int (n : Int)) = _
    rw [rgK_int, if_pos hr, rgD_iN]
  have e1 : T.run (k + 1) 43 [.list ((List.range n).map iN)] = some (.list ((partsL (List.range n)).map tN)) := run_parts W iN (List.range n) (by simp; omega) k
  have hpl : (pairsN n).length ≤ 4 := by rw [pairsN_len]; exact Nat.mul_le_mul hn hn
  have e2 : T.run (k + 1) 43 [.list ((pairsN n).map pr2)] = some (.list ((partsL (pairsN n)).map tP)) := run_parts W pr2 (pairsN n) (by omega) k
  have l1 : (partsL (List.range n)).length ≤ 4 := by rw [partsL_length, List.length_range]; exact Nat.pow_le_pow_right (n := 2) (by decide) hn
  have l2 : (partsL (pairsN n)).length ≤ 16 := by rw [partsL_length]; exact Nat.pow_le_pow_right (n := 2) (by decide) hpl
  -- the pairs
  have a1 : ∀ s5 s6 s7 s8, ∃ ρ', loopD T.G (T.run (k + 1)) (.nm 3) b_all_worlds_f0 [.val (iN n), .val (.list ((List.range n).map iN)), .own [], .un, .un, s5, s6, s7, s8] ((List.range n).map iN) = some (.nx ρ') ∧
      ∃ s3 s4, ρ' = [.val (iN n), .val (.list ((List.range n).map iN)), .own ((pairsN n).map pr2), s3, s4, s5, s6, s7, s8] := by
    intro s5 s6 s7 s8
    refine loopD_inv _ _ iN (fun pre ρ => ∃ s3 s4, ρ = [.val (iN n), .val (.list ((List.range n).map iN)), .own ((pre.flatMap fun i => (List.range n).map fun j => (i, j)).map pr2), s3, s4, s5, s6, s7, s8]) (List.range n) ?_ _ ⟨_, _, rfl⟩
    rintro pre x post ρ hx ⟨s3, s4, rfl⟩
    have hp : pre.length ≤ 2 := by have := congrArg List.length hx; simp at this; omega
    generalize hA : pre.flatMap (fun i => (List.range n).map fun j => (i, j)) = A
    have hAl : A.length ≤ 4 := by
      rw [← hA, flat_len (k := n) _ (fun i => by simp)]
      exact Nat.mul_le_mul hp hn
    have hc : compD T.G (T.run (k + 1)) (.nm 4) (.tup (.cons (.var 3) (.cons (.var 4) (.nil)))) (.lit (.bool true)) [.val (iN n), .val (.list ((List.range n).map iN)), .own (A.map pr2), .val (iN x), .un, s5, s6, s7, s8] ((List.range n).map iN) = some (((List.range n).map fun j => (x, j)).map pr2) := by
      rw [show ((List.range n).map fun j => (x, j)).map pr2 = (List.range n).map fun j => pr2 (x, j) by rw [List.map_map]; rfl]
      refine compD_codeM _ _ iN (fun j => pr2 (x, j)) _ fun j _ => ⟨_, rfl, ?_, ?_⟩
      · simp
      · simp [pr2]
    have ha := ownExt_own (i := 2) (ρ := [.val (iN n), .val (.list ((List.range n).map iN)), .own (A.map pr2), .val (iN x), s4, s5, s6, s7, s8]) (ds := A.map pr2) (((List.range n).map fun j => (x, j)).map pr2) rfl (by simp; omega)
    refine ⟨_, [.val (iN n), .val (.list ((List.range n).map iN)), .own ((A ++ (List.range n).map fun j => (x, j)).map pr2), .val (iN x), s4, s5, s6, s7, s8], rfl, ?_, .val (iN x), s4, ?_⟩
    · have hset : (([.val (iN n), .val (.list ((List.range n).map iN)), .own (A.map pr2), s3, s4, s5, s6, s7, s8] : Rho).set 3 (.val (iN x))) = [.val (iN n), .val (.list ((List.range n).map iN)), .own (A.map pr2), .val (iN x), s4, s5, s6, s7, s8] := rfl
      rw [hset, List.map_append]
      generalize ((List.range n).map fun j => (x, j)).map pr2 = B at *
      generalize A.map pr2 = C at *
      generalize (List.range n).map iN = D at *
      simp [b_all_worlds_f0, hc, ha]
    · rw [List.flatMap_append, hA]
      simp
  generalize hPP : (pairsN n).map pr2 = PP at *
  generalize hRR : (List.range n).map iN = RR at *
  -- one first, one second
  have b1 : ∀ (a : List Nat) (L : List Wld) s2 s3 s4 s7 s8, L.length ≤ 10000 → (s2 = .own PP ∨ s2 = .val (.list PP)) → ∃ ρ', loopD T.G (T.run (k + 1)) (.nm 7) b_all_worlds_f1 [.val (iN n), .val (.list RR), s2, s3, s4, .own (L.map Wld.enc), .val (tN a), s7, s8] ((partsL (List.range n)).map tN) = some (.nx ρ') ∧
      ∃ s2 s7 s8, (s2 = .own PP ∨ s2 = .val (.list PP)) ∧ ρ' = [.val (iN n), .val (.list RR), s2, s3, s4, .own ((L ++ (partsL (List.range n)).flatMap fun b => wOf n a b (partsL (pairsN n))).map Wld.enc), .val (tN a), s7, s8] := by
    intro a L s2 s3 s4 s7 s8 hL h2
    refine loopD_inv _ _ tN (fun pre ρ => ∃ s2 s7 s8, (s2 = .own PP ∨ s2 = .val (.list PP)) ∧ ρ = [.val (iN n), .val (.list RR), s2, s3, s4, .own ((L ++ pre.flatMap fun b => wOf n a b (partsL (pairsN n))).map Wld.enc), .val (tN a), s7, s8]) (partsL (List.range n)) ?_ [.val (iN n), .val (.list RR), s2, s3, s4, .own (L.map Wld.enc), .val (tN a), s7, s8] ⟨s2, s7, s8, h2, by simp⟩
    rintro pre b post ρ hx ⟨s2, s7, s8, h2, rfl⟩
    have hp : pre.length ≤ 4 := by have := congrArg List.length hx; simp at this; omega
    generalize hA : L ++ pre.flatMap (fun b => wOf n a b (partsL (pairsN n))) = A
    have hAl : A.length ≤ 10000 + 4 * 16 := by
      rw [← hA, List.length_append, flat_len (k := (partsL (pairsN n)).length) _ (fun b => by simp [wOf])]
      have := Nat.mul_le_mul hp l2
      omega
    have hc : compD T.G (T.run (k + 1)) (.nm 8) (.tup (.cons (.var 0) (.cons (.var 6) (.cons (.var 7) (.cons (.var 8) (.nil)))))) (.lit (.bool true)) [.val (iN n), .val (.list RR), .val (.list PP), s3, s4, .own (A.map Wld.enc), .val (tN a), .val (tN b), .un] ((partsL (pairsN n)).map tP) = some ((wOf n a b (partsL (pairsN n))).map Wld.enc) := by
      rw [show (wOf n a b (partsL (pairsN n))).map Wld.enc = (partsL (pairsN n)).map fun r => Wld.enc ⟨n, a, b, r⟩ by rw [wOf, List.map_map]; rfl]
      refine compD_codeM _ _ tP (fun r => Wld.enc ⟨n, a, b, r⟩) _ fun r _ => ⟨_, rfl, ?_, ?_⟩
      · simp
      · simp [Wld.enc, tN, tP]
    have ha := ownExt_own (i := 5) (ρ := [.val (iN n), .val (.list RR), .val (.list PP), s3, s4, .own (A.map Wld.enc), .val (tN a), .val (tN b), s8]) (ds := A.map Wld.enc) ((wOf n a b (partsL (pairsN n))).map Wld.enc) rfl (by simp [wOf]; omega)
    refine ⟨_, [.val (iN n), .val (.list RR), .val (.list PP), s3, s4, .own ((A ++ wOf n a b (partsL (pairsN n))).map Wld.enc), .val (tN a), .val (tN b), s8], rfl, ?_, .val (.list PP), .val (tN b), s8, .inr rfl, ?_⟩
    · have hset : (([.val (iN n), .val (.list RR), s2, s3, s4, .own (A.map Wld.enc), .val (tN a), s7, s8] : Rho).set 7 (.val (tN b))) = [.val (iN n), .val (.list RR), s2, s3, s4, .own (A.map Wld.enc), .val (tN a), .val (tN b), s8] := rfl
      rw [hset, List.map_append]
      generalize (wOf n a b (partsL (pairsN n))).map Wld.enc = B at *
      generalize A.map Wld.enc = C at *
      generalize (partsL (pairsN n)).map tP = D at *
      rcases h2 with rfl | rfl <;> simp [b_all_worlds_f1, e2, hc, ha]
    · rw [List.flatMap_append, ← List.append_assoc, hA]
      simp
  have b2 : ∀ s3 s4 s6 s7 s8, ∃ ρ', loopD T.G (T.run (k + 1)) (.nm 6) b_all_worlds_f2 [.val (iN n), .val (.list RR), .own PP, s3, s4, .own [], s6, s7, s8] ((partsL (List.range n)).map tN) = some (.nx ρ') ∧
      ∃ s2 s6 s7 s8, (s2 = .own PP ∨ s2 = .val (.list PP)) ∧ ρ' = [.val (iN n), .val (.list RR), s2, s3, s4, .own ((worldsN n).map Wld.enc), s6, s7, s8] := by
    intro s3 s4 s6 s7 s8
    refine loopD_inv _ _ tN (fun pre ρ => ∃ s2 s6 s7 s8, (s2 = .own PP ∨ s2 = .val (.list PP)) ∧ ρ = [.val (iN n), .val (.list RR), s2, s3, s4, .own ((pre.flatMap fun a => (partsL (List.range n)).flatMap fun b => wOf n a b (partsL (pairsN n))).map Wld.enc), s6, s7, s8]) (partsL (List.range n)) ?_ _ ⟨_, s6, s7, s8, .inl rfl, rfl⟩
    rintro pre a post ρ hx ⟨s2, s6, s7, s8, h2, rfl⟩
    have hp : pre.length ≤ 4 := by have := congrArg List.length hx; simp at this; omega
    generalize hA : pre.flatMap (fun a => (partsL (List.range n)).flatMap fun b => wOf n a b (partsL (pairsN n))) = A
    have hAl : A.length ≤ 10000 := by
      rw [← hA, flat_len (k := (partsL (List.range n)).length * (partsL (pairsN n)).length) _ (fun a => flat_len (k := (partsL (pairsN n)).length) _ (fun b => by simp [wOf]) _)]
      have h3 := Nat.mul_le_mul l1 l2
      have := Nat.mul_le_mul hp h3
      omega
    obtain ⟨ρ', e, s2', s7', s8', h2', rfl⟩ := b1 a A s2 s3 s4 s7 s8 hAl h2
    refine ⟨_, _, rfl, ?_, s2', .val (tN a), s7', s8', h2', rfl⟩
    have hset : (([.val (iN n), .val (.list RR), s2, s3, s4, .own (A.map Wld.enc), s6, s7, s8] : Rho).set 6 (.val (tN a))) = [.val (iN n), .val (.list RR), s2, s3, s4, .own (A.map Wld.enc), .val (tN a), s7, s8] := rfl
    rw [hset, List.flatMap_append, hA]
    simp only [List.flatMap_cons, List.flatMap_nil, List.append_nil]
    generalize (A ++ (partsL (List.range n)).flatMap fun b => wOf n a b (partsL (pairsN n))).map Wld.enc = B at *
    generalize A.map Wld.enc = C at *
    generalize (partsL (List.range n)).map tN = D at *
    simp [b_all_worlds_f2, e1, e]
  obtain ⟨ρ1, c1, s3, s4, rfl⟩ := a1 .un .un .un .un
  obtain ⟨ρ2, c2, s2, s6, s7, s8, h2, rfl⟩ := b2 s3 s4 .un .un .un
  rw [run_succ W.worlds (k + 1) _ rfl]
  generalize (worldsN n).map Wld.enc = B at *
  generalize (partsL (List.range n)).map tN = D at *
  rcases h2 with rfl | rfl <;> simp [b_all_worlds, startR, er, c1, e1, c2]
end
end Ev

/-! PuI: the worlds of a row, sorted. -/
namespace Ev
open PySem
theorem alike_iN : ∀ a b : List Nat, PySem.W.alikeAll (a.map iN) (b.map iN) = true
  | [], _ => by simp [PySem.W.alikeAll]
  | _ :: _, [] => by simp [PySem.W.alikeAll]
  | x :: a, y :: b => by
    rw [List.map_cons, List.map_cons, PySem.W.alikeAll, alike_iN a b]
    simp [iN, PySem.W.alike]
theorem alike_pr2 (x y : Nat × Nat) : PySem.W.alike (pr2 x) (pr2 y) = true := by
  simp [pr2, iN, PySem.W.alike, PySem.W.alikeAll]
theorem alike_pr2s : ∀ a b : List (Nat × Nat), PySem.W.alikeAll (a.map pr2) (b.map pr2) = true
  | [], _ => by simp [PySem.W.alikeAll]
  | _ :: _, [] => by simp [PySem.W.alikeAll]
  | x :: a, y :: b => by
    rw [List.map_cons, List.map_cons, PySem.W.alikeAll, alike_pr2s a b, alike_pr2]
    rfl
theorem alike_wld (u v : Wld) : PySem.W.alike u.enc v.enc = true := by
  simp [Wld.enc, PySem.W.alike, PySem.W.alikeAll, iN]
  exact ⟨alike_iN _ _, alike_iN _ _, alike_pr2s _ _⟩
theorem depth_iN (a : List Nat) : PyData.depthAll (a.map iN) ≤ 0 := depthAll_le fun d hd => by
  obtain ⟨x, _, rfl⟩ := List.mem_map.mp hd
  simp [iN, PyData.depth]
theorem depth_pr2 (x : Nat × Nat) : (pr2 x).depth ≤ 1 := by simp [pr2, iN, PyData.depth, PyData.depthAll]
theorem depth_pr2s (a : List (Nat × Nat)) : PyData.depthAll (a.map pr2) ≤ 1 := depthAll_le fun d hd => by
  obtain ⟨x, _, rfl⟩ := List.mem_map.mp hd
  exact depth_pr2 x
theorem depth_wld (u : Wld) : u.enc.depth ≤ 4 := by
  have h1 := depth_iN u.a
  have h2 := depth_iN u.b
  have h3 := depth_pr2s u.r
  simp only [Wld.enc, PyData.depth, PyData.depthAll, iN]
  omega
theorem sortOk_worlds (ws : List Wld) : sortOk (ws.map Wld.enc) = true := by
  simp only [sortOk, Bool.and_eq_true, Bool.or_eq_true, List.all_eq_true, decide_eq_true_eq, List.mem_map]
  refine ⟨⟨?_, .inl ?_⟩, ?_⟩
  · rintro _ ⟨u, _, rfl⟩ _ ⟨v, _, rfl⟩
    exact alike_wld u v
  · rintro _ ⟨u, _, rfl⟩
    rfl
  · rintro _ ⟨u, _, rfl⟩
    have := depth_wld u; omega
theorem eqvAll_refl : ∀ {l : List PyData}, (∀ d ∈ l, PyData.eqv d d = true) → PyData.eqvAll l l = true
  | [], _ => by simp
  | d :: l, h => by
    rw [eqvAll_cc, h d (by simp), eqvAll_refl fun e he => h e (List.mem_cons_of_mem _ he)]
    rfl
theorem iN_refl (a : List Nat) : PyData.eqvAll (a.map iN) (a.map iN) = true := eqvAll_refl fun d hd => by
  obtain ⟨x, _, rfl⟩ := List.mem_map.mp hd
  simp [iN]
theorem pr2_refl (a : List (Nat × Nat)) : PyData.eqvAll (a.map pr2) (a.map pr2) = true := eqvAll_refl fun d hd => by
  obtain ⟨x, _, rfl⟩ := List.mem_map.mp hd
  simp [pr2, iN, eqv_tt]
theorem wld_refl (w : Wld) : PyData.eqv w.enc w.enc = true := by
  simp [Wld.enc, eqv_tt, iN_refl, pr2_refl]
  simp [iN]
theorem mem_sortD {ds : List PyData} {d : PyData} (h : d ∈ sortD ds) : d ∈ ds := by
  unfold sortD at h
  exact List.mem_mergeSort.mp h
theorem eq_sorted (ws : List Wld) : copD .eq (.tuple (sortD (ws.map Wld.enc))) (.tuple (sortD (ws.map Wld.enc))) = some (.bool true) := by
  have h : ∀ d ∈ sortD (ws.map Wld.enc), ∃ w, d = Wld.enc w := fun d hd => by
    obtain ⟨w, _, rfl⟩ := List.mem_map.mp (mem_sortD hd)
    exact ⟨w, rfl⟩
  rw [copD_eq (eqOk_le (.inl ?_)), eqv_tt, eqvAll_refl]
  · intro d hd
    obtain ⟨w, rfl⟩ := h d hd
    exact wld_refl w
  · simp only [PyData.depth]
    have := depthAll_le (n := 4) (l := sortD (ws.map Wld.enc)) fun d hd => by
      obtain ⟨w, rfl⟩ := h d hd
      exact depth_wld w
    omega
theorem worldsN_n {n : Nat} {w : Wld} (h : w ∈ worldsN n) : w.n = n := by
  simp only [worldsN, List.mem_flatMap, List.mem_map] at h
  obtain ⟨a, _, b, _, r, _, rfl⟩ := h
  rfl
structure WOf (T : Tab) : Prop extends AllW T where
  hold : Hold T
  holds : Has T 37 2 3 b_holds
  wof : Has T 45 2 3 b_worlds_of
structure LHold (T : Tab) : Prop extends LMeets T where
  lholds : Has T 42 2 3 b_law_holds
section
variable {T : Tab}
theorem run_wof (W : WOf T) {K : Nat} (r : List Dem) (hr : ∀ d ∈ r, d.form.deep ≤ K) (n : Nat) (hn : n ≤ 2) (m : Nat) : T.run (m + K + 4) 45 [encR r, iN n] = some (.tuple (sortD (((worldsN n).filter fun w => rowTr w r).map Wld.enc))) := by
  have e1 : T.run (m + K + 3) 44 [iN n] = _ := run_allworlds W.toAllW n hn (m + K + 1)
  have hc : compD T.G (T.run (m + K + 3)) (.nm 2) (.var 2) (.call 37 (.cons (.var 0) (.cons (.var 2) (.nil)))) [.val (encR r), .val (iN n), .un] ((worldsN n).map Wld.enc) = some (((worldsN n).filter fun w => rowTr w r).map Wld.enc) := by
    refine compD_code _ _ Wld.enc (fun w => rowTr w r) Wld.enc _ fun w hw => ⟨_, rfl, ?_, ?_⟩
    · have hwn := worldsN_n hw
      simp [run_holdsH W.hold W.holds (K := K) w (by omega) r hr m]
    · intro _; simp
  have hs := blt_sorted_l (sortOk_worlds ((worldsN n).filter fun w => rowTr w r))
  rw [run_succ W.wof (m + K + 3) _ rfl]
  generalize ((worldsN n).filter fun w => rowTr w r).map Wld.enc = B at *
  generalize (worldsN n).map Wld.enc = D at *
  generalize encR r = R at *
  simp [b_worlds_of, startR, e1, hc, hs]
theorem run_lholds (W : LHold T) {K : Nat} (w : Wld) (hw : w.n ≤ 900000) (r : List Dem) (hr : ∀ d ∈ r, d.form.deep ≤ K) (n : Nat) : T.run (n + K + 3) 42 [encR r, w.enc] = some (.bool (rowTr w r)) := by
  have hc : compD T.G (T.run (n + K + 2)) (.nm 2) (.var 2) (.not (.call 41 (.cons (.var 2) (.cons (.var 1) (.nil))))) [.val (.tuple (r.map Dem.enc)), .val w.enc, .un] (r.map Dem.enc) = some ((r.filter fun d => !d.tr w).map Dem.enc) := by
    refine compD_code _ _ Dem.enc (fun d => !d.tr w) Dem.enc _ fun d hd => ⟨_, rfl, ?_, ?_⟩
    · simp [meets_at W.toLMeets (K := K) w hw d (hr d hd) n]
    · intro _; simp
  have hq : PyData.eqv (.list ((r.filter fun d => !d.tr w).map Dem.enc)) (.list []) = rowTr w r := by
    rw [eqv_ll]
    induction r with
    | nil => rfl
    | cons d r ih =>
      have ih := ih (fun e he => hr e (List.mem_cons_of_mem _ he))
      cases h : d.tr w
      · simp [List.filter_cons, h, rowTr]
      · simp only [rowTr, List.all_cons, h, Bool.true_and]
        rw [List.filter_cons_of_neg (by simp [h])]
        exact ih (by
          refine compD_code _ _ Dem.enc (fun d => !d.tr w) Dem.enc _ fun d hd => ⟨_, rfl, ?_, ?_⟩
          · simp [meets_at W.toLMeets (K := K) w hw d (hr d (List.mem_cons_of_mem _ hd)) n]
          · intro _; simp)
  rw [run_succ W.lholds (n + K + 2) _ rfl]
  simp only [encR]
  generalize (r.filter fun d => !d.tr w).map Dem.enc = B at *
  generalize r.map Dem.enc = D at *
  simp [b_law_holds, startR, hc, hq]
theorem run_lsome {T : Tab} (h : Has T 46 1 4 b_law_some) {α : Type} (g : α → PyData) (xs : List α) (hx : xs.length ≤ 12) (n : Nat) : T.run (n + 1) 46 [.list (xs.map g)] = some (.list ((partsL xs).map fun p => .tuple (p.map g))) :=
  run_partsF h rfl rfl g xs hx n
end
end Ev

/-! PuJ: marks, worlds of two. -/
namespace Ev
open PySem
def marksN (r : List Dem) : List Nat := (List.range r.length).filter fun i => (r.getD i mkD0).mark
theorem range_filter_map {α : Type} (d0 : α) (p : α → Bool) : ∀ l : List α, ((List.range l.length).filter fun i => p (l.getD i d0)).map (fun i => l.getD i d0) = l.filter p
  | [] => rfl
  | a :: l => by
    have ih := range_filter_map d0 p l
    rw [List.length_cons, List.range_succ_eq_map, List.filter_cons, List.filter_map]
    have e : ((fun i => p ((a :: l).getD i d0)) ∘ Nat.succ) = fun i => p (l.getD i d0) := by funext i; simp
    rw [e]
    cases h : p a
    · simp only [List.getD_cons_zero, h, Bool.false_eq_true, if_false, List.map_map]
      rw [List.filter_cons_of_neg (by simp [h]), ← ih]
      rfl
    · simp only [List.getD_cons_zero, h, if_true, List.map_cons, List.map_map]
      rw [List.filter_cons_of_pos h, ← ih]
      rfl
theorem marksN_dems (r : List Dem) : (marksN r).map (fun i => r.getD i mkD0) = r.filter Dem.mark := range_filter_map mkD0 Dem.mark r
theorem marksN_len (r : List Dem) : (marksN r).length = (r.filter Dem.mark).length := by rw [← marksN_dems, List.length_map]
theorem marksN_lt {r : List Dem} {i : Nat} (h : i ∈ marksN r) : i < r.length := by
  have := (List.mem_filter.mp h).1
  simpa using this
/-- a kind: 0 or 1 at each place -/
def kd (K : List Nat) (i : Nat) : Nat := K.getD i 0
structure IsKind (K : List Nat) : Prop where
  len : 3 ≤ K.length
def arrowsOf (A B : List Nat) (l : Nat × Nat) : List (Nat × Nat) :=
  (([0, 1].filter fun k => kd (if k = 0 then A else B) 2 == 1).map fun k => (k, k)) ++ (if l.1 = 1 then [(0, 1)] else []) ++ (if l.2 = 1 then [(1, 0)] else [])
def leP (p q : Nat × Nat) : Bool := PySem.W.dataLe false id (pr2 p) (pr2 q)
def pairW (A B : List Nat) (l : Nat × Nat) : Wld := ⟨2, [0, 1].filter fun k => kd (if k = 0 then A else B) 0 == 1, [0, 1].filter fun k => kd (if k = 0 then A else B) 1 == 1, (arrowsOf A B l).mergeSort leP⟩
theorem sortD_pr2 (L : List (Nat × Nat)) : sortD (L.map pr2) = (L.mergeSort leP).map pr2 := by
  unfold sortD
  rw [List.map_mergeSort]
  intro a _ b _
  rfl
theorem sortOk_pr2 (L : List (Nat × Nat)) : sortOk (L.map pr2) = true := by
  simp only [sortOk, Bool.and_eq_true, Bool.or_eq_true, List.all_eq_true, decide_eq_true_eq, List.mem_map]
  refine ⟨⟨?_, .inl ?_⟩, ?_⟩
  · rintro _ ⟨u, _, rfl⟩ _ ⟨v, _, rfl⟩
    simp [pr2, iN, PySem.W.alike, PySem.W.alikeAll]
  · rintro _ ⟨u, _, rfl⟩
    rfl
  · rintro _ ⟨u, _, rfl⟩
    simp [pr2, iN, PyData.depth, PyData.depthAll]
structure Kds (T : Tab) : Prop where
  marks : Has T 5 1 3 b_marks_of
  two : Has T 55 3 8 b_world_of_two
structure LKds (T : Tab) : Prop where
  two : Has T 63 3 8 b_law_pair_world
section
variable {T : Tab}
theorem run_marks (h : Has T 5 1 3 b_marks_of) (n : Nat) (r : List Dem) : T.run (n + 1) 5 [encR r] = some (.list ((marksN r).map iN)) := by
  have hc : compD T.G (T.run n) (.tp [1, 2]) (.var 1) (.cmp .eq (.slc (.var 2) (.omit) (.lit (.int 2))) (.tup (.cons (.lit (.str (Wd.s .some))) (.cons (.lit (.str (Wd.s .each))) (.nil))))) [.val (.tuple (r.map Dem.enc)), .un, .un] (enumD 0 (r.map Dem.enc)) = some ((marksN r).map iN) := by
    rw [enum_row]
    refine compD_code _ _ (fun i => .tuple [iN i, (r.getD i mkD0).enc]) (fun i => (r.getD i mkD0).mark) iN _ fun i hi => ⟨_, rfl, ?_, ?_⟩
    · have h := Dem.enc_head (r.getD i mkD0)
      generalize r.getD i mkD0 = d at *
      simp only [wS] at h
      simp [Dem.enc, copD_se, wS, h]
    · intro _; simp
  rw [run_succ h n _ rfl]
  simp only [encR]
  generalize r.map Dem.enc = D at *
  simp [b_marks_of, startR, hc]
def tK (K : List Nat) : PyData := .tuple (K.map iN)
theorem atI_kd {K : List Nat} (hK : 3 ≤ K.length) {i : Nat} (hi : i < 3) : L2.atI (K.map iN) ((i : Nat) : Int) = some (iN (kd K i)) := by
  have h : i < K.length := by omega
  exact L2.atI_nat (by simp [kd, List.getD, List.getElem?_eq_getElem h])
theorem ix_kd {A B : List Nat} (hA : 3 ≤ A.length) (hB : 3 ≤ B.length) {k i : Nat} (hk : k ∈ [0, 1]) (hi : i < 3) : ap2 ixD (ixD (.tuple [tK A, tK B]) (iN k)) (some (iN i)) = some (iN (kd (if k = 0 then A else B) i)) := by
  have h1 := atI_kd hA hi
  have h2 := atI_kd hB hi
  have : k = 0 ∨ k = 1 := by simpa using hk
  rcases this with rfl | rfl
  · simp [tK, iN]; exact h1
  · simp [tK, iN]; exact h2
/-- the part that both have in common -/
theorem two_comp {A B : List Nat} (hA : 3 ≤ A.length) (hB : 3 ≤ B.length) (n : Nat) (s0 s1 s2 s5 : Sl) :
    compD T.G (T.run n) (.nm 6) (.blt .tuple (.lc [7] (.var 7) (.nm 7) (.seq (.tup (.cons (.lit (.int 0)) (.cons (.lit (.int 1)) (.nil))))) (.cmp .eq (.ix (.ix (.var 3) (.var 7)) (.var 6)) (.lit (.int 1))))) (.lit (.bool true)) [s0, s1, s2, .val (.tuple [tK A, tK B]), .un, s5, .un, .un] [.int 0, .int 1]
      = some [tK (pairW A B (0, 0)).a, tK (pairW A B (0, 0)).b] := by
  have inner : ∀ i, i < 3 → compD T.G (T.run n) (.nm 7) (.var 7) (.cmp .eq (.ix (.ix (.var 3) (.var 7)) (.var 6)) (.lit (.int 1))) [s0, s1, s2, .val (.tuple [tK A, tK B]), .un, s5, .val (iN i), .un] ([0, 1].map iN) = some (([0, 1].filter fun k => kd (if k = 0 then A else B) i == 1).map iN) := by
    intro i hi
    refine compD_code _ _ iN (fun k => kd (if k = 0 then A else B) i == 1) iN _ fun k hk => ⟨_, rfl, ?_, ?_⟩
    · have h := ix_kd hA hB hk hi
      simp only [evE_cmp, evE_ix, evE_var, evE_lit, List.set, getV_s, getV_0, bor_s, bor_ix, bor_lit, bor_0v, ap2_some, h]
      have h2 : ∀ m : Nat, ((m : Int) == 1) = (m == 1) := fun m => by
        by_cases e : m = 1
        · subst e; rfl
        · have h1 : (m == 1) = false := by simpa using e
          rw [h1]; simp; omega
      simp [iN, h2]
    · intro _; simp
  refine compD_codeM _ _ iN (fun i => tK ([0, 1].filter fun k => kd (if k = 0 then A else B) i == 1)) [0, 1] fun i hi => ⟨[s0, s1, s2, .val (.tuple [tK A, tK B]), .un, s5, .val (iN i), .un], rfl, ?_, ?_⟩
  · simp
  · have h := inner i (by simp at hi; omega)
    have hm : ([0, 1].map iN) = [PyData.int 0, .int 1] := rfl
    rw [hm] at h
    generalize [0, 1].filter (fun k => kd (if k = 0 then A else B) i == 1) = F at *
    generalize PyData.tuple [tK A, tK B] = AB at *
    simp [h, tK]
theorem arrows_comp {A B : List Nat} (hA : 3 ≤ A.length) (hB : 3 ≤ B.length) (n : Nat) (s0 s1 s2 s4 s5 s6 : Sl) :
    compD T.G (T.run n) (.nm 7) (.tup (.cons (.var 7) (.cons (.var 7) (.nil)))) (.cmp .eq (.ix (.ix (.var 3) (.var 7)) (.lit (.int 2))) (.lit (.int 1))) [s0, s1, s2, .val (.tuple [tK A, tK B]), s4, s5, s6, .un] [.int 0, .int 1]
      = some ((([0, 1].filter fun k => kd (if k = 0 then A else B) 2 == 1).map fun k => (k, k)).map pr2) := by
  rw [show ((([0, 1].filter fun k => kd (if k = 0 then A else B) 2 == 1).map fun k => (k, k)).map pr2) = ([0, 1].filter fun k => kd (if k = 0 then A else B) 2 == 1).map fun k => pr2 (k, k) by rw [List.map_map]; rfl]
  refine compD_code _ _ iN (fun k => kd (if k = 0 then A else B) 2 == 1) (fun k => pr2 (k, k)) [0, 1] fun k hk => ⟨[s0, s1, s2, .val (.tuple [tK A, tK B]), s4, s5, s6, .val (iN k)], rfl, ?_, ?_⟩
  · have h := ix_kd hA hB hk (i := 2) (by decide)
    simp only [iN, show ((2 : Nat) : Int) = 2 from rfl] at h
    have h2 : ∀ m : Nat, ((m : Int) == 1) = (m == 1) := fun m => by
      by_cases e : m = 1
      · subst e; rfl
      · have h1 : (m == 1) = false := by simpa using e
        rw [h1]; simp; omega
    generalize PyData.tuple [tK A, tK B] = AB at *
    simp only [evE_cmp, evE_ix, evE_var, evE_lit, getV_s, getV_0, bor_s, bor_ix, bor_lit, bor_0v, ap2_some, iN, h]
    simp [h2]
  · intro _; simp [pr2]
/-- a link of four -/
def IsLink (l : Nat × Nat) : Prop := l.1 ≤ 1 ∧ l.2 ≤ 1
theorem run_two (W : Kds T) {A B : List Nat} (hA : 3 ≤ A.length) (hB : 3 ≤ B.length) {l : Nat × Nat} (hl : IsLink l) (n : Nat) : T.run (n + 1) 55 [tK A, tK B, pr2 l] = some (pairW A B l).enc := by
  have c1 := two_comp (T := T) hA hB n (.val (tK A)) (.val (tK B)) (.val (pr2 l)) .un
  have c2 := fun s4 => arrows_comp (T := T) hA hB n (.val (tK A)) (.val (tK B)) (.val (pr2 l)) s4 .un .un
  have hs := blt_sorted_l (sortOk_pr2 (arrowsOf A B l))
  rw [sortD_pr2] at hs
  have hw : (pairW A B l).enc = .tuple [iN 2, tK (pairW A B (0, 0)).a, tK (pairW A B (0, 0)).b, .tuple (((arrowsOf A B l).mergeSort leP).map pr2)] := rfl
  rw [hw, run_succ W.two n _ rfl]
  obtain ⟨x, y⟩ := l
  have h3 : (([0, 1].filter fun k => kd (if k = 0 then A else B) 2 == 1).map fun k => (k, k)).length ≤ 2 := by
    rw [List.length_map]
    exact List.length_filter_le (fun k => kd (if k = 0 then A else B) 2 == 1) [0, 1]
  have ha : (arrowsOf A B (x, y)).map pr2 = ((([0, 1].filter fun k => kd (if k = 0 then A else B) 2 == 1).map fun k => (k, k)).map pr2) ++ (if x = 1 then [pr2 (0, 1)] else []) ++ (if y = 1 then [pr2 (1, 0)] else []) := by
    unfold arrowsOf
    rw [List.map_append, List.map_append]
    congr 1
    · congr 1
      split <;> rfl
    · split <;> rfl
  rw [ha] at hs
  generalize hC : (([0, 1].filter fun k => kd (if k = 0 then A else B) 2 == 1).map fun k => (k, k)) = C at *
  have hCl : (C.map pr2).length ≤ 2 := by rw [List.length_map]; exact h3
  generalize C.map pr2 = D at *
  generalize ((arrowsOf A B (x, y)).mergeSort leP).map pr2 = S at *
  generalize (pairW A B (0, 0)).a = wa at *
  generalize (pairW A B (0, 0)).b = wb at *
  generalize tK A = ta at *
  generalize tK B = tb at *
  have hx : x = 0 ∨ x = 1 := by have : x ≤ 1 := hl.1; omega
  have hy : y = 0 ∨ y = 1 := by have : y ≤ 1 := hl.2; omega
  have d1 : D.length < 1000000 := by omega
  have d2 : D.length + 1 < 1000000 := by omega
  have p1 : pr2 (0, 1) = .tuple [.int 0, .int 1] := rfl
  have p2 : pr2 (1, 0) = .tuple [.int 1, .int 0] := rfl
  have p3 : ∀ a b : Nat, pr2 (a, b) = .tuple [.int (a : Int), .int (b : Int)] := fun _ _ => rfl
  simp only [p3] at c1 c2 hs ⊢
  rcases hx with rfl | rfl <;> rcases hy with rfl | rfl <;> simp at c1 c2 hs <;> simp [b_world_of_two, startR, c1, c2, hs, ownApp, d1, d2, iN]
theorem mul_l0 (d : PyData) : bop .mul (.list [d]) (.int 0) = some (.list []) := by
  show (if decide (-(2 ^ 63) ≤ (0 : Int)) && decide ((0 : Int) < 2 ^ 63) && decide ([d].length * (0 : Int).toNat ≤ sizeLine) then some (PyData.list (List.replicate (0 : Int).toNat [d]).flatten) else none) = _
  rw [if_pos (by rw [sizeLine_eq]; simp)]
  rfl
theorem mul_l1 (d : PyData) : bop .mul (.list [d]) (.int 1) = some (.list [d]) := by
  show (if decide (-(2 ^ 63) ≤ (1 : Int)) && decide ((1 : Int) < 2 ^ 63) && decide ([d].length * (1 : Int).toNat ≤ sizeLine) then some (PyData.list (List.replicate (1 : Int).toNat [d]).flatten) else none) = _
  rw [if_pos (by rw [sizeLine_eq]; simp)]
  rfl
theorem run_ltwo (W : LKds T) {A B : List Nat} (hA : 3 ≤ A.length) (hB : 3 ≤ B.length) {l : Nat × Nat} (hl : IsLink l) (n : Nat) : T.run (n + 1) 63 [tK A, tK B, pr2 l] = some (pairW A B l).enc := by
  have c1 := two_comp (T := T) hA hB n (.val (tK A)) (.val (tK B)) (.val (pr2 l)) .un
  have c2 := fun s4 => arrows_comp (T := T) hA hB n (.val (tK A)) (.val (tK B)) (.val (pr2 l)) s4 .un .un
  have hs := blt_sorted_l (sortOk_pr2 (arrowsOf A B l))
  rw [sortD_pr2] at hs
  have hw : (pairW A B l).enc = .tuple [iN 2, tK (pairW A B (0, 0)).a, tK (pairW A B (0, 0)).b, .tuple (((arrowsOf A B l).mergeSort leP).map pr2)] := rfl
  rw [hw, run_succ W.two n _ rfl]
  obtain ⟨x, y⟩ := l
  have h3 : (([0, 1].filter fun k => kd (if k = 0 then A else B) 2 == 1).map fun k => (k, k)).length ≤ 2 := by
    rw [List.length_map]
    exact List.length_filter_le (fun k => kd (if k = 0 then A else B) 2 == 1) [0, 1]
  have ha : (arrowsOf A B (x, y)).map pr2 = ((([0, 1].filter fun k => kd (if k = 0 then A else B) 2 == 1).map fun k => (k, k)).map pr2) ++ (if x = 1 then [pr2 (0, 1)] else []) ++ (if y = 1 then [pr2 (1, 0)] else []) := by
    unfold arrowsOf
    rw [List.map_append, List.map_append]
    congr 1
    · congr 1
      split <;> rfl
    · split <;> rfl
  rw [ha] at hs
  generalize hC : (([0, 1].filter fun k => kd (if k = 0 then A else B) 2 == 1).map fun k => (k, k)) = C at *
  have hCl : (C.map pr2).length ≤ 2 := by rw [List.length_map]; exact h3
  generalize C.map pr2 = D at *
  generalize ((arrowsOf A B (x, y)).mergeSort leP).map pr2 = S at *
  generalize (pairW A B (0, 0)).a = wa at *
  generalize (pairW A B (0, 0)).b = wb at *
  generalize tK A = ta at *
  generalize tK B = tb at *
  have hx : x = 0 ∨ x = 1 := by have : x ≤ 1 := hl.1; omega
  have hy : y = 0 ∨ y = 1 := by have : y ≤ 1 := hl.2; omega
  have d0 : catOk D.length 0 = true := catOk_of (by omega)
  have d1 : catOk D.length 1 = true := catOk_of (by omega)
  have d2 : catOk (D.length + 1) 1 = true := catOk_of (by omega)
  have d3 : catOk (D.length + 1) 0 = true := catOk_of (by omega)
  have p3 : ∀ a b : Nat, pr2 (a, b) = .tuple [.int (a : Int), .int (b : Int)] := fun _ _ => rfl
  simp only [p3] at c1 c2 hs ⊢
  rcases hx with rfl | rfl <;> rcases hy with rfl | rfl <;> simp at c1 c2 hs <;> simp [b_law_pair_world, startR, c1, c2, hs, d0, d1, d2, d3, mul_l0, mul_l1, iN]
end
end Ev

/-! PuX: worlds changed. -/
namespace Ev
open PySem
def sh (m : Nat) (p : Nat × Nat) : Nat × Nat := (p.1 + m, p.2 + m)
def four (n : Nat) (p : Nat × Nat) : List (Nat × Nat) := [(p.1, p.2), (p.1 + n, p.2), (p.1, p.2 + n), (p.1 + n, p.2 + n)]
def besideW (u v : Wld) : Wld := ⟨u.n + v.n, u.a ++ v.a.map (· + u.n), u.b ++ v.b.map (· + u.n), (u.r ++ v.r.map (sh u.n)).mergeSort leP⟩
def doubledW (w : Wld) : Wld := ⟨2 * w.n, w.a ++ w.a.map (· + w.n), w.b ++ w.b.map (· + w.n), (w.r.flatMap (four w.n)).mergeSort leP⟩
def turnedW (w : Wld) : Wld := ⟨w.n, w.a, w.b, (w.r.map Prod.swap).mergeSort leP⟩
def swappedW (w : Wld) : Wld := ⟨w.n, w.b, w.a, w.r⟩
def leN (a b : Nat) : Bool := PySem.W.dataLe false id (iN a) (iN b)
def nmP (l : List Nat) (p : Nat × Nat) : Nat × Nat := (l.getD p.1 0, l.getD p.2 0)
def shuffledW (w : Wld) (l : List Nat) : Wld := ⟨w.n, (w.a.map fun k => l.getD k 0).mergeSort leN, (w.b.map fun k => l.getD k 0).mergeSort leN, (w.r.map (nmP l)).mergeSort leP⟩
theorem sortD_iN (L : List Nat) : sortD (L.map iN) = (L.mergeSort leN).map iN := by
  unfold sortD
  rw [List.map_mergeSort]
  intro a _ b _
  rfl
theorem sortOk_iN (L : List Nat) : sortOk (L.map iN) = true := by
  simp only [sortOk, Bool.and_eq_true, Bool.or_eq_true, List.all_eq_true, decide_eq_true_eq, List.mem_map]
  refine ⟨⟨?_, .inr ?_⟩, ?_⟩
  · rintro _ ⟨u, _, rfl⟩ _ ⟨v, _, rfl⟩
    rfl
  · rintro _ ⟨u, _, rfl⟩
    rfl
  · rintro _ ⟨u, _, rfl⟩
    simp [iN, PyData.depth]
theorem srt_pr2 (L : List (Nat × Nat)) : blt .sorted (.list (L.map pr2)) = some (.list ((L.mergeSort leP).map pr2)) := by rw [blt_sorted_l (sortOk_pr2 L), sortD_pr2]
theorem srt_iN (L : List Nat) : blt .sorted (.list (L.map iN)) = some (.list ((L.mergeSort leN).map iN)) := by rw [blt_sorted_l (sortOk_iN L), sortD_iN]
theorem srtT_pr2 (L : List (Nat × Nat)) : blt .sorted (.tuple (L.map pr2)) = some (.list ((L.mergeSort leP).map pr2)) := by
  have := srt_pr2 L
  simp only [blt] at this ⊢
  exact this
structure Small (w : Wld) : Prop where
  n : w.n ≤ 1000
  a : w.a.length ≤ 1000
  b : w.b.length ≤ 1000
  r : w.r.length ≤ 1000
theorem GoodW.small {m : Nat} (h : m ≤ 20) {w : Wld} (g : GoodW m w) : Small w := by
  obtain ⟨_, h2, ⟨p, h3⟩, ⟨q, h4⟩, ⟨r, h5⟩⟩ := g
  have f : ∀ p : Nat → Bool, ((List.range w.n).filter p).length ≤ 1000 := fun p => by
    have := List.length_filter_le p (List.range w.n)
    rw [List.length_range] at this; omega
  refine ⟨by omega, by rw [h3]; exact f p, by rw [h4]; exact f q, ?_⟩
  rw [h5]
  refine Nat.le_trans (List.length_filter_le _ _) ?_
  have e : ((List.range w.n).flatMap fun i => (List.range w.n).map fun j => (i, j)).length = w.n * w.n := by
    rw [List.length_flatMap]
    simp [List.map_const', List.sum_replicate_nat]
  rw [e]
  exact Nat.le_trans (Nat.mul_le_mul (by omega) (by omega)) (show 20 * 20 ≤ 1000 by decide)
structure WChg (T : Tab) : Prop where
  beside : Has T 47 2 9 b_beside
  doubled : Has T 48 1 8 b_doubled
  turned : Has T 49 1 3 b_turned_world
  swapped : Has T 50 1 1 b_swapped_world
  shuffled : Has T 51 2 8 b_shuffled
section
variable {T : Tab} (run : Nat → List PyData → Option PyData)
theorem iN_add (a b : Nat) : bop .add (iN a) (iN b) = some (iN (a + b)) := by simp [iN]
/-- tuple([k + many for k in some]) -/
theorem cs_add {i j : Nat} {ρ : Rho} {m : Nat} (hi : i < ρ.length) (hij : i ≠ j) (hj : ρ[j]? = some (.val (iN m))) (l : List Nat) : compD T.G run (.nm i) (.bin .add (.var i) (.var j)) (.lit (.bool true)) ρ (l.map iN) = some ((l.map (· + m)).map iN) := by
  rw [List.map_map]
  refine compD_codeM _ _ iN (fun k => iN (k + m)) l fun k hk => ⟨_, rfl, by simp, ?_⟩
  have h1 : getV i (ρ.set i (.val (iN k))) = some (iN k) := by simp [getV, List.getElem?_set_self hi]
  have h2 : getV j (ρ.set i (.val (iN k))) = some (iN m) := by simp [getV, List.getElem?_set_ne hij, hj]
  rw [evE_bin, evE_var, evE_var, h1, h2, ap2_some, iN_add]
/-- [(first + many, last + many) for first, last in r] -/
theorem cp_add {i i' j : Nat} {ρ : Rho} {m : Nat} (hi : i < ρ.length) (hi' : i' < ρ.length) (hii : i ≠ i') (hij : i ≠ j) (hij' : i' ≠ j) (hj : ρ[j]? = some (.val (iN m))) (l : List (Nat × Nat)) :
    compD T.G run (.tp [i, i']) (.tup (.cons (.bin .add (.var i) (.var j)) (.cons (.bin .add (.var i') (.var j)) (.nil)))) (.lit (.bool true)) ρ (l.map pr2) = some ((l.map (sh m)).map pr2) := by
  rw [List.map_map]
  refine compD_codeM _ _ pr2 (fun p => pr2 (sh m p)) l fun p hp => ⟨(ρ.set i (.val (iN p.1))).set i' (.val (iN p.2)), rfl, by simp, ?_⟩
  have h1 : getV i ((ρ.set i (.val (iN p.1))).set i' (.val (iN p.2))) = some (iN p.1) := by simp [getV, List.getElem?_set_ne (Ne.symm hii), List.getElem?_set_self hi]
  have h2 : getV i' ((ρ.set i (.val (iN p.1))).set i' (.val (iN p.2))) = some (iN p.2) := by
    have : i' < (ρ.set i (.val (iN p.1))).length := by simpa using hi'
    simp [getV, List.getElem?_set_self this]
  have h3 : getV j ((ρ.set i (.val (iN p.1))).set i' (.val (iN p.2))) = some (iN m) := by simp [getV, List.getElem?_set_ne hij, List.getElem?_set_ne hij', hj]
  rw [evE_tup, evEs_cons, evEs_cons, evEs_nil, evE_bin, evE_bin, evE_var, evE_var, evE_var, h1, h2, h3, ap2_some, ap2_some, iN_add, iN_add]
  simp [pr2, sh]
theorem run_beside (W : WChg T) (n : Nat) (u v : Wld) (hu : Small u) (hv : Small v) : T.run (n + 1) 47 [u.enc, v.enc] = some (besideW u v).enc := by
  have c1 : compD T.G (T.run n) (.tp [5, 6]) (.tup (.cons (.bin .add (.var 5) (.var 2)) (.cons (.bin .add (.var 6) (.var 2)) (.nil)))) (.lit (.bool true)) [.val u.enc, .val v.enc, .val (iN u.n), .un, .un, .un, .un, .un, .un] (v.r.map pr2) = some ((v.r.map (sh u.n)).map pr2) :=
    cp_add _ (by simp) (by simp) (by decide) (by decide) (by decide) rfl _
  have c2 : ∀ (l : List Nat), compD T.G (T.run n) (.nm 8) (.bin .add (.var 8) (.var 2)) (.lit (.bool true)) [.val u.enc, .val v.enc, .val (iN u.n), .val (.list ((v.r.map (sh u.n)).map pr2)), .un, .un, .un, .val (.tuple (l.map iN)), .un] (l.map iN) = some ((l.map (· + u.n)).map iN) :=
    fun l => cs_add _ (by simp) (by decide) rfl l
  have k1 := catOk_of (a := u.a.length) (b := v.a.length) (by have := hu.a; have := hv.a; omega)
  have k2 := catOk_of (a := u.b.length) (b := v.b.length) (by have := hu.b; have := hv.b; omega)
  have k3 := catOk_of (a := u.r.length) (b := v.r.length) (by have := hu.r; have := hv.r; omega)
  have e3 : ∀ (A B : List (Nat × Nat)), A.map pr2 ++ B.map pr2 = (A ++ B).map pr2 := fun A B => by rw [List.map_append]
  have hs := srtT_pr2 (u.r ++ v.r.map (sh u.n))
  rw [run_succ W.beside n _ rfl]
  obtain ⟨u0, u1, u2, u3⟩ := wix u
  obtain ⟨v0, v1, v2, v3⟩ := wix v
  have sl : cutD [iN v.n, .tuple (v.a.map iN), .tuple (v.b.map iN), .tuple (v.r.map pr2)] (some 1) (some 3) = [.tuple (v.a.map iN), .tuple (v.b.map iN)] := by simp
  have c3 : compD T.G (T.run n) (.nm 7) (.blt .tuple (.lc [8] (.bin .add (.var 8) (.var 2)) (.nm 8) (.seq (.var 7)) (.lit (.bool true)))) (.lit (.bool true)) [.val u.enc, .val v.enc, .val (iN u.n), .val (.list ((v.r.map (sh u.n)).map pr2)), .un, .un, .un, .un, .un] [.tuple (v.a.map iN), .tuple (v.b.map iN)] = some [.tuple ((v.a.map (· + u.n)).map iN), .tuple ((v.b.map (· + u.n)).map iN)] := by
    have a1 := c2 v.a
    have a2 := c2 v.b
    generalize (v.r.map (sh u.n)).map pr2 = R at *
    generalize (v.a.map (· + u.n)).map iN = A1 at *
    generalize (v.b.map (· + u.n)).map iN = B1 at *
    generalize u.enc = U at *
    generalize v.enc = V at *
    simp [compD_cons, compD_nil, a1, a2]
  have hv2 : v.enc = .tuple [iN v.n, .tuple (v.a.map iN), .tuple (v.b.map iN), .tuple (v.r.map pr2)] := rfl
  have hsl : slD v.enc (some 1) (some 3) = some (.tuple [.tuple (v.a.map iN), .tuple (v.b.map iN)]) := by rw [hv2, slD_t, sl]
  have eb : (besideW u v).enc = .tuple [iN (u.n + v.n), .tuple (u.a.map iN ++ (v.a.map (· + u.n)).map iN), .tuple (u.b.map iN ++ (v.b.map (· + u.n)).map iN), .tuple (((u.r ++ v.r.map (sh u.n)).mergeSort leP).map pr2)] := by
    simp only [Wld.enc, besideW, List.map_append]
  rw [eb]
  rw [← e3] at hs
  have l1 : (u.a.map iN).length = u.a.length := List.length_map _
  have l2 : (u.b.map iN).length = u.b.length := List.length_map _
  have l3 : (u.r.map pr2).length = u.r.length := List.length_map _
  have m1 : ((v.a.map (· + u.n)).map iN).length = v.a.length := by rw [List.length_map, List.length_map]
  have m2 : ((v.b.map (· + u.n)).map iN).length = v.b.length := by rw [List.length_map, List.length_map]
  have m3 : ((v.r.map (sh u.n)).map pr2).length = v.r.length := by rw [List.length_map, List.length_map]
  have n1 := iN_add u.n v.n
  rw [← l1, ← m1] at k1
  rw [← l2, ← m2] at k2
  rw [← l3, ← m3] at k3
  clear e3 l1 l2 l3 m1 m2 m3 hv2 sl eb c2
  generalize u.enc = U at *
  generalize v.enc = V at *
  generalize ((u.r ++ v.r.map (sh u.n)).mergeSort leP).map pr2 = SR at *
  generalize (v.r.map (sh u.n)).map pr2 = R at *
  generalize (v.a.map (· + u.n)).map iN = A1 at *
  generalize (v.b.map (· + u.n)).map iN = B1 at *
  generalize v.r.map pr2 = VR at *
  generalize v.a.map iN = VA at *
  generalize v.b.map iN = VB at *
  generalize u.r.map pr2 = UR at *
  generalize u.a.map iN = UA at *
  generalize u.b.map iN = UB at *
  generalize iN (u.n + v.n) = NN at *
  generalize iN u.n = N1 at *
  generalize iN v.n = N2 at *
  simp [b_beside, startR, u0, u1, u2, u3, v0, v3, c1, hsl, c3, k1, k2, k3, hs, n1]

theorem four_comp (w : Wld) (hw : Small w) (n : Nat) (s0 s5 s6 s7 : Sl) : ∀ s3 s4, ∃ ρ', loopD T.G run (.tp [3, 4]) b_doubled_f0 [s0, .val (iN n), .own [], s3, s4, s5, s6, s7] (w.r.map pr2) = some (.nx ρ') ∧ ∃ s3 s4, ρ' = [s0, .val (iN n), .own ((w.r.flatMap (four n)).map pr2), s3, s4, s5, s6, s7] := by
  intro s3 s4
  refine loopD_inv _ _ pr2 (fun pre ρ => ∃ s3 s4, ρ = [s0, .val (iN n), .own ((pre.flatMap (four n)).map pr2), s3, s4, s5, s6, s7]) w.r ?_ _ ⟨s3, s4, rfl⟩
  rintro pre p post ρ hx ⟨s3, s4, rfl⟩
  have hpl : pre.length ≤ 1000 := by
    have h1 := congrArg List.length hx
    have h2 := hw.r
    rw [List.length_append] at h1
    omega
  have hfl : ((pre.flatMap (four n)).map pr2).length ≤ 4000 := by
    rw [List.length_map, List.length_flatMap]
    have : (pre.map fun a => (four n a).length) = List.replicate pre.length 4 := by rw [← List.map_const']; rfl
    rw [this, List.sum_replicate_nat]; omega
  refine ⟨_, [s0, .val (iN n), .own (((pre ++ [p]).flatMap (four n)).map pr2), .val (iN p.1), .val (iN p.2), s5, s6, s7], rfl, ?_, _, _, rfl⟩
  have e2 : ((pre ++ [p]).flatMap (four n)).map pr2 = (pre.flatMap (four n)).map pr2 ++ (four n p).map pr2 := by simp
  rw [e2]
  have e4 : (four n p).map pr2 = [.tuple [iN p.1, iN p.2], .tuple [iN (p.1 + n), iN p.2], .tuple [iN p.1, iN (p.2 + n)], .tuple [iN (p.1 + n), iN (p.2 + n)]] := rfl
  rw [e4]
  have a1 := iN_add p.1 n
  have a2 := iN_add p.2 n
  generalize (pre.flatMap (four n)).map pr2 = D at *
  have k := catOk_of (a := D.length) (b := 4) (by omega)
  generalize iN (p.1 + n) = P1 at *
  generalize iN (p.2 + n) = P2 at *
  have hs : setAll [3, 4] [iN p.1, iN p.2] [s0, .val (iN n), .own D, s3, s4, s5, s6, s7] = [s0, .val (iN n), .own D, .val (iN p.1), .val (iN p.2), s5, s6, s7] := rfl
  rw [hs]
  generalize iN p.1 = Q1 at *
  generalize iN p.2 = Q2 at *
  generalize iN n = NN at *
  simp [b_doubled_f0, a1, a2, ownExt, k]
theorem run_doubledH (W : Has T 48 1 8 b_doubled) (n : Nat) (w : Wld) (hw : Small w) : T.run (n + 1) 48 [w.enc] = some (doubledW w).enc := by
  obtain ⟨w0, w1, w2, w3⟩ := wix w
  obtain ⟨ρ', h1, s3, s4, rfl⟩ := four_comp (T := T) (T.run n) w hw w.n (.val w.enc) .un .un .un .un .un
  have c2 : ∀ (A : Sl) (l : List Nat), compD T.G (T.run n) (.nm 7) (.bin .add (.var 7) (.var 1)) (.lit (.bool true)) [.val w.enc, .val (iN w.n), A, s3, s4, .un, .val (.tuple (l.map iN)), .un] (l.map iN) = some ((l.map (· + w.n)).map iN) :=
    fun A l => cs_add _ (by simp) (by decide) rfl l
  have sl : cutD [iN w.n, .tuple (w.a.map iN), .tuple (w.b.map iN), .tuple (w.r.map pr2)] (some 1) (some 3) = [.tuple (w.a.map iN), .tuple (w.b.map iN)] := by simp
  have hv2 : w.enc = .tuple [iN w.n, .tuple (w.a.map iN), .tuple (w.b.map iN), .tuple (w.r.map pr2)] := rfl
  have hsl : slD w.enc (some 1) (some 3) = some (.tuple [.tuple (w.a.map iN), .tuple (w.b.map iN)]) := by rw [hv2, slD_t, sl]
  have k1 := catOk_of (a := w.a.length) (b := w.a.length) (by have := hw.a; omega)
  have k2 := catOk_of (a := w.b.length) (b := w.b.length) (by have := hw.b; omega)
  have l1 : (w.a.map iN).length = w.a.length := List.length_map _
  have l2 : (w.b.map iN).length = w.b.length := List.length_map _
  have m1 : ((w.a.map (· + w.n)).map iN).length = w.a.length := by rw [List.length_map, List.length_map]
  have m2 : ((w.b.map (· + w.n)).map iN).length = w.b.length := by rw [List.length_map, List.length_map]
  have q1 : catOk (w.a.map iN).length ((w.a.map (· + w.n)).map iN).length = true := by rw [l1, m1]; exact k1
  have q2 : catOk (w.b.map iN).length ((w.b.map (· + w.n)).map iN).length = true := by rw [l2, m2]; exact k2
  have hs := srt_pr2 (w.r.flatMap (four w.n))
  have eb : (doubledW w).enc = .tuple [iN (2 * w.n), .tuple (w.a.map iN ++ (w.a.map (· + w.n)).map iN), .tuple (w.b.map iN ++ (w.b.map (· + w.n)).map iN), .tuple (((w.r.flatMap (four w.n)).mergeSort leP).map pr2)] := by
    simp only [Wld.enc, doubledW, List.map_append]
  have hm : bop .mul (.int 2) (iN w.n) = some (iN (2 * w.n)) := by
    show (if rng 2 || rng (w.n : Int) then some (PyData.int (2 * (w.n : Int))) else none) = _
    rw [show rng 2 = true from rfl, Bool.true_or, if_pos rfl, iN, Int.natCast_mul]
    rfl
  rw [eb, run_succ W n _ rfl]
  have c3 : ∀ A : Sl, compD T.G (T.run n) (.nm 6) (.bin .add (.var 6) (.blt .tuple (.lc [7] (.bin .add (.var 7) (.var 1)) (.nm 7) (.seq (.var 6)) (.lit (.bool true))))) (.lit (.bool true)) [.val w.enc, .val (iN w.n), A, s3, s4, .un, .un, .un] [.tuple (w.a.map iN), .tuple (w.b.map iN)] = some [.tuple (w.a.map iN ++ (w.a.map (· + w.n)).map iN), .tuple (w.b.map iN ++ (w.b.map (· + w.n)).map iN)] := by
    intro A
    have a1 := c2 A w.a
    have a2 := c2 A w.b
    generalize (w.a.map (· + w.n)).map iN = A1 at *
    generalize (w.b.map (· + w.n)).map iN = B1 at *
    generalize w.a.map iN = A0 at *
    generalize w.b.map iN = B0 at *
    generalize w.enc = U at *
    simp [compD_cons, compD_nil, a1, a2, q1, q2]
  clear c2 sl hv2 eb
  generalize w.enc = U at *
  generalize ((w.r.flatMap (four w.n)).mergeSort leP).map pr2 = SR at *
  generalize (w.r.flatMap (four w.n)).map pr2 = R4 at *
  generalize w.a.map iN ++ (w.a.map (· + w.n)).map iN = AA at *
  generalize w.b.map iN ++ (w.b.map (· + w.n)).map iN = BB at *
  generalize w.r.map pr2 = R at *
  generalize w.a.map iN = A0 at *
  generalize w.b.map iN = B0 at *
  generalize iN (2 * w.n) = N2 at *
  generalize iN w.n = N1 at *
  simp [b_doubled, startR, w0, w3, h1, hsl, c3, hs, hm]
theorem cp_swap (w : Wld) {i j : Nat} {ρ : Rho} (hi : i < ρ.length) (hj : j < ρ.length) (hij : i ≠ j) (l : List (Nat × Nat)) : compD T.G run (.tp [i, j]) (.tup (.cons (.var j) (.cons (.var i) (.nil)))) (.lit (.bool true)) ρ (l.map pr2) = some ((l.map Prod.swap).map pr2) := by
  rw [List.map_map]
  refine compD_codeM _ _ pr2 (fun p => pr2 p.swap) l fun p hp => ⟨(ρ.set i (.val (iN p.1))).set j (.val (iN p.2)), rfl, by simp, ?_⟩
  have h1 : getV i ((ρ.set i (.val (iN p.1))).set j (.val (iN p.2))) = some (iN p.1) := by simp [getV, List.getElem?_set_ne (Ne.symm hij), List.getElem?_set_self hi]
  have h2 : getV j ((ρ.set i (.val (iN p.1))).set j (.val (iN p.2))) = some (iN p.2) := by
    have : j < (ρ.set i (.val (iN p.1))).length := by simpa using hj
    simp [getV, List.getElem?_set_self this]
  rw [evE_tup, evEs_cons, evEs_cons, evEs_nil, evE_var, evE_var, h1, h2]
  simp [pr2]
theorem cut3 (w : Wld) : slD w.enc none (some 3) = some (.tuple [iN w.n, .tuple (w.a.map iN), .tuple (w.b.map iN)]) := by
  have hv2 : w.enc = .tuple [iN w.n, .tuple (w.a.map iN), .tuple (w.b.map iN), .tuple (w.r.map pr2)] := rfl
  rw [hv2, slD_t]
  simp
theorem run_turnedH (W : Has T 49 1 3 b_turned_world) (n : Nat) (w : Wld) : T.run (n + 1) 49 [w.enc] = some (turnedW w).enc := by
  obtain ⟨w0, w1, w2, w3⟩ := wix w
  have c1 : compD T.G (T.run n) (.tp [1, 2]) (.tup (.cons (.var 2) (.cons (.var 1) (.nil)))) (.lit (.bool true)) [.val w.enc, .un, .un] (w.r.map pr2) = some ((w.r.map Prod.swap).map pr2) := cp_swap _ w (by simp) (by simp) (by decide) _
  have hs := srt_pr2 (w.r.map Prod.swap)
  have h3 := cut3 w
  have eb : (turnedW w).enc = .tuple [iN w.n, .tuple (w.a.map iN), .tuple (w.b.map iN), .tuple (((w.r.map Prod.swap).mergeSort leP).map pr2)] := rfl
  rw [eb, run_succ W n _ rfl]
  have k := catOk_of (a := 3) (b := 1) (by decide)
  generalize w.enc = U at *
  generalize ((w.r.map Prod.swap).mergeSort leP).map pr2 = SR at *
  generalize (w.r.map Prod.swap).map pr2 = R4 at *
  generalize w.r.map pr2 = R at *
  simp [b_turned_world, startR, w3, c1, hs, h3, k]
theorem run_swappedH (W : Has T 50 1 1 b_swapped_world) (n : Nat) (w : Wld) : T.run (n + 1) 50 [w.enc] = some (swappedW w).enc := by
  obtain ⟨w0, w1, w2, w3⟩ := wix w
  have eb : (swappedW w).enc = .tuple [iN w.n, .tuple (w.b.map iN), .tuple (w.a.map iN), .tuple (w.r.map pr2)] := rfl
  rw [eb, run_succ W n _ rfl]
  generalize w.enc = U at *
  simp [b_swapped_world, startR, w0, w1, w2, w3]
theorem names_ix {l : List Nat} {k : Nat} (h : k < l.length) : L2.atI (l.map iN) ((k : Nat) : Int) = some (iN (l.getD k 0)) := L2.atI_nat (by simp [List.getD, List.getElem?_eq_getElem h])
/-- sorted([names[k] for k in some]) -/
theorem cs_name {i j : Nat} {ρ : Rho} {N : PyData} {ns : List Nat} (hN : ∀ k : Nat, k < ns.length → ixD N (iN k) = some (iN (ns.getD k 0))) (hi : i < ρ.length) (hij : i ≠ j) (hj : ρ[j]? = some (.val N)) (l : List Nat) (hl : ∀ k ∈ l, k < ns.length) :
    compD T.G run (.nm i) (.ix (.var j) (.var i)) (.lit (.bool true)) ρ (l.map iN) = some ((l.map fun k => ns.getD k 0).map iN) := by
  rw [List.map_map]
  refine compD_codeM _ _ iN (fun k => iN (ns.getD k 0)) l fun k hk => ⟨_, rfl, by simp, ?_⟩
  have h1 : getV i (ρ.set i (.val (iN k))) = some (iN k) := by simp [getV, List.getElem?_set_self hi]
  have h2 : getV j (ρ.set i (.val (iN k))) = some N := by simp [getV, List.getElem?_set_ne hij, hj]
  have h3 : bor (.var j) (ρ.set i (.val (iN k))) (some N) = some N := by simp [bor, List.getElem?_set_ne hij, hj]
  rw [evE_ix, evE_var, evE_var, h1, h2, h3, ap2_some, hN k (hl k hk)]
theorem cp_name {i i' j : Nat} {ρ : Rho} {N : PyData} {ns : List Nat} (hN : ∀ k : Nat, k < ns.length → ixD N (iN k) = some (iN (ns.getD k 0))) (hi : i < ρ.length) (hi' : i' < ρ.length) (hii : i ≠ i') (hij : i ≠ j) (hij' : i' ≠ j) (hj : ρ[j]? = some (.val N)) (l : List (Nat × Nat)) (hl : ∀ p ∈ l, p.1 < ns.length ∧ p.2 < ns.length) :
    compD T.G run (.tp [i, i']) (.tup (.cons (.ix (.var j) (.var i)) (.cons (.ix (.var j) (.var i')) (.nil)))) (.lit (.bool true)) ρ (l.map pr2) = some ((l.map (nmP ns)).map pr2) := by
  rw [List.map_map]
  refine compD_codeM _ _ pr2 (fun p => pr2 (nmP ns p)) l fun p hp => ⟨(ρ.set i (.val (iN p.1))).set i' (.val (iN p.2)), rfl, by simp, ?_⟩
  have h1 : getV i ((ρ.set i (.val (iN p.1))).set i' (.val (iN p.2))) = some (iN p.1) := by simp [getV, List.getElem?_set_ne (Ne.symm hii), List.getElem?_set_self hi]
  have h2 : getV i' ((ρ.set i (.val (iN p.1))).set i' (.val (iN p.2))) = some (iN p.2) := by
    have : i' < (ρ.set i (.val (iN p.1))).length := by simpa using hi'
    simp [getV, List.getElem?_set_self this]
  have h3 : getV j ((ρ.set i (.val (iN p.1))).set i' (.val (iN p.2))) = some N := by simp [getV, List.getElem?_set_ne hij, List.getElem?_set_ne hij', hj]
  have h4 : bor (.var j) ((ρ.set i (.val (iN p.1))).set i' (.val (iN p.2))) (some N) = some N := by simp [bor, List.getElem?_set_ne hij, List.getElem?_set_ne hij', hj]
  rw [evE_tup, evEs_cons, evEs_cons, evEs_nil, evE_ix, evE_ix, evE_var, evE_var, evE_var, h1, h2, h3, h4, ap2_some, ap2_some, hN _ (hl p hp).1, hN _ (hl p hp).2]
  simp [pr2, nmP]
/-- arrows and marks stay within -/
structure Within (w : Wld) (m : Nat) : Prop where
  a : ∀ k ∈ w.a, k < m
  b : ∀ k ∈ w.b, k < m
  r : ∀ p ∈ w.r, p.1 < m ∧ p.2 < m
theorem run_shuffledH (W : Has T 51 2 8 b_shuffled) (n : Nat) (w : Wld) (ns : List Nat) (hw : Within w ns.length) : T.run (n + 1) 51 [w.enc, .tuple (ns.map iN)] = some (shuffledW w ns).enc := by
  obtain ⟨w0, w1, w2, w3⟩ := wix w
  have hN : ∀ k : Nat, k < ns.length → ixD (.tuple (ns.map iN)) (iN k) = some (iN (ns.getD k 0)) := fun k hk => names_ix hk
  generalize hNN : PyData.tuple (ns.map iN) = N at *
  have c1 : ∀ (S : Sl) (l : List Nat), (∀ k ∈ l, k < ns.length) → compD T.G (T.run n) (.nm 5) (.ix (.var 1) (.var 5)) (.lit (.bool true)) [.val w.enc, .val N, .un, .un, S, .un, .un, .un] (l.map iN) = some ((l.map fun k => ns.getD k 0).map iN) :=
    fun S l hl => cs_name _ hN (by simp) (by decide) rfl l hl
  have c2 : ∀ (S : Sl), compD T.G (T.run n) (.tp [6, 7]) (.tup (.cons (.ix (.var 1) (.var 6)) (.cons (.ix (.var 1) (.var 7)) (.nil)))) (.lit (.bool true)) [.val w.enc, .val N, S, .un, .un, .un, .un, .un] (w.r.map pr2) = some ((w.r.map (nmP ns)).map pr2) :=
    fun S => cp_name _ hN (by simp) (by simp) (by decide) (by decide) (by decide) rfl _ hw.r
  have sl : cutD [iN w.n, .tuple (w.a.map iN), .tuple (w.b.map iN), .tuple (w.r.map pr2)] (some 1) (some 3) = [.tuple (w.a.map iN), .tuple (w.b.map iN)] := by simp
  have hv2 : w.enc = .tuple [iN w.n, .tuple (w.a.map iN), .tuple (w.b.map iN), .tuple (w.r.map pr2)] := rfl
  have hsl : slD w.enc (some 1) (some 3) = some (.tuple [.tuple (w.a.map iN), .tuple (w.b.map iN)]) := by rw [hv2, slD_t, sl]
  have s1 := srt_iN (w.a.map fun k => ns.getD k 0)
  have s2 := srt_iN (w.b.map fun k => ns.getD k 0)
  have s3 := srt_pr2 (w.r.map (nmP ns))
  have eb : (shuffledW w ns).enc = .tuple [iN w.n, .tuple (((w.a.map fun k => ns.getD k 0).mergeSort leN).map iN), .tuple (((w.b.map fun k => ns.getD k 0).mergeSort leN).map iN), .tuple (((w.r.map (nmP ns)).mergeSort leP).map pr2)] := rfl
  have c3 : compD T.G (T.run n) (.nm 4) (.blt .tuple (.blt .sorted (.lc [5] (.ix (.var 1) (.var 5)) (.nm 5) (.seq (.var 4)) (.lit (.bool true))))) (.lit (.bool true)) [.val w.enc, .val N, .un, .un, .un, .un, .un, .un] [.tuple (w.a.map iN), .tuple (w.b.map iN)] = some [.tuple (((w.a.map fun k => ns.getD k 0).mergeSort leN).map iN), .tuple (((w.b.map fun k => ns.getD k 0).mergeSort leN).map iN)] := by
    have a1 := c1 (.val (.tuple (w.a.map iN))) w.a hw.a
    have a2 := c1 (.val (.tuple (w.b.map iN))) w.b hw.b
    generalize ((w.a.map fun k => ns.getD k 0).mergeSort leN).map iN = SA at *
    generalize ((w.b.map fun k => ns.getD k 0).mergeSort leN).map iN = SB at *
    generalize (w.a.map fun k => ns.getD k 0).map iN = A1 at *
    generalize (w.b.map fun k => ns.getD k 0).map iN = B1 at *
    generalize w.a.map iN = A0 at *
    generalize w.b.map iN = B0 at *
    generalize w.enc = U at *
    simp [compD_cons, compD_nil, a1, a2, s1, s2]
  rw [eb, run_succ W n _ rfl]
  clear c1 sl hv2 eb s1 s2
  generalize w.enc = U at *
  generalize ((w.a.map fun k => ns.getD k 0).mergeSort leN).map iN = SA at *
  generalize ((w.b.map fun k => ns.getD k 0).mergeSort leN).map iN = SB at *
  generalize ((w.r.map (nmP ns)).mergeSort leP).map pr2 = SR at *
  generalize (w.r.map (nmP ns)).map pr2 = R1 at *
  generalize w.a.map iN = A0 at *
  generalize w.b.map iN = B0 at *
  generalize w.r.map pr2 = R at *
  simp [b_shuffled, startR, w0, w3, hsl, c3, c2, s3]
theorem run_doubled (W : WChg T) (n : Nat) (w : Wld) (hw : Small w) : T.run (n + 1) 48 [w.enc] = some (doubledW w).enc := run_doubledH W.doubled n w hw
theorem run_turned (W : WChg T) (n : Nat) (w : Wld) : T.run (n + 1) 49 [w.enc] = some (turnedW w).enc := run_turnedH W.turned n w
theorem run_swapped (W : WChg T) (n : Nat) (w : Wld) : T.run (n + 1) 50 [w.enc] = some (swappedW w).enc := run_swappedH W.swapped n w
theorem run_shuffled (W : WChg T) (n : Nat) (w : Wld) (ns : List Nat) (hw : Within w ns.length) : T.run (n + 1) 51 [w.enc, .tuple (ns.map iN)] = some (shuffledW w ns).enc := run_shuffledH W.shuffled n w ns hw
end
end Ev

/-! PuY: a world with each thing twice; keys. -/
namespace Ev
open PySem
theorem leP_iff (p q : Nat × Nat) : leP p q = true ↔ p.1 < q.1 ∨ (p.1 = q.1 ∧ p.2 ≤ q.2) := by
  have h := congrFun (congrFun (PySem.W.dataLe_ii (β := Nat × Nat) (fun p => (p.1 : Int)) (fun p => (p.2 : Int))) p) q
  have e : leP p q = PySem.W.dataLe false (fun b : Nat × Nat => PyData.tuple [.int (b.1 : Int), .int (b.2 : Int)]) p q := rfl
  rw [e, h, decide_eq_true_eq]
  omega
theorem leN_iff (a b : Nat) : leN a b = true ↔ a ≤ b := by
  have h := congrFun (congrFun (PySem.W.dataLe_int (β := Nat) (fun p => (p : Int))) a) b
  have e : leN a b = PySem.W.dataLe false (fun b : Nat => PyData.int (b : Int)) a b := rfl
  rw [e, h, decide_eq_true_eq]
  omega
theorem leP_trans (a b c : Nat × Nat) (h : leP a b = true) (k : leP b c = true) : leP a c = true := by
  rw [leP_iff] at *; omega
theorem leP_total (a b : Nat × Nat) : (leP a b || leP b a) = true := by
  rw [Bool.or_eq_true, leP_iff, leP_iff]; omega
theorem leN_trans (a b c : Nat) (h : leN a b = true) (k : leN b c = true) : leN a c = true := by
  rw [leN_iff] at *; omega
theorem leN_total (a b : Nat) : (leN a b || leN b a) = true := by
  rw [Bool.or_eq_true, leN_iff, leN_iff]; omega
/-- a rising list of all that is in L is L sorted -/
theorem sorted_eq {L D : List (Nat × Nat)} (hL : L.Nodup) (hD : D.Nodup) (hs : D.Pairwise fun a b => leP a b = true) (hm : ∀ p, p ∈ L ↔ p ∈ D) : L.mergeSort leP = D := by
  refine List.Perm.eq_of_pairwise (le := fun a b => leP a b = true) (fun a b _ _ h k => ?_) (List.pairwise_mergeSort leP_trans leP_total L) hs ((List.mergeSort_perm L leP).trans ((List.perm_ext_iff_of_nodup hL hD).mpr hm))
  rw [leP_iff] at h k
  exact Prod.ext (by omega) (by omega)
theorem range_two (n : Nat) : List.range (2 * n) = List.range n ++ (List.range n).map (· + n) := by
  have : 2 * n = n + n := by omega
  rw [this, List.range_add]
  congr 1
  exact List.map_congr_left fun x _ => Nat.add_comm _ _
theorem dbl_marks {n : Nat} {a : List Nat} {p : Nat → Bool} (h : a = (List.range n).filter p) : (List.range (2 * n)).filter (fun k => a.contains (k % n)) = a ++ a.map (· + n) := by
  have hc : ∀ k, k < n → a.contains k = p k := fun k hk => by
    rw [h]
    cases q : p k
    · rw [Bool.eq_false_iff]
      intro z
      rw [List.contains_iff_mem, List.mem_filter] at z
      rw [q] at z
      exact absurd z.2 (by simp)
    · rw [List.contains_iff_mem, List.mem_filter]
      exact ⟨List.mem_range.mpr hk, q⟩
  have e1 : (List.range n).filter (fun k => a.contains (k % n)) = (List.range n).filter p := List.filter_congr fun k hk => by
    have hk := List.mem_range.mp hk
    rw [Nat.mod_eq_of_lt hk, hc k hk]
  have e2 : (List.range n).filter ((fun k => a.contains (k % n)) ∘ (· + n)) = (List.range n).filter p := List.filter_congr fun k hk => by
    have hk := List.mem_range.mp hk
    show a.contains ((k + n) % n) = p k
    rw [Nat.add_mod_right, Nat.mod_eq_of_lt hk, hc k hk]
  rw [range_two, List.filter_append, List.filter_map, e1, e2, ← h]
/-- the law's arrows -/
def dueL (w : Wld) (l : List Nat) : List (Nat × Nat) := l.flatMap fun x => ((List.range (2 * w.n)).filter fun y => w.r.contains (x % w.n, y % w.n)).map fun y => (x, y)
theorem lt_range (n : Nat) : (List.range n).Pairwise (· < ·) := List.pairwise_lt_range
theorem pw_flat {l : List Nat} (hl : l.Pairwise (· < ·)) (g : Nat → List Nat) (hg : ∀ x, (g x).Pairwise (· < ·)) : (l.flatMap fun x => (g x).map fun y => (x, y)).Pairwise fun a b => a.1 < b.1 ∨ (a.1 = b.1 ∧ a.2 < b.2) := by
  rw [List.pairwise_flatMap]
  refine ⟨fun x _ => ?_, hl.imp fun {x y} hxy a ha b hb => ?_⟩
  · rw [List.pairwise_map]
    exact (hg x).imp fun h => .inr ⟨rfl, h⟩
  · obtain ⟨_, _, rfl⟩ := List.mem_map.mp ha
    obtain ⟨_, _, rfl⟩ := List.mem_map.mp hb
    exact .inl hxy
theorem dbl_arrows {n : Nat} {w : Wld} {m : Nat} (g : GoodW m w) : (w.r.flatMap (four w.n)).mergeSort leP = dueL w (List.range (2 * w.n)) := by
  obtain ⟨g1, g2, _, _, ⟨p, hp⟩⟩ := g
  have hlt : ∀ q ∈ w.r, q.1 < w.n ∧ q.2 < w.n := fun q hq => by
    rw [hp] at hq
    obtain ⟨i, hi, hq⟩ := List.mem_flatMap.mp (List.mem_filter.mp hq).1
    obtain ⟨j, hj, rfl⟩ := List.mem_map.mp hq
    exact ⟨List.mem_range.mp hi, List.mem_range.mp hj⟩
  have hnd : w.r.Nodup := by
    rw [hp]
    refine List.Pairwise.filter _ ((pw_flat (lt_range w.n) (fun _ => List.range w.n) fun _ => lt_range w.n).imp fun {a b} h e => ?_)
    subst e; omega
  have hD := pw_flat (lt_range (2 * w.n)) (fun x => (List.range (2 * w.n)).filter fun y => w.r.contains (x % w.n, y % w.n)) fun x => (lt_range (2 * w.n)).filter _
  have md : ∀ q ∈ w.r, ∀ z ∈ four w.n q, (z.1 % w.n, z.2 % w.n) = q ∧ z.1 < 2 * w.n ∧ z.2 < 2 * w.n := fun q hq z hz => by
    obtain ⟨h1, h2⟩ := hlt q hq
    simp only [four, List.mem_cons, List.not_mem_nil, or_false] at hz
    rcases hz with rfl | rfl | rfl | rfl <;> refine ⟨Prod.ext ?_ ?_, ?_, ?_⟩ <;> simp only [Nat.add_mod_right, Nat.mod_eq_of_lt h1, Nat.mod_eq_of_lt h2] <;> omega
  refine sorted_eq ?_ (hD.imp fun {a b} h e => by subst e; omega) (hD.imp fun {a b} h => by rw [leP_iff]; omega) fun z => ⟨fun hz => ?_, fun hz => ?_⟩
  · unfold List.Nodup
    rw [List.pairwise_flatMap]
    refine ⟨fun q hq => ?_, List.Pairwise.imp_of_mem (fun {a b} ha hb hab x hx y hy e => ?_) hnd⟩
    · obtain ⟨h1, h2⟩ := hlt q hq
      have hn : 0 < w.n := g1
      simp only [four, List.pairwise_cons, List.mem_cons, List.not_mem_nil, or_false, Prod.mk.injEq, ne_eq]
      refine ⟨?_, ?_, ?_, ?_, List.Pairwise.nil⟩
      · rintro z (rfl | rfl | rfl) <;> simp <;> omega
      · rintro z (rfl | rfl) <;> simp <;> omega
      · rintro z rfl; simp; omega
      · intro z h; cases h
    · subst e
      have h1 := (md a ha x hx).1
      have h2 := (md b hb x hy).1
      exact hab (h1.symm.trans h2)
  · obtain ⟨q, hq, hz⟩ := List.mem_flatMap.mp hz
    obtain ⟨h1, h2, h3⟩ := md q hq z hz
    refine List.mem_flatMap.mpr ⟨z.1, List.mem_range.mpr h2, List.mem_map.mpr ⟨z.2, List.mem_filter.mpr ⟨List.mem_range.mpr h3, ?_⟩, rfl⟩⟩
    rw [h1, List.contains_iff_mem]; exact hq
  · obtain ⟨x, hx, hz⟩ := List.mem_flatMap.mp hz
    obtain ⟨y, hy, rfl⟩ := List.mem_map.mp hz
    obtain ⟨hy, hc⟩ := List.mem_filter.mp hy
    rw [List.contains_iff_mem] at hc
    have hx := List.mem_range.mp hx
    have hy := List.mem_range.mp hy
    refine List.mem_flatMap.mpr ⟨_, hc, ?_⟩
    have ex : x = x % w.n ∨ x = x % w.n + w.n := by
      by_cases h : x < w.n
      · left; rw [Nat.mod_eq_of_lt h]
      · right
        have : x % w.n = x - w.n := by rw [Nat.mod_eq_sub_mod (by omega), Nat.mod_eq_of_lt (by omega)]
        omega
    have ey : y = y % w.n ∨ y = y % w.n + w.n := by
      by_cases h : y < w.n
      · left; rw [Nat.mod_eq_of_lt h]
      · right
        have : y % w.n = y - w.n := by rw [Nat.mod_eq_sub_mod (by omega), Nat.mod_eq_of_lt (by omega)]
        omega
    simp only [four, List.mem_cons, List.not_mem_nil, or_false, Prod.mk.injEq]
    rcases ex with ex | ex <;> rcases ey with ey | ey
    · exact .inl ⟨ex, ey⟩
    · exact .inr (.inr (.inl ⟨ex, ey⟩))
    · exact .inr (.inl ⟨ex, ey⟩)
    · exact .inr (.inr (.inr ⟨ex, ey⟩))
theorem keysR_some {f : PyData → Option PyData} : ∀ (l : List Nat), (∀ k ∈ l, ∃ i : Int, f (.int (k : Nat)) = some (.int i)) → ∃ ks, keysR f l = some ks ∧ ks.length = l.length
  | [], _ => ⟨[], rfl, rfl⟩
  | k :: l, h => by
    obtain ⟨i, hi⟩ := h k (by simp)
    obtain ⟨ks, h1, h2⟩ := keysR_some l fun x hx => h x (List.mem_cons_of_mem _ hx)
    exact ⟨i :: ks, by rw [keysR, hi, Option.bind_some, intOf, Option.bind_some, h1]; rfl, by simp [h2]⟩
/-- the names that the keys give -/
def namesL (ks : List Int) : List Nat := (srtP ks).map (·.1)
theorem srtD_names (ks : List Int) : srtD ks = (namesL ks).map iN := by unfold srtD namesL; rw [List.map_map]; rfl
theorem namesL_perm (ks : List Int) : (namesL ks).Perm (List.range ks.length) := by
  have h := (List.mergeSort_perm ((List.range ks.length).zip ks) (PySem.W.dataLe false fun p : Nat × Int => PyData.int p.2)).map Prod.fst
  have e : ((List.range ks.length).zip ks).map Prod.fst = List.range ks.length := List.map_fst_zip (by rw [List.length_range]; exact Nat.le_refl _)
  rw [e] at h
  exact h
theorem namesL_len (ks : List Int) : (namesL ks).length = ks.length := by rw [(namesL_perm ks).length_eq, List.length_range]
theorem GoodW.within {m : Nat} {w : Wld} (g : GoodW m w) : Within w w.n := by
  obtain ⟨_, h2, ⟨p, h3⟩, ⟨q, h4⟩, ⟨r, h5⟩⟩ := g
  refine ⟨fun k hk => ?_, fun k hk => ?_, fun k hk => ?_⟩
  · rw [h3] at hk; exact List.mem_range.mp (List.mem_filter.mp hk).1
  · rw [h4] at hk; exact List.mem_range.mp (List.mem_filter.mp hk).1
  · rw [h5] at hk
    obtain ⟨i, hi, hq⟩ := List.mem_flatMap.mp (List.mem_filter.mp hk).1
    obtain ⟨j, hj, rfl⟩ := List.mem_map.mp hq
    exact ⟨List.mem_range.mp hi, List.mem_range.mp hj⟩
end Ev

/-! PuZ: worlds that show the same; lean worlds. -/
namespace Ev
open PySem
/-! ### the same shown -/
structure Bis (R : Nat → Nat → Prop) (w v : Wld) : Prop where
  l : ∀ x, x < w.n → ∃ y, y < v.n ∧ R x y
  r : ∀ y, y < v.n → ∃ x, x < w.n ∧ R x y
  a : ∀ x y, x < w.n → y < v.n → R x y → w.a.contains x = v.a.contains y
  b : ∀ x y, x < w.n → y < v.n → R x y → w.b.contains x = v.b.contains y
  t : ∀ x y x' y', x < w.n → y < v.n → x' < w.n → y' < v.n → R x y → R x' y' → w.r.contains (x, x') = v.r.contains (y, y')
section
variable {R : Nat → Nat → Prop} {w v : Wld}
theorem Bis.form (B : Bis R w v) {x y x' y' : Nat} (h1 : x < w.n) (h2 : y < v.n) (h3 : x' < w.n) (h4 : y' < v.n) (r1 : R x y) (r2 : R x' y') : ∀ f : Form, f.tr w x x' = f.tr v y y'
  | .yes => rfl
  | .no => rfl
  | .a s => by cases s <;> simp only [Form.tr, sel] <;> first | exact B.a _ _ h1 h2 r1 | exact B.a _ _ h3 h4 r2
  | .b s => by cases s <;> simp only [Form.tr, sel] <;> first | exact B.b _ _ h1 h2 r1 | exact B.b _ _ h3 h4 r2
  | .to s t => by
    cases s <;> cases t <;> simp only [Form.tr, sel]
    · exact B.t _ _ _ _ h1 h2 h1 h2 r1 r1
    · exact B.t _ _ _ _ h1 h2 h3 h4 r1 r2
    · exact B.t _ _ _ _ h3 h4 h1 h2 r2 r1
    · exact B.t _ _ _ _ h3 h4 h3 h4 r2 r2
  | .not f => by simp only [Form.tr]; rw [B.form h1 h2 h3 h4 r1 r2 f]
  | .both f g => by simp only [Form.tr]; rw [B.form h1 h2 h3 h4 r1 r2 f, B.form h1 h2 h3 h4 r1 r2 g]
  | .either f g => by simp only [Form.tr]; rw [B.form h1 h2 h3 h4 r1 r2 f, B.form h1 h2 h3 h4 r1 r2 g]
theorem Bis.ofAll (B : Bis R w v) (q : Bool) {P P' : Nat → Bool} (h : ∀ x y, x < w.n → y < v.n → R x y → P x = P' y) : Ev.ofAll q ((List.range w.n).map P) = Ev.ofAll q ((List.range v.n).map P') := by
  have e : ∀ (b : Bool), (∃ x, x < w.n ∧ P x = b) ↔ ∃ y, y < v.n ∧ P' y = b := fun b => by
    constructor
    · rintro ⟨x, hx, rfl⟩
      obtain ⟨y, hy, r⟩ := B.l x hx
      exact ⟨y, hy, (h x y hx hy r).symm⟩
    · rintro ⟨y, hy, rfl⟩
      obtain ⟨x, hx, r⟩ := B.r y hy
      exact ⟨x, hx, h x y hx hy r⟩
  cases q with
  | true =>
    unfold Ev.ofAll
    rw [if_pos rfl, if_pos rfl, Bool.eq_iff_iff, List.any_eq_true, List.any_eq_true]
    have := e true
    simpa [List.mem_map, List.mem_range] using this
  | false =>
    unfold Ev.ofAll
    rw [if_neg (by simp), if_neg (by simp)]
    have := e false
    cases h1 : ((List.range w.n).map P).all id <;> cases h2 : ((List.range v.n).map P').all id <;> try rfl
    · rw [List.all_eq_true] at h2
      rw [← Bool.not_eq_true, List.all_eq_true] at h1
      exact absurd (fun z hz => by
        obtain ⟨x, hx, rfl⟩ := List.mem_map.mp hz
        cases hp : P x with
        | true => rfl
        | false =>
          obtain ⟨y, hy, hy2⟩ := this.mp ⟨x, List.mem_range.mp hx, hp⟩
          have := h2 _ (List.mem_map.mpr ⟨y, List.mem_range.mpr hy, rfl⟩)
          rw [hy2] at this; cases this) h1
    · rw [List.all_eq_true] at h1
      rw [← Bool.not_eq_true, List.all_eq_true] at h2
      exact absurd (fun z hz => by
        obtain ⟨x, hx, rfl⟩ := List.mem_map.mp hz
        cases hp : P' x with
        | true => rfl
        | false =>
          obtain ⟨y, hy, hy2⟩ := this.mpr ⟨x, List.mem_range.mp hx, hp⟩
          have := h1 _ (List.mem_map.mpr ⟨y, List.mem_range.mpr hy, rfl⟩)
          rw [hy2] at this; cases this) h2
theorem Bis.dem (B : Bis R w v) (d : Dem) : d.tr w = d.tr v := by
  unfold Dem.tr
  refine B.ofAll d.one fun x y hx hy r => ?_
  unfold Dem.inner
  exact B.ofAll d.other fun x' y' hx' hy' r' => B.form hx hy hx' hy' r r' d.form
theorem Bis.row (B : Bis R w v) (r : List Dem) : rowTr w r = rowTr v r := by
  unfold rowTr
  congr 1
  funext d
  exact B.dem d
end
/-! ### rising lists -/
def lexL (a b : Nat × Nat) : Prop := a.1 < b.1 ∨ (a.1 = b.1 ∧ a.2 < b.2)
theorem rise_ext {l m : List Nat} (hl : l.Pairwise (· < ·)) (hm : m.Pairwise (· < ·)) (h : ∀ x, x ∈ l ↔ x ∈ m) : l = m := by
  have nd : ∀ {l : List Nat}, l.Pairwise (· < ·) → l.Nodup := fun h => h.imp fun {a b} h e => by omega
  exact List.Perm.eq_of_pairwise (le := (· < ·)) (fun a b _ _ h k => by omega) hl hm ((List.perm_ext_iff_of_nodup (nd hl) (nd hm)).mpr h)
theorem riseP_ext {l m : List (Nat × Nat)} (hl : l.Pairwise lexL) (hm : m.Pairwise lexL) (h : ∀ x, x ∈ l ↔ x ∈ m) : l = m := by
  have nd : ∀ {l : List (Nat × Nat)}, l.Pairwise lexL → l.Nodup := fun h => h.imp fun {a b} h e => by subst e; unfold lexL at h; omega
  exact List.Perm.eq_of_pairwise (le := lexL) (fun a b _ _ h k => by unfold lexL at h k; omega) hl hm ((List.perm_ext_iff_of_nodup (nd hl) (nd hm)).mpr h)
/-- a world as the guide has it -/
structure OW (w : Wld) : Prop where
  pos : 1 ≤ w.n
  a : w.a.Pairwise (· < ·)
  b : w.b.Pairwise (· < ·)
  r : w.r.Pairwise lexL
  wi : Within w w.n
theorem GoodW.ow {m : Nat} {w : Wld} (g : GoodW m w) : OW w := by
  have wi := g.within
  obtain ⟨h1, h2, ⟨p, h3⟩, ⟨q, h4⟩, ⟨r, h5⟩⟩ := g
  refine ⟨h1, by rw [h3]; exact (lt_range _).filter _, by rw [h4]; exact (lt_range _).filter _, ?_, wi⟩
  rw [h5]
  exact List.Pairwise.filter _ (pw_flat (lt_range w.n) (fun _ => List.range w.n) fun _ => lt_range w.n)
theorem GoodW.dbl {m : Nat} {w : Wld} (g : GoodW m w) : GoodW (2 * m) (doubledW w) := by
  have g0 := g
  obtain ⟨h1, h2, ⟨p, h3⟩, ⟨q, h4⟩, ⟨r, h5⟩⟩ := g
  refine ⟨by show 1 ≤ 2 * w.n; omega, by show 2 * w.n ≤ _; omega, ⟨_, (dbl_marks h3).symm⟩, ⟨_, (dbl_marks h4).symm⟩, ⟨fun z => w.r.contains (z.1 % w.n, z.2 % w.n), ?_⟩⟩
  show (w.r.flatMap (four w.n)).mergeSort leP = _
  rw [dbl_arrows (n := m) g0, List.filter_flatMap]
  unfold dueL
  congr 1
  funext x
  rw [List.filter_map]
  rfl
/-! ### alike -/
def al (w : Wld) (i j : Nat) : Bool := (w.a.contains i == w.a.contains j) && (w.b.contains i == w.b.contains j) && (List.range w.n).all fun k => (w.r.contains (i, k) == w.r.contains (j, k)) && (w.r.contains (k, i) == w.r.contains (k, j))
structure Al (w : Wld) (i j : Nat) : Prop where
  a : w.a.contains i = w.a.contains j
  b : w.b.contains i = w.b.contains j
  l : ∀ k, k < w.n → w.r.contains (i, k) = w.r.contains (j, k)
  r : ∀ k, k < w.n → w.r.contains (k, i) = w.r.contains (k, j)
theorem al_iff {w : Wld} {i j : Nat} : al w i j = true ↔ Al w i j := by
  unfold al
  simp only [Bool.and_eq_true, beq_iff_eq, List.all_eq_true, List.mem_range]
  exact ⟨fun ⟨⟨h1, h2⟩, h3⟩ => ⟨h1, h2, fun k hk => (h3 k hk).1, fun k hk => (h3 k hk).2⟩, fun h => ⟨⟨h.a, h.b⟩, fun k hk => ⟨h.l k hk, h.r k hk⟩⟩⟩
theorem Al.refl (w : Wld) (i : Nat) : Al w i i := ⟨rfl, rfl, fun _ _ => rfl, fun _ _ => rfl⟩
theorem Al.symm {w : Wld} {i j : Nat} (h : Al w i j) : Al w j i := ⟨h.a.symm, h.b.symm, fun k hk => (h.l k hk).symm, fun k hk => (h.r k hk).symm⟩
theorem Al.trans {w : Wld} {i j k : Nat} (h : Al w i j) (g : Al w j k) : Al w i k := ⟨h.a.trans g.a, h.b.trans g.b, fun x hx => (h.l x hx).trans (g.l x hx), fun x hx => (h.r x hx).trans (g.r x hx)⟩
/-- no thing before it is alike -/
def fst (w : Wld) (k : Nat) : Bool := (List.range k).all fun j => !al w k j
theorem fst_iff {w : Wld} {k : Nat} : fst w k = true ↔ ∀ j, j < k → ¬ Al w k j := by
  unfold fst
  simp only [List.all_eq_true, List.mem_range, Bool.not_eq_true', ← Bool.not_eq_true, al_iff]
def keptL (w : Wld) : List Nat := (List.range w.n).filter (fst w)
theorem mem_kept {w : Wld} {k : Nat} : k ∈ keptL w ↔ k < w.n ∧ fst w k = true := by
  unfold keptL
  rw [List.mem_filter, List.mem_range]
theorem kept_rise (w : Wld) : (keptL w).Pairwise (· < ·) := (lt_range _).filter _
/-- the first one alike -/
theorem ex_fst (w : Wld) : ∀ x, ∃ j, j ≤ x ∧ fst w j = true ∧ Al w x j := by
  intro x
  induction x using Nat.strongRecOn with
  | ind x ih =>
    by_cases h : fst w x = true
    · exact ⟨x, Nat.le_refl _, h, Al.refl w x⟩
    · have h' : ¬ ∀ j, j < x → ¬ Al w x j := fun z => h (fst_iff.mpr z)
      obtain ⟨j, hj⟩ := Classical.not_forall.mp h'
      obtain ⟨h1, h2⟩ := Classical.not_imp.mp hj
      have h2 := Classical.not_not.mp h2
      obtain ⟨i, h3, h4, h5⟩ := ih j h1
      exact ⟨i, by omega, h4, h2.trans h5⟩
theorem fst_eq {w : Wld} {i j : Nat} (hi : fst w i = true) (hj : fst w j = true) (h : Al w i j) : i = j := by
  rw [fst_iff] at hi hj
  rcases Nat.lt_trichotomy i j with z | z | z
  · exact absurd h.symm (hj i z)
  · exact z
  · exact absurd h (hi j z)
/-- looked through from the front, with those kept alone -/
theorem any_kept (w : Wld) (x : Nat) : ((List.range x).filter (fst w)).any (al w x) = !fst w x := by
  cases h : fst w x with
  | true =>
    rw [Bool.not_true, List.any_eq_false]
    intro j hj
    have hj := List.mem_range.mp (List.mem_filter.mp hj).1
    rw [al_iff]
    exact fst_iff.mp h j hj
  | false =>
    rw [Bool.not_false, List.any_eq_true]
    obtain ⟨j, h1, h2, h3⟩ := ex_fst w x
    have hne : j ≠ x := fun e => by subst e; rw [h] at h2; cases h2
    exact ⟨j, List.mem_filter.mpr ⟨List.mem_range.mpr (by omega), h2⟩, al_iff.mpr h3⟩
/-! ### places -/
def ixOf (k : Nat) : List Nat → Nat
  | [] => 0
  | x :: l => if x = k then 0 else ixOf k l + 1
theorem ixOf_mem {k : Nat} : ∀ {l : List Nat}, k ∈ l → ixOf k l < l.length ∧ l.getD (ixOf k l) 0 = k
  | [], h => by cases h
  | x :: l, h => by
    unfold ixOf
    by_cases e : x = k
    · subst e; rw [if_pos rfl]; simp
    · rw [if_neg e]
      rcases List.mem_cons.mp h with z | z
      · exact absurd z.symm e
      · obtain ⟨h1, h2⟩ := ixOf_mem z
        refine ⟨by rw [List.length_cons]; omega, ?_⟩
        rw [List.getD_cons_succ]; exact h2
theorem getD0_mem {l : List Nat} {i : Nat} (h : i < l.length) : l.getD i 0 ∈ l := by
  have e : l.getD i 0 = l[i] := by simp [List.getD, List.getElem?_eq_getElem h]
  rw [e]; exact List.getElem_mem h
theorem rise_lt {l : List Nat} (hl : l.Pairwise (· < ·)) {i j : Nat} (hj : j < l.length) (hij : i < j) : l.getD i 0 < l.getD j 0 := by
  have e1 : l.getD i 0 = l[i] := by simp [List.getD, List.getElem?_eq_getElem (show i < l.length by omega)]
  have e2 : l.getD j 0 = l[j] := by simp [List.getD, List.getElem?_eq_getElem hj]
  rw [e1, e2]
  exact List.pairwise_iff_getElem.mp hl i j _ _ hij
theorem rise_inj {l : List Nat} (hl : l.Pairwise (· < ·)) {i j : Nat} (hi : i < l.length) (hj : j < l.length) (h : l.getD i 0 = l.getD j 0) : i = j := by
  rcases Nat.lt_trichotomy i j with z | z | z
  · have := rise_lt hl hj z; omega
  · exact z
  · have := rise_lt hl hi z; omega
theorem ixOf_getD {l : List Nat} (hl : l.Pairwise (· < ·)) {i : Nat} (hi : i < l.length) : ixOf (l.getD i 0) l = i := by
  obtain ⟨h1, h2⟩ := ixOf_mem (getD0_mem hi)
  exact rise_inj hl h1 hi h2
theorem ixOf_lt {l : List Nat} (hl : l.Pairwise (· < ·)) {x y : Nat} (hx : x ∈ l) (hy : y ∈ l) (h : x < y) : ixOf x l < ixOf y l := by
  obtain ⟨h1, h2⟩ := ixOf_mem hx
  obtain ⟨h3, h4⟩ := ixOf_mem hy
  rcases Nat.lt_trichotomy (ixOf x l) (ixOf y l) with z | z | z
  · exact z
  · rw [z, h4] at h2; omega
  · have := rise_lt hl h1 z; omega
/-! ### lean worlds -/
def leanW (w : Wld) : Wld := let K := keptL w; ⟨K.length, (w.a.filter K.contains).map (ixOf · K), (w.b.filter K.contains).map (ixOf · K), (w.r.filter fun p => K.contains p.1 && K.contains p.2).map fun p => (ixOf p.1 K, ixOf p.2 K)⟩
theorem lean_mark {K l : List Nat} (hK : K.Pairwise (· < ·)) {i : Nat} (hi : i < K.length) : ((l.filter K.contains).map (ixOf · K)).contains i = l.contains (K.getD i 0) := by
  rw [Bool.eq_iff_iff, List.contains_iff_mem, List.contains_iff_mem, List.mem_map]
  constructor
  · rintro ⟨x, hx, rfl⟩
    obtain ⟨h1, h2⟩ := List.mem_filter.mp hx
    rw [(ixOf_mem (List.contains_iff_mem.mp h2)).2]
    exact h1
  · intro h
    exact ⟨_, List.mem_filter.mpr ⟨h, List.contains_iff_mem.mpr (getD0_mem hi)⟩, ixOf_getD hK hi⟩
theorem lean_arr {K : List Nat} {l : List (Nat × Nat)} (hK : K.Pairwise (· < ·)) {i j : Nat} (hi : i < K.length) (hj : j < K.length) : ((l.filter fun p => K.contains p.1 && K.contains p.2).map fun p => (ixOf p.1 K, ixOf p.2 K)).contains (i, j) = l.contains (K.getD i 0, K.getD j 0) := by
  rw [Bool.eq_iff_iff, List.contains_iff_mem, List.contains_iff_mem, List.mem_map]
  constructor
  · rintro ⟨⟨x, y⟩, hx, e⟩
    obtain ⟨h1, h2⟩ := List.mem_filter.mp hx
    rw [Bool.and_eq_true, List.contains_iff_mem, List.contains_iff_mem] at h2
    obtain ⟨e1, e2⟩ := Prod.mk.inj e
    rw [← e1, ← e2, (ixOf_mem h2.1).2, (ixOf_mem h2.2).2]
    exact h1
  · intro h
    refine ⟨_, List.mem_filter.mpr ⟨h, ?_⟩, Prod.ext (ixOf_getD hK hi) (ixOf_getD hK hj)⟩
    rw [Bool.and_eq_true, List.contains_iff_mem, List.contains_iff_mem]
    exact ⟨getD0_mem hi, getD0_mem hj⟩
theorem kept_at {w : Wld} {i : Nat} (hi : i < (keptL w).length) : (keptL w).getD i 0 < w.n ∧ fst w ((keptL w).getD i 0) = true := mem_kept.mp (getD0_mem hi)
/-- a world and the lean one -/
theorem bis_lean {w : Wld} (o : OW w) : Bis (fun x i => Al w x ((keptL w).getD i 0)) w (leanW w) := by
  have hK := kept_rise w
  refine ⟨fun x hx => ?_, fun i hi => ?_, fun x i hx hi r => ?_, fun x i hx hi r => ?_, fun x i y j hx hi hy hj r s => ?_⟩
  · obtain ⟨j, h1, h2, h3⟩ := ex_fst w x
    obtain ⟨h4, h5⟩ := ixOf_mem (mem_kept.mpr ⟨by omega, h2⟩)
    exact ⟨_, h4, by rw [h5]; exact h3⟩
  · obtain ⟨h1, h2⟩ := kept_at hi
    exact ⟨_, h1, Al.refl _ _⟩
  · show _ = ((w.a.filter (keptL w).contains).map (ixOf · (keptL w))).contains i
    rw [lean_mark hK hi]; exact r.a
  · show _ = ((w.b.filter (keptL w).contains).map (ixOf · (keptL w))).contains i
    rw [lean_mark hK hi]; exact r.b
  · show _ = ((w.r.filter fun p => (keptL w).contains p.1 && (keptL w).contains p.2).map fun p => (ixOf p.1 (keptL w), ixOf p.2 (keptL w))).contains (i, j)
    rw [lean_arr hK hi hj]
    exact (r.l y hy).trans (s.r _ (kept_at hi).1)
/-- in a lean world no two are alike -/
theorem lean_apart {w : Wld} (o : OW w) {i j : Nat} (hi : i < (leanW w).n) (hj : j < (leanW w).n) (h : Al (leanW w) i j) : i = j := by
  have B := bis_lean o
  have hK := kept_rise w
  obtain ⟨i1, i2⟩ := kept_at hi
  obtain ⟨j1, j2⟩ := kept_at hj
  refine rise_inj hK hi hj (fst_eq i2 j2 ⟨?_, ?_, fun k hk => ?_, fun k hk => ?_⟩)
  · exact (B.a _ i i1 hi (Al.refl _ _)).trans (h.a.trans (B.a _ j j1 hj (Al.refl _ _)).symm)
  · exact (B.b _ i i1 hi (Al.refl _ _)).trans (h.b.trans (B.b _ j j1 hj (Al.refl _ _)).symm)
  · obtain ⟨m, hm, rm⟩ := B.l k hk
    exact (B.t _ i _ m i1 hi hk hm (Al.refl _ _) rm).trans ((h.l m hm).trans (B.t _ j _ m j1 hj hk hm (Al.refl _ _) rm).symm)
  · obtain ⟨m, hm, rm⟩ := B.l k hk
    exact (B.t _ m _ i hk hm i1 hi rm (Al.refl _ _)).trans ((h.r m hm).trans (B.t _ m _ j hk hm j1 hj rm (Al.refl _ _)).symm)
theorem map_rise {K l : List Nat} (hK : K.Pairwise (· < ·)) (hl : l.Pairwise (· < ·)) : ((l.filter K.contains).map (ixOf · K)).Pairwise (· < ·) := by
  rw [List.pairwise_map]
  refine List.Pairwise.imp_of_mem (fun {a b} ha hb h => ?_) (hl.filter _)
  exact ixOf_lt hK (List.contains_iff_mem.mp (List.mem_filter.mp ha).2) (List.contains_iff_mem.mp (List.mem_filter.mp hb).2) h
theorem mapP_rise {K : List Nat} {l : List (Nat × Nat)} (hK : K.Pairwise (· < ·)) (hl : l.Pairwise lexL) : ((l.filter fun p => K.contains p.1 && K.contains p.2).map fun p => (ixOf p.1 K, ixOf p.2 K)).Pairwise lexL := by
  rw [List.pairwise_map]
  refine List.Pairwise.imp_of_mem (fun {a b} ha hb h => ?_) (hl.filter _)
  have ha := (List.mem_filter.mp ha).2
  have hb := (List.mem_filter.mp hb).2
  rw [Bool.and_eq_true, List.contains_iff_mem, List.contains_iff_mem] at ha hb
  rcases h with h | ⟨h1, h2⟩
  · exact .inl (ixOf_lt hK ha.1 hb.1 h)
  · refine .inr ⟨by rw [h1], ixOf_lt hK ha.2 hb.2 h2⟩
theorem kept_pos {w : Wld} (o : OW w) : 1 ≤ (keptL w).length := by
  have : 0 ∈ keptL w := mem_kept.mpr ⟨o.pos, rfl⟩
  exact List.length_pos_of_mem this
theorem lean_ow {w : Wld} (o : OW w) : OW (leanW w) := by
  have hK := kept_rise w
  refine ⟨kept_pos o, map_rise hK o.a, map_rise hK o.b, mapP_rise hK o.r, ⟨fun k hk => ?_, fun k hk => ?_, fun p hp => ?_⟩⟩
  · obtain ⟨x, hx, rfl⟩ := List.mem_map.mp hk
    exact (ixOf_mem (List.contains_iff_mem.mp (List.mem_filter.mp hx).2)).1
  · obtain ⟨x, hx, rfl⟩ := List.mem_map.mp hk
    exact (ixOf_mem (List.contains_iff_mem.mp (List.mem_filter.mp hx).2)).1
  · obtain ⟨x, hx, rfl⟩ := List.mem_map.mp hp
    have h := (List.mem_filter.mp hx).2
    rw [Bool.and_eq_true, List.contains_iff_mem, List.contains_iff_mem] at h
    exact ⟨(ixOf_mem h.1).1, (ixOf_mem h.2).1⟩
theorem ix_range {m x : Nat} (h : x < m) : ixOf x (List.range m) = x := by
  have e : (List.range m).getD x 0 = x := by simp [List.getD, h]
  have := ixOf_getD (l := List.range m) (lt_range m) (i := x) (by rw [List.length_range]; exact h)
  rw [e] at this
  exact this
/-- a lean world is lean -/
theorem lean_lean {w : Wld} (o : OW w) : leanW (leanW w) = leanW w := by
  have ol := lean_ow o
  have hk : keptL (leanW w) = List.range (leanW w).n := by
    unfold keptL
    rw [List.filter_eq_self]
    intro k hk
    have hk := List.mem_range.mp hk
    rw [fst_iff]
    intro j hj h
    have := lean_apart o hk (by omega) h
    omega
  generalize leanW w = L at *
  have hc : ∀ l : List Nat, (∀ k ∈ l, k < L.n) → (l.filter (List.range L.n).contains).map (ixOf · (List.range L.n)) = l := fun l hl => by
    rw [List.filter_eq_self.mpr fun k hk => List.contains_iff_mem.mpr (List.mem_range.mpr (hl k hk))]
    conv => rhs; rw [← List.map_id l]
    exact List.map_congr_left fun k hk => ix_range (hl k hk)
  have hp : (L.r.filter fun p => (List.range L.n).contains p.1 && (List.range L.n).contains p.2).map (fun p => (ixOf p.1 (List.range L.n), ixOf p.2 (List.range L.n))) = L.r := by
    rw [List.filter_eq_self.mpr fun p hp => by rw [Bool.and_eq_true, List.contains_iff_mem, List.contains_iff_mem, List.mem_range, List.mem_range]; exact ol.wi.r p hp]
    conv => rhs; rw [← List.map_id L.r]
    exact List.map_congr_left fun p hp => Prod.ext (ix_range (ol.wi.r p hp).1) (ix_range (ol.wi.r p hp).2)
  unfold leanW
  rw [hk]
  show (⟨(List.range L.n).length, _, _, _⟩ : Wld) = L
  rw [List.length_range]
  have h1 := hc L.a ol.wi.a
  have h2 := hc L.b ol.wi.b
  rw [h1, h2, hp]
/-! ### doubled -/
theorem dbl_a {m : Nat} {w : Wld} (g : GoodW m w) {k : Nat} (hk : k < 2 * w.n) : (doubledW w).a.contains k = w.a.contains (k % w.n) := by
  obtain ⟨p, h⟩ := g.a
  show (w.a ++ w.a.map (· + w.n)).contains k = _
  rw [← dbl_marks h, Bool.eq_iff_iff, List.contains_iff_mem, List.mem_filter, List.mem_range]
  exact ⟨fun z => z.2, fun z => ⟨hk, z⟩⟩
theorem dbl_b {m : Nat} {w : Wld} (g : GoodW m w) {k : Nat} (hk : k < 2 * w.n) : (doubledW w).b.contains k = w.b.contains (k % w.n) := by
  obtain ⟨p, h⟩ := g.b
  show (w.b ++ w.b.map (· + w.n)).contains k = _
  rw [← dbl_marks h, Bool.eq_iff_iff, List.contains_iff_mem, List.mem_filter, List.mem_range]
  exact ⟨fun z => z.2, fun z => ⟨hk, z⟩⟩
theorem dbl_r {m : Nat} {w : Wld} (g : GoodW m w) {i j : Nat} (hi : i < 2 * w.n) (hj : j < 2 * w.n) : (doubledW w).r.contains (i, j) = w.r.contains (i % w.n, j % w.n) := by
  show ((w.r.flatMap (four w.n)).mergeSort leP).contains (i, j) = _
  rw [dbl_arrows (n := m) g, Bool.eq_iff_iff, List.contains_iff_mem]
  unfold dueL
  rw [List.mem_flatMap]
  constructor
  · rintro ⟨x, hx, h⟩
    obtain ⟨y, hy, e⟩ := List.mem_map.mp h
    obtain ⟨e1, e2⟩ := Prod.mk.inj e
    subst e1; subst e2
    exact (List.mem_filter.mp hy).2
  · intro h
    exact ⟨i, List.mem_range.mpr hi, List.mem_map.mpr ⟨j, List.mem_filter.mpr ⟨List.mem_range.mpr hj, h⟩, rfl⟩⟩
theorem bis_dbl {m : Nat} {w : Wld} (g : GoodW m w) : Bis (fun x y => y % w.n = x) w (doubledW w) := by
  have hp : 0 < w.n := g.pos
  refine ⟨fun x hx => ⟨x, by show x < 2 * w.n; omega, Nat.mod_eq_of_lt hx⟩, fun y hy => ⟨y % w.n, Nat.mod_lt _ hp, rfl⟩, fun x y hx hy r => ?_, fun x y hx hy r => ?_, fun x y x' y' hx hy hx' hy' r r' => ?_⟩
  · rw [dbl_a g hy, r]
  · rw [dbl_b g hy, r]
  · rw [dbl_r g hy hy', r, r']
theorem al_dbl {m : Nat} {w : Wld} (g : GoodW m w) {i j : Nat} (hi : i < 2 * w.n) (hj : j < 2 * w.n) : Al (doubledW w) i j ↔ Al w (i % w.n) (j % w.n) := by
  have hp : 0 < w.n := g.pos
  constructor
  · intro h
    refine ⟨?_, ?_, fun k hk => ?_, fun k hk => ?_⟩
    · rw [← dbl_a g hi, ← dbl_a g hj]; exact h.a
    · rw [← dbl_b g hi, ← dbl_b g hj]; exact h.b
    · have hk2 : k < 2 * w.n := by omega
      have := h.l k hk2
      rw [dbl_r g hi hk2, dbl_r g hj hk2, Nat.mod_eq_of_lt hk] at this
      exact this
    · have hk2 : k < 2 * w.n := by omega
      have := h.r k hk2
      rw [dbl_r g hk2 hi, dbl_r g hk2 hj, Nat.mod_eq_of_lt hk] at this
      exact this
  · intro h
    refine ⟨?_, ?_, fun k hk => ?_, fun k hk => ?_⟩
    · rw [dbl_a g hi, dbl_a g hj]; exact h.a
    · rw [dbl_b g hi, dbl_b g hj]; exact h.b
    · have hk : k < 2 * w.n := hk
      rw [dbl_r g hi hk, dbl_r g hj hk]; exact h.l _ (Nat.mod_lt _ hp)
    · have hk : k < 2 * w.n := hk
      rw [dbl_r g hk hi, dbl_r g hk hj]; exact h.r _ (Nat.mod_lt _ hp)
theorem kept_dbl {m : Nat} {w : Wld} (g : GoodW m w) : keptL (doubledW w) = keptL w := by
  have hp : 0 < w.n := g.pos
  refine rise_ext (kept_rise _) (kept_rise _) fun k => ?_
  rw [mem_kept, mem_kept, fst_iff, fst_iff]
  constructor
  · rintro ⟨h1, h2⟩
    have h1 : k < 2 * w.n := h1
    by_cases c : k < w.n
    · refine ⟨c, fun j hj h => h2 j hj ((al_dbl g h1 (by omega)).mpr ?_)⟩
      rw [Nat.mod_eq_of_lt c, Nat.mod_eq_of_lt (by omega)]; exact h
    · refine absurd ((al_dbl g h1 (by omega)).mpr ?_) (h2 (k - w.n) (by omega))
      have e : k % w.n = (k - w.n) % w.n := Nat.mod_eq_sub_mod (by omega)
      rw [e]; exact Al.refl _ _
  · rintro ⟨h1, h2⟩
    refine ⟨by show k < 2 * w.n; omega, fun j hj h => h2 j hj ?_⟩
    have := (al_dbl g (i := k) (j := j) (by omega) (by omega)).mp h
    rw [Nat.mod_eq_of_lt h1, Nat.mod_eq_of_lt (by omega)] at this
    exact this
theorem lean_dbl {m : Nat} {w : Wld} (g : GoodW m w) : leanW (doubledW w) = leanW w := by
  have od := g.dbl.ow
  have o := g.ow
  unfold leanW
  rw [kept_dbl g]
  have hk : ∀ k ∈ keptL w, k < w.n := fun k hk => (mem_kept.mp hk).1
  have ha : (doubledW w).a.filter (keptL w).contains = w.a.filter (keptL w).contains := by
    refine rise_ext (od.a.filter _) (o.a.filter _) fun k => ?_
    rw [List.mem_filter, List.mem_filter, List.contains_iff_mem]
    refine and_congr_left fun h => ?_
    have h1 := hk k h
    have := dbl_a g (k := k) (by omega)
    rw [Nat.mod_eq_of_lt h1, Bool.eq_iff_iff, List.contains_iff_mem, List.contains_iff_mem] at this
    exact this
  have hb : (doubledW w).b.filter (keptL w).contains = w.b.filter (keptL w).contains := by
    refine rise_ext (od.b.filter _) (o.b.filter _) fun k => ?_
    rw [List.mem_filter, List.mem_filter, List.contains_iff_mem]
    refine and_congr_left fun h => ?_
    have h1 := hk k h
    have := dbl_b g (k := k) (by omega)
    rw [Nat.mod_eq_of_lt h1, Bool.eq_iff_iff, List.contains_iff_mem, List.contains_iff_mem] at this
    exact this
  have hr : ((doubledW w).r.filter fun p => (keptL w).contains p.1 && (keptL w).contains p.2) = w.r.filter fun p => (keptL w).contains p.1 && (keptL w).contains p.2 := by
    refine riseP_ext (od.r.filter _) (o.r.filter _) fun p => ?_
    rw [List.mem_filter, List.mem_filter, Bool.and_eq_true, List.contains_iff_mem, List.contains_iff_mem]
    refine and_congr_left fun h => ?_
    have h1 := hk _ h.1
    have h2 := hk _ h.2
    have := dbl_r g (i := p.1) (j := p.2) (by omega) (by omega)
    rw [Nat.mod_eq_of_lt h1, Nat.mod_eq_of_lt h2, Bool.eq_iff_iff, List.contains_iff_mem, List.contains_iff_mem] at this
    exact this
  show (⟨_, ((doubledW w).a.filter (keptL w).contains).map _, ((doubledW w).b.filter (keptL w).contains).map _, ((doubledW w).r.filter fun p => (keptL w).contains p.1 && (keptL w).contains p.2).map _⟩ : Wld) = _
  rw [ha, hb, hr]
/-! ### other numbers -/
theorem bis_shuffled {w : Wld} {ns : List Nat} (wi : Within w w.n) (hp : ns.Perm (List.range w.n)) : Bis (fun x y => ns.getD x 0 = y) w (shuffledW w ns) := by
  have hl : ns.length = w.n := by rw [hp.length_eq, List.length_range]
  have nd : ns.Nodup := hp.nodup_iff.mpr ((lt_range _).imp fun {a b} h e => by omega)
  have inj : ∀ x y, x < w.n → y < w.n → ns.getD x 0 = ns.getD y 0 → x = y := fun x y hx hy h => by
    have e1 : ns.getD x 0 = ns[x]'(by omega) := by simp [List.getD, List.getElem?_eq_getElem (show x < ns.length by omega)]
    have e2 : ns.getD y 0 = ns[y]'(by omega) := by simp [List.getD, List.getElem?_eq_getElem (show y < ns.length by omega)]
    rw [e1, e2] at h
    exact (List.getElem_inj nd).mp h
  have mk : ∀ (l : List Nat) x, (∀ k ∈ l, k < w.n) → x < w.n → ((l.map fun k => ns.getD k 0).mergeSort leN).contains (ns.getD x 0) = l.contains x := fun l x hl hx => by
    rw [Bool.eq_iff_iff, List.contains_iff_mem, List.contains_iff_mem, List.mem_mergeSort, List.mem_map]
    constructor
    · rintro ⟨k, hk, e⟩
      rw [inj k x (hl k hk) hx e] at hk
      exact hk
    · exact fun h => ⟨x, h, rfl⟩
  refine ⟨fun x hx => ⟨_, ?_, rfl⟩, fun y hy => ?_, fun x y hx hy r => ?_, fun x y hx hy r => ?_, fun x y x' y' hx hy hx' hy' r r' => ?_⟩
  · have := hp.mem_iff.mp (getD0_mem (l := ns) (i := x) (by omega))
    exact List.mem_range.mp this
  · have hy : y < w.n := hy
    have := hp.mem_iff.mpr (List.mem_range.mpr hy)
    obtain ⟨h1, h2⟩ := ixOf_mem this
    exact ⟨_, by omega, h2⟩
  · subst r
    exact (mk w.a x wi.a hx).symm
  · subst r
    exact (mk w.b x wi.b hx).symm
  · subst r; subst r'
    show _ = ((w.r.map (nmP ns)).mergeSort leP).contains _
    rw [Bool.eq_iff_iff, List.contains_iff_mem, List.contains_iff_mem, List.mem_mergeSort, List.mem_map]
    constructor
    · exact fun h => ⟨_, h, rfl⟩
    · rintro ⟨p, hp, e⟩
      obtain ⟨e1, e2⟩ := Prod.mk.inj e
      have h1 := inj _ _ (wi.r p hp).1 hx e1
      have h2 := inj _ _ (wi.r p hp).2 hx' e2
      have : p = (x, x') := Prod.ext h1 h2
      rw [this] at hp
      exact hp
end Ev

/-! PvA: alike, lean_world as run. -/
namespace Ev
open PySem
theorem ne_bb (x y : Bool) : copD .ne (.bool x) (.bool y) = some (.bool (x != y)) := by
  rw [copD_ne (eqOk_bool_r _ _)]
  cases x <;> cases y <;> simp [PyData.eqv]
theorem in_iNL (x : Nat) (l : List Nat) : copD .isin (iN x) (.list (l.map iN)) = some (.bool (l.contains x)) := by
  rw [copD_in_l (inOk_le (by simp [PyData.depth, iN])), any_iN]
theorem index_iN {k : Nat} : ∀ {K : List Nat}, k ∈ K → idxD (.list (K.map iN)) (iN k) = some (iN (ixOf k K)) := by
  intro K hk
  have e : ∀ {K : List Nat}, k ∈ K → indexD (iN k) (K.map iN) = some (ixOf k K) := by
    intro K
    induction K with
    | nil => intro h; cases h
    | cons x l ih =>
      intro h
      rw [List.map_cons, indexD, ixOf]
      by_cases c : x = k
      · subst c; rw [if_pos (by simp [iN]), if_pos rfl]
      · rw [if_neg (by simp [iN]; omega), if_neg c, ih ((List.mem_cons.mp h).resolve_left (fun z => c z.symm))]
        rfl
  show (if inOk (K.map iN) (iN k) then (indexD (iN k) (K.map iN)).map fun (j : Nat) => PyData.int (j : Int) else none) = _
  rw [if_pos (inOk_le (by simp [PyData.depth, iN])), e hk]
  rfl
structure Alk (T : Tab) : Prop where
  alike : Has T 52 3 5 b_are_alike
structure Lean (T : Tab) : Prop extends Alk T where
  lean : Has T 53 1 9 b_lean_world
structure LAlk (T : Tab) : Prop where
  alike : Has T 54 3 5 b_law_alike
theorem cut12 (w : Wld) : slD w.enc (some 1) (some 3) = some (.tuple [.tuple (w.a.map iN), .tuple (w.b.map iN)]) := by
  rw [show w.enc = .tuple [iN w.n, .tuple (w.a.map iN), .tuple (w.b.map iN), .tuple (w.r.map pr2)] from rfl, slD_t]; simp
section
variable {T : Tab} (run : Nat → List PyData → Option PyData)
/-- a look at one kind of marks -/
theorem alk_f0 (b : QSs) (hb : b = b_are_alike_f0 ∨ b = b_law_alike_f0) (W : PyData) (i j : Nat) (l : List Nat) (s4 : Sl) : evSs T.G run b [.val W, .val (iN i), .val (iN j), .val (.tuple (l.map iN)), s4] =
    if l.contains i == l.contains j then some (.nx [.val W, .val (iN i), .val (iN j), .val (.tuple (l.map iN)), s4]) else some (.rt (.bool false)) := by
  have h1 := in_iN i l
  have h2 := in_iN j l
  have h3 := ne_bb (l.contains i) (l.contains j)
  generalize l.contains i = x at *
  generalize l.contains j = y at *
  generalize l.map iN = L at *
  generalize iN i = I at *
  generalize iN j = J at *
  rcases hb with rfl | rfl
  · cases x <;> cases y <;> simp [b_are_alike_f0, h1, h2, h3]
  · cases x <;> cases y <;> simp [b_law_alike_f0, h1, h2, h3]
/-- a look at one thing's arrows -/
theorem alk_f1 (b : QSs) (hb : b = b_are_alike_f1 ∨ b = b_law_alike_f1) (w : Wld) (i j k : Nat) (s3 : Sl) : evSs T.G run b [.val w.enc, .val (iN i), .val (iN j), s3, .val (iN k)] =
    if (w.r.contains (i, k) == w.r.contains (j, k)) && (w.r.contains (k, i) == w.r.contains (k, j)) then some (.nx [.val w.enc, .val (iN i), .val (iN j), s3, .val (iN k)]) else some (.rt (.bool false)) := by
  have h0 := (wix w).2.2.2
  have h1 := in_pr2' i k w.r
  have h2 := in_pr2' j k w.r
  have h3 := in_pr2' k i w.r
  have h4 := in_pr2' k j w.r
  have n1 := ne_bb (w.r.contains (i, k)) (w.r.contains (j, k))
  have n2 := ne_bb (w.r.contains (k, i)) (w.r.contains (k, j))
  generalize w.r.contains (i, k) = x1 at *
  generalize w.r.contains (j, k) = x2 at *
  generalize w.r.contains (k, i) = x3 at *
  generalize w.r.contains (k, j) = x4 at *
  generalize w.r.map pr2 = R at *
  generalize w.enc = W at *
  generalize iN i = I at *
  generalize iN j = J at *
  generalize iN k = K at *
  rcases hb with rfl | rfl
  · cases x1 <;> cases x2 <;> cases x3 <;> cases x4 <;> simp [b_are_alike_f1, h0, h1, h2, h3, h4, n1, n2]
  · cases x1 <;> cases x2 <;> cases x3 <;> cases x4 <;> simp [b_law_alike_f1, h0, h1, h2, h3, h4, n1, n2]
theorem find_not_none {p : Nat → Bool} {l : List Nat} (h : l.find? (fun k => !p k) = none) : l.all p = true := by
  rw [List.all_eq_true]
  intro x hx
  have := List.find?_eq_none.mp h x hx
  simpa using this
theorem find_not_some {p : Nat → Bool} {l : List Nat} {x : Nat} (h : l.find? (fun k => !p k) = some x) : l.all p = false := by
  rw [List.all_eq_false]
  refine ⟨x, List.mem_of_find?_eq_some h, ?_⟩
  have := List.find?_some h
  simpa using this
theorem run_alk {fid : Nat} {f0 f1 b : QSs} (hb : Has T fid 3 5 b) (h : b = .cons (.for [] (.nm 3) (.seq (.slc (.var 0) (.lit (.int 1)) (.lit (.int 3)))) f0) (.cons (.for [] (.nm 4) (.rng1 (.ix (.var 0) (.lit (.int 0)))) f1) (.cons (.ret [] (.lit (.bool true))) (.nil))))
    (h0 : f0 = b_are_alike_f0 ∨ f0 = b_law_alike_f0) (h1 : f1 = b_are_alike_f1 ∨ f1 = b_law_alike_f1) (n : Nat) (w : Wld) (hw : w.n ≤ 900000) (i j : Nat) : T.run (n + 1) fid [w.enc, iN i, iN j] = some (.bool (al w i j)) := by
  subst h
  rw [run_succ hb n _ rfl]
  have er := erange w (by omega)
  have w0 := (wix w).1
  have sl := cut12 w
  have e0 := fun (l : List Nat) => alk_f0 (T := T) (T.run n) f0 h0 w.enc i j l .un
  have a1 := e0 w.a
  have a2 := e0 w.b
  have hst : startR 5 [w.enc, iN i, iN j] = [.val w.enc, .val (iN i), .val (iN j), .un, .un] := rfl
  rw [hst]
  have loop1 : loopD T.G (T.run n) (.nm 3) f0 [.val w.enc, .val (iN i), .val (iN j), .un, .un] [.tuple (w.a.map iN), .tuple (w.b.map iN)] =
      if (w.a.contains i == w.a.contains j) && (w.b.contains i == w.b.contains j) then some (.nx [.val w.enc, .val (iN i), .val (iN j), .val (.tuple (w.b.map iN)), .un]) else some (.rt (.bool false)) := by
    rw [loopD_cons]
    simp only [asg_nm, List.set, Option.bind_some, a1]
    cases (w.a.contains i == w.a.contains j)
    · rfl
    · rw [if_pos rfl, Option.bind_some, loopK_nx, loopD_cons]
      simp only [asg_nm, List.set, Option.bind_some, a2]
      cases (w.b.contains i == w.b.contains j) <;> rfl
  have loop2 := loopD_find T.G (T.run n) (tg := .nm 4) (b := f1) iN (fun k => !((w.r.contains (i, k) == w.r.contains (j, k)) && (w.r.contains (k, i) == w.r.contains (k, j)))) (fun _ => .bool false)
    (fun ρ => ∃ s4, ρ = [.val w.enc, .val (iN i), .val (iN j), .val (.tuple (w.b.map iN)), s4]) (List.range w.n) (fun k ρ _ ⟨s4, e⟩ => by
      subst e
      refine ⟨[.val w.enc, .val (iN i), .val (iN j), .val (.tuple (w.b.map iN)), .val (iN k)], rfl, ?_⟩
      rw [alk_f1 (T := T) (T.run n) f1 h1 w i j k]
      cases ((w.r.contains (i, k) == w.r.contains (j, k)) && (w.r.contains (k, i) == w.r.contains (k, j)))
      · exact .inl ⟨rfl, rfl⟩
      · exact .inr ⟨rfl, _, rfl, _, rfl⟩) _ ⟨.un, rfl⟩
  rw [evSs_cons, evS_for]
  simp only [frzs_nil, evI_seqF, evE_slc, evE_var, evE_lit, getV_0, bor_0v, ap3_some, slP_lit, sl, Option.bind_some, seqD_t, loop1]
  unfold al
  cases hc : ((w.a.contains i == w.a.contains j) && (w.b.contains i == w.b.contains j))
  · rfl
  · rw [if_pos rfl, Option.bind_some, cont_nx, evSs_cons, evS_for]
    simp only [frzs_nil, evI_rng1, evE_ix, evE_var, evE_lit, getV_0, bor_0v, ap2_some, w0, Option.bind_some, er]
    rcases loop2 with ⟨k, f, l⟩ | ⟨f, ρ', l, s4, rfl⟩
    · rw [l, find_not_some f]
      rfl
    · rw [l, find_not_none f]
      simp
theorem run_alike (W : Alk T) (n : Nat) (w : Wld) (hw : w.n ≤ 900000) (i j : Nat) : T.run (n + 1) 52 [w.enc, iN i, iN j] = some (.bool (al w i j)) := run_alk W.alike rfl (.inl rfl) (.inl rfl) n w hw i j
theorem run_lalike (W : LAlk T) (n : Nat) (w : Wld) (hw : w.n ≤ 900000) (i j : Nat) : T.run (n + 1) 54 [w.enc, iN i, iN j] = some (.bool (al w i j)) := run_alk W.alike rfl (.inr rfl) (.inr rfl) n w hw i j
theorem range_pre {n x : Nat} {pre post : List Nat} (h : List.range n = pre ++ x :: post) : pre = List.range x ∧ x < n := by
  have hl := congrArg List.length h
  rw [List.length_range, List.length_append, List.length_cons] at hl
  have h1 : pre = List.range pre.length := by
    have := congrArg (List.take pre.length) h
    rw [List.take_left', List.take_range] at this
    · rw [Nat.min_eq_left (by omega)] at this; exact this.symm
    · rfl
  have h2 : x = pre.length := by
    have this : (List.range n)[pre.length]? = (pre ++ x :: post)[pre.length]? := by rw [h]
    rw [List.getElem?_range (by omega), List.getElem?_append_right (Nat.le_refl _), Nat.sub_self] at this
    simpa using this.symm
  rw [h2]
  exact ⟨h1, by omega⟩
/-- tuple([kept.index(k) for k in some if k in kept]) -/
theorem cs_kept {i j : Nat} {ρ : Rho} {K : List Nat} (hi : i < ρ.length) (hij : i ≠ j) (hj : ρ[j]? = some (.own (K.map iN)) ∨ ρ[j]? = some (.val (.list (K.map iN)))) (l : List Nat) :
    compD T.G run (.nm i) (.index (.var j) (.var i)) (.cmp .isin (.var i) (.var j)) ρ (l.map iN) = some (((l.filter K.contains).map (ixOf · K)).map iN) := by
  rw [List.map_map]
  have hb : ∀ k, bor (.var j) (ρ.set i (.val (iN k))) (getV j (ρ.set i (.val (iN k)))) = some (.list (K.map iN)) := fun k => by
    rcases hj with hj | hj <;> simp [bor, getV, List.getElem?_set_ne hij, hj]
  have h1 : ∀ k, getV i (ρ.set i (.val (iN k))) = some (iN k) := fun k => by simp [getV, List.getElem?_set_self hi]
  have h2 : ∀ k, bor (.var i) (ρ.set i (.val (iN k))) (getV i (ρ.set i (.val (iN k)))) = some (iN k) := fun k => by simp [bor, getV, List.getElem?_set_self hi]
  refine compD_code _ _ iN K.contains (fun k => iN (ixOf k K)) l fun k hk => ⟨_, rfl, ?_, fun hc => ?_⟩
  · rw [evE_cmp, evE_var, evE_var, hb, h2, ap2_some, in_iNL]; rfl
  · rw [evE_index, evE_var, evE_var, hb, h1, ap2_some, index_iN (List.contains_iff_mem.mp hc)]
theorem cp_kept {i i' j : Nat} {ρ : Rho} {K : List Nat} (hi : i < ρ.length) (hi' : i' < ρ.length) (hii : i ≠ i') (hij : i ≠ j) (hij' : i' ≠ j) (hj : ρ[j]? = some (.own (K.map iN)) ∨ ρ[j]? = some (.val (.list (K.map iN)))) (l : List (Nat × Nat)) :
    compD T.G run (.tp [i, i']) (.tup (.cons (.index (.var j) (.var i)) (.cons (.index (.var j) (.var i')) (.nil)))) (.and (.cmp .isin (.var i) (.var j)) (.cmp .isin (.var i') (.var j))) ρ (l.map pr2) = some (((l.filter fun p => K.contains p.1 && K.contains p.2).map fun p => (ixOf p.1 K, ixOf p.2 K)).map pr2) := by
  rw [List.map_map]
  have hb : ∀ p : Nat × Nat, bor (.var j) ((ρ.set i (.val (iN p.1))).set i' (.val (iN p.2))) (getV j ((ρ.set i (.val (iN p.1))).set i' (.val (iN p.2)))) = some (.list (K.map iN)) := fun p => by
    rcases hj with hj | hj <;> simp [bor, getV, List.getElem?_set_ne hij, List.getElem?_set_ne hij', hj]
  have h1 : ∀ p : Nat × Nat, getV i ((ρ.set i (.val (iN p.1))).set i' (.val (iN p.2))) = some (iN p.1) := fun p => by simp [getV, List.getElem?_set_ne (Ne.symm hii), List.getElem?_set_self hi]
  have hl : ∀ p : Nat × Nat, i' < (ρ.set i (.val (iN p.1))).length := fun p => by simpa using hi'
  have h2 : ∀ p : Nat × Nat, getV i' ((ρ.set i (.val (iN p.1))).set i' (.val (iN p.2))) = some (iN p.2) := fun p => by simp [getV, List.getElem?_set_self (hl p)]
  have h3 : ∀ p : Nat × Nat, bor (.var i) ((ρ.set i (.val (iN p.1))).set i' (.val (iN p.2))) (some (iN p.1)) = some (iN p.1) := fun p => by simp [bor, List.getElem?_set_ne (Ne.symm hii), List.getElem?_set_self hi]
  have h4 : ∀ p : Nat × Nat, bor (.var i') ((ρ.set i (.val (iN p.1))).set i' (.val (iN p.2))) (some (iN p.2)) = some (iN p.2) := fun p => by simp [bor, List.getElem?_set_self (hl p)]
  refine compD_code _ _ pr2 (fun p => K.contains p.1 && K.contains p.2) (fun p => pr2 (ixOf p.1 K, ixOf p.2 K)) l fun p hp => ⟨(ρ.set i (.val (iN p.1))).set i' (.val (iN p.2)), rfl, ?_, fun hc => ?_⟩
  · rw [evE_and, evE_cmp, evE_var, evE_var, h1, h3, hb, ap2_some, in_iNL]
    cases K.contains p.1
    · rfl
    · rw [boolOf_bool, Option.bind_some, andK_t, evE_cmp, evE_var, evE_var, h2, h4, hb, ap2_some, in_iNL]; rfl
  · rw [Bool.and_eq_true, List.contains_iff_mem, List.contains_iff_mem] at hc
    rw [evE_tup, evEs_cons, evEs_cons, evEs_nil, evE_index, evE_index, evE_var, evE_var, evE_var, hb, h1, h2, ap2_some, ap2_some, index_iN hc.1, index_iN hc.2]
    simp [pr2]
theorem run_lean (W : Lean T) (n : Nat) (w : Wld) (hw : w.n ≤ 900000) : T.run (n + 2) 53 [w.enc] = some (leanW w).enc := by
  have er := erange w (by omega)
  obtain ⟨w0, w1, w2, w3⟩ := wix w
  have sl := cut12 w
  have loop : ∃ ρ', loopD T.G (T.run (n + 1)) (.nm 2) b_lean_world_f0 [.val w.enc, .own [], .un, .un, .un, .un, .un, .un, .un] ((List.range w.n).map iN) = some (.nx ρ') ∧ ∃ s2 s3, ρ' = [.val w.enc, .own ((keptL w).map iN), s2, s3, .un, .un, .un, .un, .un] := by
    refine loopD_inv _ _ iN (fun pre ρ => ∃ s2 s3, ρ = [.val w.enc, .own ((pre.filter (fst w)).map iN), s2, s3, .un, .un, .un, .un, .un]) _ ?_ _ ⟨.un, .un, rfl⟩
    rintro pre x post ρ hx ⟨s2, s3, rfl⟩
    obtain ⟨rfl, hxn⟩ := range_pre hx
    have hk := any_kept w x
    have hl : ((List.range x).filter (fst w)).length ≤ 900000 := Nat.le_trans (List.length_filter_le _ _) (by rw [List.length_range]; omega)
    have ec : ∀ s3, compD T.G (T.run (n + 1)) (.nm 3) (.call 52 (.cons (.var 0) (.cons (.var 2) (.cons (.var 3) (.nil))))) (.lit (.bool true)) [.val w.enc, .own (((List.range x).filter (fst w)).map iN), .val (iN x), s3, .un, .un, .un, .un, .un] (((List.range x).filter (fst w)).map iN) = some ((((List.range x).filter (fst w)).map (al w x)).map .bool) := by
      intro s3
      rw [List.map_map]
      refine compD_codeM _ _ iN (fun j => .bool (al w x j)) _ fun j _ => ⟨_, rfl, rfl, ?_⟩
      have := run_alike W.toAlk n w hw x j
      simp [this]
    have ha := blt_any_map (((List.range x).filter (fst w)).map (al w x))
    have hany : ((((List.range x).filter (fst w)).map (al w x)).any id) = !fst w x := by rw [List.any_map]; exact hk
    rw [hany] at ha
    have e2 : ((List.range x ++ [x]).filter (fst w)).map iN = ((List.range x).filter (fst w)).map iN ++ (if fst w x then [iN x] else []) := by
      rw [List.filter_append, List.map_append]
      congr 1
      cases h : fst w x <;> simp [h]
    refine ⟨_, [.val w.enc, .own (((List.range x ++ [x]).filter (fst w)).map iN), .val (iN x), s3, .un, .un, .un, .un, .un], rfl, ?_, _, _, rfl⟩
    rw [e2]
    have hset : (([.val w.enc, .own (((List.range x).filter (fst w)).map iN), s2, s3, .un, .un, .un, .un, .un] : Rho).set 2 (.val (iN x))) = [.val w.enc, .own (((List.range x).filter (fst w)).map iN), .val (iN x), s3, .un, .un, .un, .un, .un] := rfl
    rw [hset]
    have ap := ownApp_own (i := 1) (ρ := [.val w.enc, .own (((List.range x).filter (fst w)).map iN), .val (iN x), s3, .un, .un, .un, .un, .un]) (iN x) rfl (by rw [List.length_map]; omega)
    have ec := ec .un
    generalize ((((List.range x).filter (fst w)).map (al w x)).map PyData.bool) = BS at *
    generalize ((List.range x).filter (fst w)).map iN = KL at *
    generalize w.enc = WE at *
    generalize iN x = X at *
    cases h : fst w x
    · rw [h] at ha
      simp [b_lean_world_f0, ec, ha]
    · rw [h] at ha
      simp [b_lean_world_f0, ec, ha, ap]
  obtain ⟨ρ', l, s2, s3, rfl⟩ := loop
  generalize hK : keptL w = K at *
  have c1 : ∀ (t : Sl) (l : List Nat), compD T.G (T.run (n + 1)) (.nm 2) (.index (.var 1) (.var 2)) (.cmp .isin (.var 2) (.var 1)) [.val w.enc, .own (K.map iN), .un, s3, .un, .un, t, .un, .un] (l.map iN) = some (((l.filter K.contains).map (ixOf · K)).map iN) :=
    fun t l => cs_kept _ (by simp) (by decide) (.inl rfl) l
  have c3 : compD T.G (T.run (n + 1)) (.nm 6) (.blt .tuple (.lc [2] (.index (.var 1) (.var 2)) (.nm 2) (.seq (.var 6)) (.cmp .isin (.var 2) (.var 1)))) (.lit (.bool true)) [.val w.enc, .own (K.map iN), s2, s3, .un, .un, .un, .un, .un] [.tuple (w.a.map iN), .tuple (w.b.map iN)] = some [.tuple (((w.a.filter K.contains).map (ixOf · K)).map iN), .tuple (((w.b.filter K.contains).map (ixOf · K)).map iN)] := by
    have a1 := c1 (.val (.tuple (w.a.map iN))) w.a
    have a2 := c1 (.val (.tuple (w.b.map iN))) w.b
    generalize ((w.a.filter K.contains).map (ixOf · K)).map iN = A1 at *
    generalize ((w.b.filter K.contains).map (ixOf · K)).map iN = B1 at *
    generalize w.a.map iN = A0 at *
    generalize w.b.map iN = B0 at *
    generalize K.map iN = KL at *
    generalize w.enc = U at *
    simp [compD_cons, compD_nil, a1, a2]
  have c2 : ∀ t : Sl, compD T.G (T.run (n + 1)) (.tp [7, 8]) (.tup (.cons (.index (.var 1) (.var 7)) (.cons (.index (.var 1) (.var 8)) (.nil)))) (.and (.cmp .isin (.var 7) (.var 1)) (.cmp .isin (.var 8) (.var 1))) [.val w.enc, .own (K.map iN), s2, s3, t, .un, .un, .un, .un] (w.r.map pr2) = some (((w.r.filter fun p => K.contains p.1 && K.contains p.2).map fun p => (ixOf p.1 K, ixOf p.2 K)).map pr2) :=
    fun t => cp_kept _ (by simp) (by simp) (by decide) (by decide) (by decide) (.inl rfl) _
  have eb : (leanW w).enc = .tuple [.int ((K.map iN).length : Int), .tuple (((w.a.filter K.contains).map (ixOf · K)).map iN), .tuple (((w.b.filter K.contains).map (ixOf · K)).map iN), .tuple (((w.r.filter fun p => K.contains p.1 && K.contains p.2).map fun p => (ixOf p.1 K, ixOf p.2 K)).map pr2)] := by
    unfold leanW
    rw [hK, List.length_map]
    rfl
  rw [eb, run_succ W.lean (n + 1) _ rfl]
  clear c1 eb
  generalize ((w.r.filter fun p => K.contains p.1 && K.contains p.2).map fun p => (ixOf p.1 K, ixOf p.2 K)).map pr2 = R1 at *
  generalize ((w.a.filter K.contains).map (ixOf · K)).map iN = A1 at *
  generalize ((w.b.filter K.contains).map (ixOf · K)).map iN = B1 at *
  generalize w.a.map iN = A0 at *
  generalize w.b.map iN = B0 at *
  generalize w.r.map pr2 = R0 at *
  generalize K.map iN = KL at *
  generalize (List.range w.n).map iN = RG at *
  generalize w.enc = U at *
  generalize iN w.n = N0 at *
  simp [b_lean_world, startR, w0, w3, er, l, sl, c3, c2]
end
end Ev

namespace Ev
open PySem PySem.Spec PyProof.Rows L2
def p_doubled : FDef where
  name := "doubled"
  ps := ["world"]
  N := ["world", "many", "arrows", "first", "last", "marked", "some", "k"]
  body := b_doubled
def p_are_alike : FDef where
  name := "are_alike"
  ps := ["world", "one", "other"]
  N := ["world", "one", "other", "some", "k"]
  body := b_are_alike
def p_lean_world : FDef where
  name := "lean_world"
  ps := ["world"]
  N := ["world", "kept", "k", "other", "marked", "arrows", "some", "first", "last"]
  body := b_lean_world
def p_shuffled : FDef where
  name := "shuffled"
  ps := ["world", "names"]
  N := ["world", "names", "marked", "arrows", "some", "k", "first", "last"]
  body := b_shuffled
def p_form_holds : FDef where
  name := "form_holds"
  ps := ["form", "world", "x", "y"]
  N := ["form", "world", "x", "y", "things", "name"]
  body := b_form_holds
def p_of_all : FDef where
  name := "of_all"
  ps := ["word", "truths"]
  N := ["word", "truths"]
  body := b_of_all
def p_demand_holds : FDef where
  name := "demand_holds"
  ps := ["demand", "world"]
  N := ["demand", "world", "one", "other", "form", "found", "x", "y"]
  body := b_demand_holds
def p_holds : FDef where
  name := "holds"
  ps := ["row", "world"]
  N := ["row", "world", "demand"]
  body := b_holds
def p_law_cell_at : FDef where
  name := "_law_cell_at"
  ps := ["_law_script", "_law_k"]
  N := ["_law_script", "_law_k"]
  body := b_law_cell_at
def p_law_mixed : FDef where
  name := "_law_mixed"
  ps := ["_law_script", "_law_k"]
  N := ["_law_script", "_law_k", "_law_drawn_here"]
  body := b_law_mixed
def p_law_drawn : FDef where
  name := "_law_drawn"
  ps := ["_law_number", "_law_k"]
  N := ["_law_number", "_law_k", "_law_drawn_here"]
  body := b_law_drawn
def p_law_form : FDef where
  name := "_law_form"
  ps := ["_law_number", "_law_deep"]
  N := ["_law_number", "_law_deep", "_law_kind", "_law_some", "_law_one", "_law_other"]
  body := b_law_form
def p_law_demand : FDef where
  name := "_law_demand"
  ps := ["_law_number", "_law_deep"]
  N := ["_law_number", "_law_deep", "_law_one", "_law_other"]
  body := b_law_demand
def p_law_row : FDef where
  name := "_law_row"
  ps := ["_law_number", "_law_most"]
  N := ["_law_number", "_law_most", "_law_found", "_law_k", "_law_demand_here", "_law_marks", "_law_one"]
  body := b_law_row
def p_law_world : FDef where
  name := "_law_world"
  ps := ["_law_number", "_law_most"]
  N := ["_law_number", "_law_most", "_law_many", "_law_marked", "_law_at", "_law_k", "_law_arrows", "_law_share", "_law_one", "_law_other"]
  body := b_law_world
def p_law_true : FDef where
  name := "_law_true"
  ps := ["_law_form_here", "_law_world_here", "_law_x", "_law_y"]
  N := ["_law_form_here", "_law_world_here", "_law_x", "_law_y", "_law_pair", "_law_name", "_law_some", "_law_part"]
  body := b_law_true
def p_law_meets : FDef where
  name := "_law_meets"
  ps := ["_law_demand_here", "_law_world_here"]
  N := ["_law_demand_here", "_law_world_here", "_law_rows", "_law_x", "_law_row_here", "_law_y"]
  body := b_law_meets
def p_law_holds : FDef where
  name := "_law_holds"
  ps := ["_law_row_here", "_law_world_here"]
  N := ["_law_row_here", "_law_world_here", "_law_demand_here"]
  body := b_law_holds
def p_law_alike : FDef where
  name := "_law_alike"
  ps := ["_law_world_here", "_law_one", "_law_other"]
  N := ["_law_world_here", "_law_one", "_law_other", "_law_some", "_law_k"]
  body := b_law_alike
def p_law_k21 : FDef where
  name := "law"
  ps := ["_law_script"]
  N := ["_law_script", "_law_row_here", "_law_world_here", "_law_due", "_law_names", "_law_little", "_law_other", "_law_one", "_law_k", "_law_kept", "_law_marked", "_law_arrows", "_law_j", "_law_some", "_law_x", "_law_y"]
  body := b_law_k21
def tfn : Nat → Option FDef
  | 48 => some p_doubled
  | 52 => some p_are_alike
  | 53 => some p_lean_world
  | 51 => some p_shuffled
  | 34 => some p_form_holds
  | 35 => some p_of_all
  | 36 => some p_demand_holds
  | 37 => some p_holds
  | 10 => some p_law_cell_at
  | 11 => some p_law_mixed
  | 12 => some p_law_drawn
  | 13 => some p_law_form
  | 14 => some p_law_demand
  | 15 => some p_law_row
  | 16 => some p_law_world
  | 40 => some p_law_true
  | 41 => some p_law_meets
  | 42 => some p_law_holds
  | 54 => some p_law_alike
  | 24 => some p_law_k21
  | _ => none
def tgl : Nat → Option (Str × PyData)
  | _ => none
def T : Tab := ⟨tfn, tgl, 4⟩
def top (i : Nat) : Stmt := PySem.Challenge.pw_twonamed_k21_whole_kept.main.body.getD i (.Pass ⟨0, 0, 0, 0⟩)
theorem chk0 : chkD T p_doubled (top 1) = true := by decide +kernel
theorem chk1 : chkD T p_are_alike (top 2) = true := by decide +kernel
theorem chk2 : chkD T p_lean_world (top 3) = true := by decide +kernel
theorem chk3 : chkD T p_shuffled (top 4) = true := by decide +kernel
theorem chk4 : chkD T p_form_holds (top 6) = true := by decide +kernel
theorem chk5 : chkD T p_of_all (top 7) = true := by decide +kernel
theorem chk6 : chkD T p_demand_holds (top 8) = true := by decide +kernel
theorem chk7 : chkD T p_holds (top 9) = true := by decide +kernel
theorem chk8 : chkD T p_law_cell_at (top 11) = true := by decide +kernel
theorem chk9 : chkD T p_law_mixed (top 12) = true := by decide +kernel
theorem chk10 : chkD T p_law_drawn (top 13) = true := by decide +kernel
theorem chk11 : chkD T p_law_form (top 14) = true := by decide +kernel
theorem chk12 : chkD T p_law_demand (top 15) = true := by decide +kernel
theorem chk13 : chkD T p_law_row (top 16) = true := by decide +kernel
theorem chk14 : chkD T p_law_world (top 17) = true := by decide +kernel
theorem chk15 : chkD T p_law_true (top 18) = true := by decide +kernel
theorem chk16 : chkD T p_law_meets (top 19) = true := by decide +kernel
theorem chk17 : chkD T p_law_holds (top 20) = true := by decide +kernel
theorem chk18 : chkD T p_law_alike (top 21) = true := by decide +kernel
theorem chk19 : chkD T p_law_k21 (top 22) = true := by decide +kernel
theorem all_mk {l : PySem.W.OpenLaw} {w : World} {K : PySem.W.Frag} {h : Heap} {mg : Str → Option Value} (X : K.In h) (G : h.Ns mainGlobals mg) {fa f0 f1 f2 f3 f4 f5 f6 f7 f8 f9 f10 f11 f12 f13 f14 f15 f16 f17 f18 f19 : Addr} {od0 an0 od1 an1 od2 an2 od3 an3 od4 an4 od5 an5 od6 an6 od7 an7 od8 an8 od9 an9 od10 an10 od11 an11 od12 an12 od13 an13 od14 an14 od15 an15 od16 an16 od17 an17 od18 an18 od19 an19 : Option Addr} {sl0 sl1 sl2 sl3 sl4 sl5 sl6 sl7 sl8 sl9 sl10 sl11 sl12 sl13 sl14 sl15 sl16 sl17 sl18 sl19 : Array (Option Value)} {oc0 kV0 dc0 pm0 cd0 ct0 oc1 kV1 dc1 pm1 cd1 ct1 oc2 kV2 dc2 pm2 cd2 ct2 oc3 kV3 dc3 pm3 cd3 ct3 oc4 kV4 dc4 pm4 cd4 ct4 oc5 kV5 dc5 pm5 cd5 ct5 oc6 kV6 dc6 pm6 cd6 ct6 oc7 kV7 dc7 pm7 cd7 ct7 oc8 kV8 dc8 pm8 cd8 ct8 oc9 kV9 dc9 pm9 cd9 ct9 oc10 kV10 dc10 pm10 cd10 ct10 oc11 kV11 dc11 pm11 cd11 ct11 oc12 kV12 dc12 pm12 cd12 ct12 oc13 kV13 dc13 pm13 cd13 ct13 oc14 kV14 dc14 pm14 cd14 ct14 oc15 kV15 dc15 pm15 cd15 ct15 oc16 kV16 dc16 pm16 cd16 ct16 oc17 kV17 dc17 pm17 cd17 ct17 oc18 kV18 dc18 pm18 cd18 ct18 oc19 kV19 dc19 pm19 ct19 : Value} {cc Pt : Addr} {ocC : Value} {odC : Option Addr} {slC : Array (Option Value)} {vsC : Array Value}
    (hfa : mg "law" = some (.ref fa))
    (a0 : PySem.W.nsIn K mainGlobals "doubled" = some (some (.ref f0))) (l0 : K.lookup f0 = some ⟨oc0, od0, .func (PySem.W.fnOf "doubled" "doubled" (defArgs (top 1)) (defBody (top 1)) (defScope (top 1)) .none kV0 dc0 pm0 an0 cd0 ct0), sl0⟩) (c0 : PySem.W.codeIn K cd0 "doubled" = true) (k0 : PySem.W.keepIn K (.ref f0) = true)
    (a1 : PySem.W.nsIn K mainGlobals "are_alike" = some (some (.ref f1))) (l1 : K.lookup f1 = some ⟨oc1, od1, .func (PySem.W.fnOf "are_alike" "are_alike" (defArgs (top 2)) (defBody (top 2)) (defScope (top 2)) .none kV1 dc1 pm1 an1 cd1 ct1), sl1⟩) (c1 : PySem.W.codeIn K cd1 "are_alike" = true) (k1 : PySem.W.keepIn K (.ref f1) = true)
    (a2 : PySem.W.nsIn K mainGlobals "lean_world" = some (some (.ref f2))) (l2 : K.lookup f2 = some ⟨oc2, od2, .func (PySem.W.fnOf "lean_world" "lean_world" (defArgs (top 3)) (defBody (top 3)) (defScope (top 3)) .none kV2 dc2 pm2 an2 cd2 ct2), sl2⟩) (c2 : PySem.W.codeIn K cd2 "lean_world" = true) (k2 : PySem.W.keepIn K (.ref f2) = true)
    (a3 : PySem.W.nsIn K mainGlobals "shuffled" = some (some (.ref f3))) (l3 : K.lookup f3 = some ⟨oc3, od3, .func (PySem.W.fnOf "shuffled" "shuffled" (defArgs (top 4)) (defBody (top 4)) (defScope (top 4)) .none kV3 dc3 pm3 an3 cd3 ct3), sl3⟩) (c3 : PySem.W.codeIn K cd3 "shuffled" = true) (k3 : PySem.W.keepIn K (.ref f3) = true)
    (a4 : PySem.W.nsIn K mainGlobals "form_holds" = some (some (.ref f4))) (l4 : K.lookup f4 = some ⟨oc4, od4, .func (PySem.W.fnOf "form_holds" "form_holds" (defArgs (top 6)) (defBody (top 6)) (defScope (top 6)) .none kV4 dc4 pm4 an4 cd4 ct4), sl4⟩) (c4 : PySem.W.codeIn K cd4 "form_holds" = true) (k4 : PySem.W.keepIn K (.ref f4) = true)
    (a5 : PySem.W.nsIn K mainGlobals "of_all" = some (some (.ref f5))) (l5 : K.lookup f5 = some ⟨oc5, od5, .func (PySem.W.fnOf "of_all" "of_all" (defArgs (top 7)) (defBody (top 7)) (defScope (top 7)) .none kV5 dc5 pm5 an5 cd5 ct5), sl5⟩) (c5 : PySem.W.codeIn K cd5 "of_all" = true) (k5 : PySem.W.keepIn K (.ref f5) = true)
    (a6 : PySem.W.nsIn K mainGlobals "demand_holds" = some (some (.ref f6))) (l6 : K.lookup f6 = some ⟨oc6, od6, .func (PySem.W.fnOf "demand_holds" "demand_holds" (defArgs (top 8)) (defBody (top 8)) (defScope (top 8)) .none kV6 dc6 pm6 an6 cd6 ct6), sl6⟩) (c6 : PySem.W.codeIn K cd6 "demand_holds" = true) (k6 : PySem.W.keepIn K (.ref f6) = true)
    (a7 : PySem.W.nsIn K mainGlobals "holds" = some (some (.ref f7))) (l7 : K.lookup f7 = some ⟨oc7, od7, .func (PySem.W.fnOf "holds" "holds" (defArgs (top 9)) (defBody (top 9)) (defScope (top 9)) .none kV7 dc7 pm7 an7 cd7 ct7), sl7⟩) (c7 : PySem.W.codeIn K cd7 "holds" = true) (k7 : PySem.W.keepIn K (.ref f7) = true)
    (a8 : PySem.W.nsIn K mainGlobals "_law_cell_at" = some (some (.ref f8))) (l8 : K.lookup f8 = some ⟨oc8, od8, .func (PySem.W.fnOf "_law_cell_at" "_law_cell_at" (defArgs (top 11)) (defBody (top 11)) (defScope (top 11)) .none kV8 dc8 pm8 an8 cd8 ct8), sl8⟩) (c8 : PySem.W.codeIn K cd8 "_law_cell_at" = true) (k8 : PySem.W.keepIn K (.ref f8) = true)
    (a9 : PySem.W.nsIn K mainGlobals "_law_mixed" = some (some (.ref f9))) (l9 : K.lookup f9 = some ⟨oc9, od9, .func (PySem.W.fnOf "_law_mixed" "_law_mixed" (defArgs (top 12)) (defBody (top 12)) (defScope (top 12)) .none kV9 dc9 pm9 an9 cd9 ct9), sl9⟩) (c9 : PySem.W.codeIn K cd9 "_law_mixed" = true) (k9 : PySem.W.keepIn K (.ref f9) = true)
    (a10 : PySem.W.nsIn K mainGlobals "_law_drawn" = some (some (.ref f10))) (l10 : K.lookup f10 = some ⟨oc10, od10, .func (PySem.W.fnOf "_law_drawn" "_law_drawn" (defArgs (top 13)) (defBody (top 13)) (defScope (top 13)) .none kV10 dc10 pm10 an10 cd10 ct10), sl10⟩) (c10 : PySem.W.codeIn K cd10 "_law_drawn" = true) (k10 : PySem.W.keepIn K (.ref f10) = true)
    (a11 : PySem.W.nsIn K mainGlobals "_law_form" = some (some (.ref f11))) (l11 : K.lookup f11 = some ⟨oc11, od11, .func (PySem.W.fnOf "_law_form" "_law_form" (defArgs (top 14)) (defBody (top 14)) (defScope (top 14)) .none kV11 dc11 pm11 an11 cd11 ct11), sl11⟩) (c11 : PySem.W.codeIn K cd11 "_law_form" = true) (k11 : PySem.W.keepIn K (.ref f11) = true)
    (a12 : PySem.W.nsIn K mainGlobals "_law_demand" = some (some (.ref f12))) (l12 : K.lookup f12 = some ⟨oc12, od12, .func (PySem.W.fnOf "_law_demand" "_law_demand" (defArgs (top 15)) (defBody (top 15)) (defScope (top 15)) .none kV12 dc12 pm12 an12 cd12 ct12), sl12⟩) (c12 : PySem.W.codeIn K cd12 "_law_demand" = true) (k12 : PySem.W.keepIn K (.ref f12) = true)
    (a13 : PySem.W.nsIn K mainGlobals "_law_row" = some (some (.ref f13))) (l13 : K.lookup f13 = some ⟨oc13, od13, .func (PySem.W.fnOf "_law_row" "_law_row" (defArgs (top 16)) (defBody (top 16)) (defScope (top 16)) .none kV13 dc13 pm13 an13 cd13 ct13), sl13⟩) (c13 : PySem.W.codeIn K cd13 "_law_row" = true) (k13 : PySem.W.keepIn K (.ref f13) = true)
    (a14 : PySem.W.nsIn K mainGlobals "_law_world" = some (some (.ref f14))) (l14 : K.lookup f14 = some ⟨oc14, od14, .func (PySem.W.fnOf "_law_world" "_law_world" (defArgs (top 17)) (defBody (top 17)) (defScope (top 17)) .none kV14 dc14 pm14 an14 cd14 ct14), sl14⟩) (c14 : PySem.W.codeIn K cd14 "_law_world" = true) (k14 : PySem.W.keepIn K (.ref f14) = true)
    (a15 : PySem.W.nsIn K mainGlobals "_law_true" = some (some (.ref f15))) (l15 : K.lookup f15 = some ⟨oc15, od15, .func (PySem.W.fnOf "_law_true" "_law_true" (defArgs (top 18)) (defBody (top 18)) (defScope (top 18)) .none kV15 dc15 pm15 an15 cd15 ct15), sl15⟩) (c15 : PySem.W.codeIn K cd15 "_law_true" = true) (k15 : PySem.W.keepIn K (.ref f15) = true)
    (a16 : PySem.W.nsIn K mainGlobals "_law_meets" = some (some (.ref f16))) (l16 : K.lookup f16 = some ⟨oc16, od16, .func (PySem.W.fnOf "_law_meets" "_law_meets" (defArgs (top 19)) (defBody (top 19)) (defScope (top 19)) .none kV16 dc16 pm16 an16 cd16 ct16), sl16⟩) (c16 : PySem.W.codeIn K cd16 "_law_meets" = true) (k16 : PySem.W.keepIn K (.ref f16) = true)
    (a17 : PySem.W.nsIn K mainGlobals "_law_holds" = some (some (.ref f17))) (l17 : K.lookup f17 = some ⟨oc17, od17, .func (PySem.W.fnOf "_law_holds" "_law_holds" (defArgs (top 20)) (defBody (top 20)) (defScope (top 20)) .none kV17 dc17 pm17 an17 cd17 ct17), sl17⟩) (c17 : PySem.W.codeIn K cd17 "_law_holds" = true) (k17 : PySem.W.keepIn K (.ref f17) = true)
    (a18 : PySem.W.nsIn K mainGlobals "_law_alike" = some (some (.ref f18))) (l18 : K.lookup f18 = some ⟨oc18, od18, .func (PySem.W.fnOf "_law_alike" "_law_alike" (defArgs (top 21)) (defBody (top 21)) (defScope (top 21)) .none kV18 dc18 pm18 an18 cd18 ct18), sl18⟩) (c18 : PySem.W.codeIn K cd18 "_law_alike" = true) (k18 : PySem.W.keepIn K (.ref f18) = true)
    (a19 : PySem.W.nsIn K mainGlobals "law" = some (some (.ref f19))) (l19 : K.lookup f19 = some ⟨oc19, od19, .func (PySem.W.fnOf "law" "law" (defArgs (top 22)) (defBody (top 22)) (defScope (top 22)) .none kV19 dc19 pm19 an19 (.ref cc) ct19), sl19⟩) (c19 : PySem.W.codeIn K (.ref cc) "law" = true) (k19 : PySem.W.keepIn K (.ref f19) = true)
    (z0 : PySem.W.nsIn K mainGlobals "len" = some none)
    (z1 : PySem.W.nsIn K mainGlobals "int" = some none)
    (z2 : PySem.W.nsIn K mainGlobals "tuple" = some none)
    (z3 : PySem.W.nsIn K mainGlobals "list" = some none)
    (z4 : PySem.W.nsIn K mainGlobals "sorted" = some none)
    (z5 : PySem.W.nsIn K mainGlobals "all" = some none)
    (z6 : PySem.W.nsIn K mainGlobals "any" = some none)
    (z7 : PySem.W.nsIn K mainGlobals "str" = some none)
    (z8 : PySem.W.nsIn K mainGlobals "isinstance" = some none)
    (z9 : PySem.W.nsIn K mainGlobals "bool" = some none)
    (z10 : PySem.W.nsIn K mainGlobals "range" = some none)
    (z11 : PySem.W.nsIn K mainGlobals "enumerate" = some none)
    (z12 : PySem.W.nsIn K mainGlobals "zip" = some none)
    (z13 : PySem.W.nsIn K mainGlobals "set" = some none)
    (lC : K.lookup cc = some ⟨ocC, odC, .fields vsC, slC⟩) (vC : (vsC[11]? : Option Value) = some (.ref Pt)) (nC : K.lookup Pt = none)
    (pure_law : ∀ ns : List Int, ns.length ≤ 63 → T.run 50 24 [.list (ns.map .int)] = some (.bool true)) :
    ∃ (fd : FuncData) (c P : Addr), PySem.W.tabIn K "law" = some (c, P) ∧ K.lookup P = none ∧ (∀ (s : Shared) (u : Value), BindsTo s fd ⟨[u], []⟩ [("_law_script", u)]) ∧ ∀ base : Heap, LamX.TabB base mg c P → FnOk l.prog w K mg base CX0 200 fa fd ["_law_script"] (spLawL K P) := by
  have e := hfa.symm.trans (PySem.W.mg_of X G a19)
  cases e
  have D0 := def_at (F := p_doubled) (st := top 1) (PySem.W.mg_of X G a0) l0 c0 k0 (fun us hl => match us, hl with | [_], _ => rfl)
  have D1 := def_at (F := p_are_alike) (st := top 2) (PySem.W.mg_of X G a1) l1 c1 k1 (fun us hl => match us, hl with | [_, _, _], _ => rfl)
  have D2 := def_at (F := p_lean_world) (st := top 3) (PySem.W.mg_of X G a2) l2 c2 k2 (fun us hl => match us, hl with | [_], _ => rfl)
  have D3 := def_at (F := p_shuffled) (st := top 4) (PySem.W.mg_of X G a3) l3 c3 k3 (fun us hl => match us, hl with | [_, _], _ => rfl)
  have D4 := def_at (F := p_form_holds) (st := top 6) (PySem.W.mg_of X G a4) l4 c4 k4 (fun us hl => match us, hl with | [_, _, _, _], _ => rfl)
  have D5 := def_at (F := p_of_all) (st := top 7) (PySem.W.mg_of X G a5) l5 c5 k5 (fun us hl => match us, hl with | [_, _], _ => rfl)
  have D6 := def_at (F := p_demand_holds) (st := top 8) (PySem.W.mg_of X G a6) l6 c6 k6 (fun us hl => match us, hl with | [_, _], _ => rfl)
  have D7 := def_at (F := p_holds) (st := top 9) (PySem.W.mg_of X G a7) l7 c7 k7 (fun us hl => match us, hl with | [_, _], _ => rfl)
  have D8 := def_at (F := p_law_cell_at) (st := top 11) (PySem.W.mg_of X G a8) l8 c8 k8 (fun us hl => match us, hl with | [_, _], _ => rfl)
  have D9 := def_at (F := p_law_mixed) (st := top 12) (PySem.W.mg_of X G a9) l9 c9 k9 (fun us hl => match us, hl with | [_, _], _ => rfl)
  have D10 := def_at (F := p_law_drawn) (st := top 13) (PySem.W.mg_of X G a10) l10 c10 k10 (fun us hl => match us, hl with | [_, _], _ => rfl)
  have D11 := def_at (F := p_law_form) (st := top 14) (PySem.W.mg_of X G a11) l11 c11 k11 (fun us hl => match us, hl with | [_, _], _ => rfl)
  have D12 := def_at (F := p_law_demand) (st := top 15) (PySem.W.mg_of X G a12) l12 c12 k12 (fun us hl => match us, hl with | [_, _], _ => rfl)
  have D13 := def_at (F := p_law_row) (st := top 16) (PySem.W.mg_of X G a13) l13 c13 k13 (fun us hl => match us, hl with | [_, _], _ => rfl)
  have D14 := def_at (F := p_law_world) (st := top 17) (PySem.W.mg_of X G a14) l14 c14 k14 (fun us hl => match us, hl with | [_, _], _ => rfl)
  have D15 := def_at (F := p_law_true) (st := top 18) (PySem.W.mg_of X G a15) l15 c15 k15 (fun us hl => match us, hl with | [_, _, _, _], _ => rfl)
  have D16 := def_at (F := p_law_meets) (st := top 19) (PySem.W.mg_of X G a16) l16 c16 k16 (fun us hl => match us, hl with | [_, _], _ => rfl)
  have D17 := def_at (F := p_law_holds) (st := top 20) (PySem.W.mg_of X G a17) l17 c17 k17 (fun us hl => match us, hl with | [_, _], _ => rfl)
  have D18 := def_at (F := p_law_alike) (st := top 21) (PySem.W.mg_of X G a18) l18 c18 k18 (fun us hl => match us, hl with | [_, _, _], _ => rfl)
  have D19 := def_at (F := p_law_k21) (st := top 22) (PySem.W.mg_of X G a19) l19 c19 k19 (fun us hl => match us, hl with | [_], _ => rfl)
  have O : TabOk T K w mg := by
    refine ⟨by decide, fun f F hF => ?_, fun x hx => ?_, fun g x d hg => ?_⟩
    · have hF : tfn f = some F := hF
      unfold tfn at hF
      split at hF
      · cases hF; exact ⟨_, _, _, D0, chk0⟩
      · cases hF; exact ⟨_, _, _, D1, chk1⟩
      · cases hF; exact ⟨_, _, _, D2, chk2⟩
      · cases hF; exact ⟨_, _, _, D3, chk3⟩
      · cases hF; exact ⟨_, _, _, D4, chk4⟩
      · cases hF; exact ⟨_, _, _, D5, chk5⟩
      · cases hF; exact ⟨_, _, _, D6, chk6⟩
      · cases hF; exact ⟨_, _, _, D7, chk7⟩
      · cases hF; exact ⟨_, _, _, D8, chk8⟩
      · cases hF; exact ⟨_, _, _, D9, chk9⟩
      · cases hF; exact ⟨_, _, _, D10, chk10⟩
      · cases hF; exact ⟨_, _, _, D11, chk11⟩
      · cases hF; exact ⟨_, _, _, D12, chk12⟩
      · cases hF; exact ⟨_, _, _, D13, chk13⟩
      · cases hF; exact ⟨_, _, _, D14, chk14⟩
      · cases hF; exact ⟨_, _, _, D15, chk15⟩
      · cases hF; exact ⟨_, _, _, D16, chk16⟩
      · cases hF; exact ⟨_, _, _, D17, chk17⟩
      · cases hF; exact ⟨_, _, _, D18, chk18⟩
      · cases hF; exact ⟨_, _, _, D19, chk19⟩
      · cases hF
    · simp only [bNames, List.mem_cons, List.not_mem_nil, or_false] at hx
      rcases hx with rfl | rfl | rfl | rfl | rfl | rfl | rfl | rfl | rfl | rfl | rfl | rfl | rfl | rfl
      · exact PySem.W.mg_none_of X G z0
      · exact PySem.W.mg_none_of X G z1
      · exact PySem.W.mg_none_of X G z2
      · exact PySem.W.mg_none_of X G z3
      · exact PySem.W.mg_none_of X G z4
      · exact PySem.W.mg_none_of X G z5
      · exact PySem.W.mg_none_of X G z6
      · exact PySem.W.mg_none_of X G z7
      · exact PySem.W.mg_none_of X G z8
      · exact PySem.W.mg_none_of X G z9
      · exact PySem.W.mg_none_of X G z10
      · exact PySem.W.mg_none_of X G z11
      · exact PySem.W.mg_none_of X G z12
      · exact PySem.W.mg_none_of X G z13
    · have hg : tgl g = some (x, d) := hg
      unfold tgl at hg
      split at hg
      · cases hg
  refine ⟨PySem.W.fnOf "law" "law" (defArgs (top 22)) (defBody (top 22)) (defScope (top 22)) .none kV19 dc19 pm19 an19 (.ref cc) ct19, cc, Pt, ?_, nC, fun s v => .of_eq rfl, fun base TB => law_okL O (by decide) 49 (F := p_law_k21) (f := 24) l19 c19 chk19 rfl TB rfl pure_law⟩
  unfold PySem.W.tabIn
  rw [a19]
  dsimp only
  rw [l19]
  dsimp only
  rw [lC]
  dsimp only
  rw [vC]

-- uses PuA PuB PuC PuD PuE PuF PuG PuH PuI PuJ PuX PuY PuZ PvA
theorem hDr : Draws T := ⟨⟨_, rfl, rfl, rfl, rfl⟩, ⟨_, rfl, rfl, rfl, rfl⟩, ⟨_, rfl, rfl, rfl, rfl⟩⟩
theorem hR : Rows T := ⟨hDr, ⟨_, rfl, rfl, rfl, rfl⟩, ⟨_, rfl, rfl, rfl, rfl⟩, ⟨_, rfl, rfl, rfl, rfl⟩⟩
theorem hWo : Worlds T := ⟨hDr, ⟨_, rfl, rfl, rfl, rfl⟩⟩
theorem hDb : Has T 48 1 8 b_doubled := ⟨_, rfl, rfl, rfl, rfl⟩
theorem hSh : Has T 51 2 8 b_shuffled := ⟨_, rfl, rfl, rfl, rfl⟩
theorem hHo : Hold T := ⟨⟨⟨_, rfl, rfl, rfl, rfl⟩⟩, ⟨_, rfl, rfl, rfl, rfl⟩, ⟨_, rfl, rfl, rfl, rfl⟩⟩
theorem hHl : Has T 37 2 3 b_holds := ⟨_, rfl, rfl, rfl, rfl⟩
theorem hLH : LHold T := ⟨⟨⟨⟨_, rfl, rfl, rfl, rfl⟩⟩, ⟨_, rfl, rfl, rfl, rfl⟩⟩, ⟨_, rfl, rfl, rfl, rfl⟩⟩
theorem hLe : Lean T := ⟨⟨⟨_, rfl, rfl, rfl, rfl⟩⟩, ⟨_, rfl, rfl, rfl, rfl⟩⟩
theorem hLA : LAlk T := ⟨⟨_, rfl, rfl, rfl, rfl⟩⟩
theorem hlaw : Has T 24 1 16 b_law_k21 := ⟨_, rfl, rfl, rfl, rfl⟩
theorem stepN {G : Nat → Option PyData} {run : Nat → List PyData → Option PyData} {st : QS} {r : QSs} {ρ ρ' : Rho} (h : evS G run st ρ = some (.nx ρ')) : evSs G run (.cons st r) ρ = evSs G run r ρ' := by
  rw [evSs_cons, h]; rfl
theorem ne_wld (w : Wld) : copD .ne w.enc w.enc = some (.bool false) := by
  rw [copD_ne (eqOk_le (.inl (by have := depth_wld w; omega))), wld_refl]; rfl
theorem eq_wld (w : Wld) : copD .eq w.enc w.enc = some (.bool true) := by
  rw [copD_eq (eqOk_le (.inl (by have := depth_wld w; omega))), wld_refl]
theorem rg_iN {n : Nat} (h : n ≤ 900000) : rgK (iN n) = some ((List.range n).map iN) := by
  rw [iN, rgK_int, rngOk_of (by omega) (by omega)]; rfl
theorem kept_le (w : Wld) : (keptL w).length ≤ w.n := by
  have := List.length_filter_le (fst w) (List.range w.n)
  rw [List.length_range] at this
  exact this
/-- those before that are alike -/
theorem comp54 (w : Wld) (hw : w.n ≤ 900000) {k : Nat} {e1 e2 : PX} {i : Nat} {ρ : Rho} (hi : i < ρ.length) (h1 : ∀ y, evE T.G (T.run 49) e1 (ρ.set i (.val (iN y))) = some w.enc) (h2 : ∀ y, evE T.G (T.run 49) e2 (ρ.set i (.val (iN y))) = some (iN k)) :
    compD T.G (T.run 49) (.nm i) (.var i) (.call 54 (.cons e1 (.cons e2 (.cons (.var i) .nil)))) ρ ((List.range k).map iN) = some (((List.range k).filter (al w k)).map iN) := by
  refine compD_code _ _ iN (al w k) iN _ fun j _ => ⟨_, rfl, ?_, ?_⟩
  · have h3 : getV i (ρ.set i (.val (iN j))) = some (iN j) := by simp [getV, List.getElem?_set_self hi]
    have e : T.run 49 54 [w.enc, iN k, iN j] = _ := run_lalike hLA 48 w hw k j
    rw [evE_call, evEs_cons, evEs_cons, evEs_cons, evEs_nil, h1, h2, evE_var, h3]
    simp [e]
  · intro _
    simp [getV, List.getElem?_set_self hi]
theorem filt_fst (w : Wld) (k : Nat) : (((List.range k).filter (al w k)).map iN).isEmpty = fst w k := by
  cases h : fst w k with
  | true =>
    have : (List.range k).filter (al w k) = [] := by
      rw [List.filter_eq_nil_iff]
      intro j hj
      rw [al_iff]
      exact fst_iff.mp h j (List.mem_range.mp hj)
    rw [this]; rfl
  | false =>
    obtain ⟨j, h1, h2, h3⟩ := ex_fst w k
    have hne : j ≠ k := fun e => by subst e; rw [h] at h2; cases h2
    have : j ∈ (List.range k).filter (al w k) := List.mem_filter.mpr ⟨List.mem_range.mpr (by omega), al_iff.mpr h3⟩
    cases q : (List.range k).filter (al w k) with
    | nil => rw [q] at this; cases this
    | cons _ _ => rfl
theorem lst_empty (l : List PyData) : PyData.eqv (.list l) (.list []) = l.isEmpty := by
  rw [eqv_ll]
  cases l <;> simp [PyData.eqvAll]
section
variable (s0 : Sl) (r : List Dem) (hr : ∀ d ∈ r, d.form.deep ≤ 3)
include hr
theorem f0_ok (W : PyData) (v : Wld) (hv : v.n ≤ 900000) (due : Bool) (hd : rowTr v r = due) (s4 s5 s7 s8 s9 s10 s11 s12 s13 s14 s15 : Sl) : evSs T.G (T.run 49) b_law_k21_f0 [s0, .val (encR r), .val W, .val (.bool due), s4, s5, .val v.enc, s7, s8, s9, s10, s11, s12, s13, s14, s15] = some (.nx [s0, .val (encR r), .val W, .val (.bool due), s4, s5, .val v.enc, s7, s8, s9, s10, s11, s12, s13, s14, s15]) := by
  have e1 : T.run 49 37 [encR r, v.enc] = _ := run_holdsH hHo hHl v hv r (K := 3) hr 43
  have e2 : T.run 49 42 [encR r, v.enc] = _ := run_lholds hLH v hv r (K := 3) hr 43
  rw [hd] at e1 e2
  have n1 := ne_bb due due
  have n2 : (due != due) = false := by cases due <;> rfl
  rw [n2] at n1
  generalize encR r = R at *
  generalize v.enc = V at *
  simp [b_law_k21_f0, e1, e2, n1]
theorem f1_ok (L : Wld) (hL : L.n ≤ 900000) (ap : ∀ i j, i < L.n → j < L.n → Al L i j → i = j) (s1 s2 s3 s4 s6 s9 s10 s11 s12 s13 s14 s15 : Sl) : ∀ s7 s8, ∃ ρ', loopD T.G (T.run 49) (.nm 7) b_law_k21_f1 [s0, s1, s2, s3, s4, .val L.enc, s6, s7, s8, s9, s10, s11, s12, s13, s14, s15] ((List.range L.n).map iN) = some (.nx ρ') ∧
    ∃ s7 s8, ρ' = [s0, s1, s2, s3, s4, .val L.enc, s6, s7, s8, s9, s10, s11, s12, s13, s14, s15] := by
  intro s7 s8
  refine loopD_inv _ _ iN (fun pre ρ => ∃ s7 s8, ρ = [s0, s1, s2, s3, s4, .val L.enc, s6, s7, s8, s9, s10, s11, s12, s13, s14, s15]) _ ?_ _ ⟨s7, s8, rfl⟩
  rintro pre x post ρ hx ⟨s7, s8, rfl⟩
  obtain ⟨_, hxn⟩ := range_pre hx
  refine ⟨_, [s0, s1, s2, s3, s4, .val L.enc, s6, .val (iN x), s8, s9, s10, s11, s12, s13, s14, s15], rfl, ?_, _, _, rfl⟩
  have hset : (([s0, s1, s2, s3, s4, .val L.enc, s6, s7, s8, s9, s10, s11, s12, s13, s14, s15] : Rho).set 7 (.val (iN x))) = [s0, s1, s2, s3, s4, .val L.enc, s6, .val (iN x), s8, s9, s10, s11, s12, s13, s14, s15] := rfl
  rw [hset]
  have c := comp54 L hL (k := x) (e1 := .var 5) (e2 := .var 7) (i := 8) (ρ := [s0, s1, s2, s3, s4, .val L.enc, s6, .val (iN x), .un, s9, s10, s11, s12, s13, s14, s15]) (by simp) (fun y => by rw [evE_var]; rfl) (fun y => by rw [evE_var]; rfl)
  have hf : fst L x = true := fst_iff.mpr fun j hj h => by
    have := ap x j hxn (by omega) h
    omega
  have he := filt_fst L x
  rw [hf] at he
  have rg := rg_iN (n := x) (by omega)
  have hq := lst_empty (((List.range x).filter (al L x)).map iN)
  rw [he] at hq
  generalize ((List.range x).filter (al L x)).map iN = F at *
  generalize (List.range x).map iN = RG at *
  generalize L.enc = LE at *
  generalize iN x = X at *
  simp [b_law_k21_f1, rg, c, hq]
end
theorem pure_law : ∀ ns : List Int, ns.length ≤ 63 → T.run 50 24 [.list (ns.map .int)] = some (.bool true) := by
  intro ns _
  obtain ⟨m0, hm0, em0⟩ := run_mixed hDr 47 ns 0 (by decide)
  obtain ⟨m1, hm1, em1⟩ := run_mixed hDr 47 ns 1 (by decide)
  obtain ⟨m2, hm2, em2⟩ := run_mixed hDr 47 ns 2 (by decide)
  obtain ⟨r, gr, er⟩ := run_rowK hR 42 m0 4 4 rfl (by decide) hm0
  obtain ⟨u, gu, eu⟩ := run_world hWo 47 m1 4 4 rfl (by decide) (by decide)
  simp only [show 47 + 2 = 49 from rfl, show 42 + 7 = 49 from rfl] at em0 em1 em2 er eu
  have ed := fun k => run_drawn hDr 48 m2 k
  simp only [show 48 + 1 = 49 from rfl] at ed
  generalize hS : PyData.list (ns.map .int) = S at *
  have hrd := gr.deep
  rw [run_succ hlaw 49 _ rfl]
  have h0 : startR 16 [S] = [.val S, .un, .un, .un, .un, .un, .un, .un, .un, .un, .un, .un, .un, .un, .un, .un] := rfl
  rw [h0]
  refine congrArg (Option.map outD) (?_ : _ = some (.rt (.bool true)))
  unfold b_law_k21
  refine (stepN (ρ' := [.val S, .val (encR r), .un, .un, .un, .un, .un, .un, .un, .un, .un, .un, .un, .un, .un, .un]) (by generalize encR r = R at *; simp [em0, er])).trans ?_
  refine (stepN (ρ' := [.val S, .val (encR r), .val u.enc, .un, .un, .un, .un, .un, .un, .un, .un, .un, .un, .un, .un, .un]) (by generalize encR r = R at *; generalize u.enc = U at *; simp [em1, eu])).trans ?_
  have e48u : T.run 49 48 [u.enc] = _ := run_doubledH hDb 48 u (gu.small (by decide))
  have u0 := (wix u).1
  obtain ⟨w, gw, e3⟩ : ∃ w, GoodW 4 w ∧ evS T.G (T.run 49) (.iff [] (.and (.cmp .eq (.bin .mod (.call 11 (.cons (.var 0) (.cons (.lit (.int 2)) (.nil)))) (.lit (.int 3))) (.lit (.int 1))) (.cmp .lt (.ix (.var 2) (.lit (.int 0))) (.lit (.int 3)))) (.cons (.set [] 2 (.call 48 (.cons (.var 2) (.nil)))) (.nil)) (.nil))
      [.val S, .val (encR r), .val u.enc, .un, .un, .un, .un, .un, .un, .un, .un, .un, .un, .un, .un, .un] = some (.nx [.val S, .val (encR r), .val w.enc, .un, .un, .un, .un, .un, .un, .un, .un, .un, .un, .un, .un, .un]) := by
    have mm : bop .mod (.int m2) (.int 3) = some (.int (m2 % 3)) := bop_modP (by decide)
    by_cases c1 : m2 % 3 = 1
    · by_cases c2 : u.n < 3
      · refine ⟨doubledW u, (show GoodW 2 u from ⟨gu.pos, by omega, gu.a, gu.b, gu.r⟩).dbl, ?_⟩
        have hlt : copD .lt (iN u.n) (.int 3) = some (.bool true) := by
          show some (PyData.bool (decide ((u.n : Int) < 3))) = _
          rw [decide_eq_true (by omega)]
        generalize encR r = R at *
        generalize (doubledW u).enc = D at *
        generalize u.enc = U at *
        generalize iN u.n = N at *
        simp [em2, mm, c1, u0, hlt, e48u]
      · refine ⟨u, gu, ?_⟩
        have hlt : copD .lt (iN u.n) (.int 3) = some (.bool false) := by
          show some (PyData.bool (decide ((u.n : Int) < 3))) = _
          rw [decide_eq_false (by omega)]
        generalize encR r = R at *
        generalize u.enc = U at *
        generalize iN u.n = N at *
        simp [em2, mm, c1, u0, hlt]
    · refine ⟨u, gu, ?_⟩
      have c1' : (m2 % 3 == 1) = false := by simpa using c1
      generalize encR r = R at *
      generalize u.enc = U at *
      simp [em2, mm, c1']
  refine (stepN e3).trans ?_
  have ow := gw.ow
  have hn := gw.le
  have hnp := gw.pos
  obtain ⟨w0, w1, w2, w3⟩ := wix w
  have e42 : T.run 49 42 [encR r, w.enc] = _ := run_lholds hLH w (by omega) r (K := 3) hrd 43
  refine (stepN (ρ' := [.val S, .val (encR r), .val w.enc, .val (.bool (rowTr w r)), .un, .un, .un, .un, .un, .un, .un, .un, .un, .un, .un, .un]) (by generalize encR r = R at *; generalize w.enc = U at *; simp [e42])).trans ?_
  -- names
  obtain ⟨ks, hks, hkl⟩ := keysR_some (f := fun d => evE T.G (T.run 49) (.call 12 (.cons (.call 11 (.cons (.var 1) (.cons (.lit (.int 2)) (.nil)))) (.cons (.var 0) (.nil)))) ([d, S].map .val)) (List.range w.n) fun k hk => ⟨drawF m2 k, by simp [em2, ed]⟩
  rw [List.length_range] at hkl
  have hnl : (namesL ks).length = w.n := by rw [namesL_len, hkl]
  have hpm : (namesL ks).Perm (List.range w.n) := by have := namesL_perm ks; rwa [hkl] at this
  have hsrt : srtE true (some (iN w.n)) (some [S]) (fun ρ1 => evE T.G (T.run 49) (.call 12 (.cons (.call 11 (.cons (.var 1) (.cons (.lit (.int 2)) (.nil)))) (.cons (.var 0) (.nil)))) ρ1) = some (.tuple ((namesL ks).map iN)) := by
    have h1 : rngOk ((w.n : Nat) : Int) = true := rngOk_of (by omega) (by omega)
    unfold srtE
    rw [Option.bind_some, iN, intOf, Option.bind_some, if_pos h1, Option.bind_some, Int.toNat_natCast, hks]
    simp [srtD_names]
  have hwi : Within w (namesL ks).length := by rw [hnl]; exact gw.within
  refine (stepN (ρ' := [.val S, .val (encR r), .val w.enc, .val (.bool (rowTr w r)), .val (.tuple ((namesL ks).map iN)), .un, .un, .un, .un, .un, .un, .un, .un, .un, .un, .un]) (by
    rw [evS_srt]
    have hc : capsR [0] (frzs [] [.val S, .val (encR r), .val w.enc, .val (.bool (rowTr w r)), .un, .un, .un, .un, .un, .un, .un, .un, .un, .un, .un, .un]) = some [S] := rfl
    have ha : evE T.G (T.run 49) (.ix (.var 2) (.lit (.int 0))) (frzs [] [.val S, .val (encR r), .val w.enc, .val (.bool (rowTr w r)), .un, .un, .un, .un, .un, .un, .un, .un, .un, .un, .un, .un]) = some (iN w.n) := by
      generalize encR r = R at *
      generalize w.enc = U at *
      simp [w0]
    rw [hc, ha, hsrt]
    rfl)).trans ?_
  have eL : T.run 49 53 [w.enc] = _ := run_lean hLe 47 w (by omega)
  refine (stepN (ρ' := [.val S, .val (encR r), .val w.enc, .val (.bool (rowTr w r)), .val (.tuple ((namesL ks).map iN)), .val (leanW w).enc, .un, .un, .un, .un, .un, .un, .un, .un, .un, .un]) (by
    generalize (leanW w).enc = L at *
    generalize (namesL ks).map iN = NL at *
    generalize encR r = R at *; generalize w.enc = U at *; simp [eL])).trans ?_
  -- the three worlds
  have e48 : T.run 49 48 [w.enc] = _ := run_doubledH hDb 48 w (gw.small (by decide))
  have e51 : T.run 49 51 [w.enc, .tuple ((namesL ks).map iN)] = _ := run_shuffledH hSh 48 w (namesL ks) hwi
  have lN : (leanW w).n ≤ 900000 := Nat.le_trans (kept_le w) (by omega)
  have t1 := f0_ok (.val S) r hrd w.enc (doubledW w) (by show 2 * w.n ≤ _; omega) (rowTr w r) ((bis_dbl gw).row r).symm
  have t2 := f0_ok (.val S) r hrd w.enc (shuffledW w (namesL ks)) (by show w.n ≤ _; omega) (rowTr w r) ((bis_shuffled gw.within hpm).row r).symm
  have t3 := f0_ok (.val S) r hrd w.enc (leanW w) lN (rowTr w r) ((bis_lean ow).row r).symm
  refine (stepN (ρ' := [.val S, .val (encR r), .val w.enc, .val (.bool (rowTr w r)), .val (.tuple ((namesL ks).map iN)), .val (leanW w).enc, .val (leanW w).enc, .un, .un, .un, .un, .un, .un, .un, .un, .un]) (by
    generalize (doubledW w).enc = D at *
    generalize (shuffledW w (namesL ks)).enc = SW at *
    generalize (leanW w).enc = L at *
    generalize (namesL ks).map iN = NL at *
    generalize encR r = R at *
    generalize w.enc = U at *
    generalize rowTr w r = due at *
    simp [e48, e51, loopD_cons, loopD_nil, t1, t2, t3])).trans ?_
  -- no two alike
  obtain ⟨ρ8, l8, s7, s8, rfl⟩ := f1_ok (.val S) r hrd (leanW w) lN (fun i j => lean_apart ow) (.val (encR r)) (.val w.enc) (.val (.bool (rowTr w r))) (.val (.tuple ((namesL ks).map iN))) (.val (leanW w).enc) .un .un .un .un .un .un .un .un .un
  have L0 := (wix (leanW w)).1
  have rgL := rg_iN (n := (leanW w).n) lN
  refine (stepN (ρ' := [.val S, .val (encR r), .val w.enc, .val (.bool (rowTr w r)), .val (.tuple ((namesL ks).map iN)), .val (leanW w).enc, .val (leanW w).enc, s7, s8, .un, .un, .un, .un, .un, .un, .un]) (by
    generalize (List.range (leanW w).n).map iN = RG at *
    generalize iN (leanW w).n = LN at *
    generalize (leanW w).enc = L at *
    generalize (namesL ks).map iN = NL at *
    generalize encR r = R at *
    generalize w.enc = U at *
    generalize rowTr w r = due at *
    simp [L0, rgL, l8])).trans ?_
  -- lean again
  have eLD : T.run 49 53 [(doubledW w).enc] = _ := run_lean hLe 47 (doubledW w) (by show 2 * w.n ≤ _; omega)
  have eLL : T.run 49 53 [(leanW w).enc] = _ := run_lean hLe 47 (leanW w) lN
  rw [lean_dbl gw] at eLD
  rw [lean_lean ow] at eLL
  have nL := ne_wld (leanW w)
  refine (stepN (ρ' := [.val S, .val (encR r), .val w.enc, .val (.bool (rowTr w r)), .val (.tuple ((namesL ks).map iN)), .val (leanW w).enc, .val (leanW w).enc, s7, s8, .un, .un, .un, .un, .un, .un, .un]) (by
    generalize (doubledW w).enc = D at *
    generalize (leanW w).enc = L at *
    generalize (namesL ks).map iN = NL at *
    generalize encR r = R at *
    generalize w.enc = U at *
    generalize rowTr w r = due at *
    simp [e48, eLD, eLL, nL])).trans ?_
  -- kept, by the law
  generalize hs4 : Sl.val (.tuple ((namesL ks).map iN)) = s4 at *
  generalize hs3 : Sl.val (.bool (rowTr w r)) = s3 at *
  generalize hs1 : Sl.val (encR r) = s1 at *
  have rgW := rg_iN (n := w.n) (by omega)
  have c10 : compD T.G (T.run 49) (.nm 8) (.var 8) (.cmp .eq (.lc [12] (.var 12) (.nm 12) (.rng1 (.var 8)) (.call 54 (.cons (.var 2) (.cons (.var 8) (.cons (.var 12) (.nil)))))) (.lst (.nil))) [.val S, s1, .val w.enc, s3, s4, .val (leanW w).enc, .val (leanW w).enc, s7, .un, .un, .un, .un, .un, .un, .un, .un] ((List.range w.n).map iN) = some ((keptL w).map iN) := by
    refine compD_code _ _ iN (fst w) iN _ fun k hk => ⟨_, rfl, ?_, ?_⟩
    · have hk := List.mem_range.mp hk
      have hset : (([.val S, s1, .val w.enc, s3, s4, .val (leanW w).enc, .val (leanW w).enc, s7, .un, .un, .un, .un, .un, .un, .un, .un] : Rho).set 8 (.val (iN k))) = [.val S, s1, .val w.enc, s3, s4, .val (leanW w).enc, .val (leanW w).enc, s7, .val (iN k), .un, .un, .un, .un, .un, .un, .un] := rfl
      rw [hset]
      have c := comp54 w (by omega) (k := k) (e1 := .var 2) (e2 := .var 8) (i := 12) (ρ := [.val S, s1, .val w.enc, s3, s4, .val (leanW w).enc, .val (leanW w).enc, s7, .val (iN k), .un, .un, .un, .un, .un, .un, .un]) (by simp) (fun y => by rw [evE_var]; rfl) (fun y => by rw [evE_var]; rfl)
      have he := filt_fst w k
      have rg := rg_iN (n := k) (by omega)
      have hq := lst_empty (((List.range k).filter (al w k)).map iN)
      rw [he] at hq
      generalize ((List.range k).filter (al w k)).map iN = F at *
      generalize (List.range k).map iN = RG at *
      generalize (leanW w).enc = L at *
      generalize w.enc = U at *
      generalize iN k = X at *
      simp [rg, c, hq]
    · intro _
      generalize (leanW w).enc = L at *
      generalize w.enc = U at *
      simp
  refine (stepN (ρ' := [.val S, s1, .val w.enc, s3, s4, .val (leanW w).enc, .val (leanW w).enc, s7, s8, .val (.list ((keptL w).map iN)), .un, .un, .un, .un, .un, .un]) (by
    generalize (keptL w).map iN = KL at *
    generalize (List.range w.n).map iN = RG at *
    generalize (leanW w).enc = L at *
    generalize w.enc = U at *
    generalize iN w.n = NN at *
    simp [w0, rgW, c10])).trans ?_
  have eLW : (leanW w).enc = .tuple [.int (((keptL w).map iN).length : Int), .tuple (((w.a.filter (keptL w).contains).map (ixOf · (keptL w))).map iN), .tuple (((w.b.filter (keptL w).contains).map (ixOf · (keptL w))).map iN), .tuple (((w.r.filter fun p => (keptL w).contains p.1 && (keptL w).contains p.2).map fun p => (ixOf p.1 (keptL w), ixOf p.2 (keptL w))).map pr2)] := by
    rw [List.length_map]
    rfl
  generalize hK : keptL w = K at *
  have c11' : ∀ (t : Sl) (l : List Nat), compD T.G (T.run 49) (.nm 8) (.index (.var 9) (.var 8)) (.cmp .isin (.var 8) (.var 9)) [.val S, s1, .val w.enc, s3, s4, .val (leanW w).enc, .val (leanW w).enc, s7, .un, .val (.list (K.map iN)), .un, .un, .un, t, .un, .un] (l.map iN) = some (((l.filter K.contains).map (ixOf · K)).map iN) :=
    fun t l => cs_kept _ (by simp) (by decide) (.inr rfl) l
  have c11 : compD T.G (T.run 49) (.nm 13) (.blt .tuple (.lc [8] (.index (.var 9) (.var 8)) (.nm 8) (.seq (.var 13)) (.cmp .isin (.var 8) (.var 9)))) (.lit (.bool true)) [.val S, s1, .val w.enc, s3, s4, .val (leanW w).enc, .val (leanW w).enc, s7, s8, .val (.list (K.map iN)), .un, .un, .un, .un, .un, .un] [.tuple (w.a.map iN), .tuple (w.b.map iN)] = some [.tuple (((w.a.filter K.contains).map (ixOf · K)).map iN), .tuple (((w.b.filter K.contains).map (ixOf · K)).map iN)] := by
    have a1 := c11' (.val (.tuple (w.a.map iN))) w.a
    have a2 := c11' (.val (.tuple (w.b.map iN))) w.b
    generalize ((w.a.filter K.contains).map (ixOf · K)).map iN = A1 at *
    generalize ((w.b.filter K.contains).map (ixOf · K)).map iN = B1 at *
    generalize w.a.map iN = A0 at *
    generalize w.b.map iN = B0 at *
    generalize K.map iN = KL at *
    generalize (leanW w).enc = L at *
    generalize w.enc = U at *
    simp [compD_cons, compD_nil, a1, a2]
  have sl := cut12 w
  refine (stepN (ρ' := [.val S, s1, .val w.enc, s3, s4, .val (leanW w).enc, .val (leanW w).enc, s7, s8, .val (.list (K.map iN)), .val (.list [.tuple (((w.a.filter K.contains).map (ixOf · K)).map iN), .tuple (((w.b.filter K.contains).map (ixOf · K)).map iN)]), .un, .un, .un, .un, .un]) (by
    clear c11' eLW
    generalize ((w.a.filter K.contains).map (ixOf · K)).map iN = A1 at *
    generalize ((w.b.filter K.contains).map (ixOf · K)).map iN = B1 at *
    generalize w.a.map iN = A0 at *
    generalize w.b.map iN = B0 at *
    generalize K.map iN = KL at *
    generalize (leanW w).enc = L at *
    generalize w.enc = U at *
    simp [sl, c11])).trans ?_
  have c12 : ∀ t : Sl, compD T.G (T.run 49) (.tp [14, 15]) (.tup (.cons (.index (.var 9) (.var 14)) (.cons (.index (.var 9) (.var 15)) (.nil)))) (.and (.cmp .isin (.var 14) (.var 9)) (.cmp .isin (.var 15) (.var 9))) [.val S, s1, .val w.enc, s3, s4, .val (leanW w).enc, .val (leanW w).enc, s7, s8, .val (.list (K.map iN)), t, .un, .un, .un, .un, .un] (w.r.map pr2) = some (((w.r.filter fun p => K.contains p.1 && K.contains p.2).map fun p => (ixOf p.1 K, ixOf p.2 K)).map pr2) :=
    fun t => cp_kept _ (by simp) (by simp) (by decide) (by decide) (by decide) (.inr rfl) _
  refine (stepN (ρ' := [.val S, s1, .val w.enc, s3, s4, .val (leanW w).enc, .val (leanW w).enc, s7, s8, .val (.list (K.map iN)), .val (.list [.tuple (((w.a.filter K.contains).map (ixOf · K)).map iN), .tuple (((w.b.filter K.contains).map (ixOf · K)).map iN)]), .val (.list (((w.r.filter fun p => K.contains p.1 && K.contains p.2).map fun p => (ixOf p.1 K, ixOf p.2 K)).map pr2)), .un, .un, .un, .un]) (by
    clear c11' c11 eLW
    generalize ((w.r.filter fun p => K.contains p.1 && K.contains p.2).map fun p => (ixOf p.1 K, ixOf p.2 K)).map pr2 = R1 at *
    generalize ((w.a.filter K.contains).map (ixOf · K)).map iN = A1 at *
    generalize ((w.b.filter K.contains).map (ixOf · K)).map iN = B1 at *
    generalize w.r.map pr2 = R0 at *
    generalize K.map iN = KL at *
    generalize (leanW w).enc = L at *
    generalize w.enc = U at *
    simp [w3, c12])).trans ?_
  have hfin := eq_wld (leanW w)
  rw [eLW] at hfin ⊢
  clear c12 c11 c11' eLW c10 e48 e51 t1 t2 t3 l8 L0 rgL eLD eLL nL
  generalize ((w.r.filter fun p => K.contains p.1 && K.contains p.2).map fun p => (ixOf p.1 K, ixOf p.2 K)).map pr2 = R1 at *
  generalize ((w.a.filter K.contains).map (ixOf · K)).map iN = A1 at *
  generalize ((w.b.filter K.contains).map (ixOf · K)).map iN = B1 at *
  generalize K.map iN = KL at *
  generalize w.enc = U at *
  simp [hfin]

end Ev
open PySem PySem.W PyProof.Rows
set_option maxRecDepth 100000 in
set_option maxHeartbeats 0 in
theorem PySem.Challenge.cw_twonamed_k21_whole_kept_holds : PySem.Challenge.rw_twonamed_k21_whole_kept.Holds := by
  w_on; o_law; k_head; (case hw => w_witness2)
  k_fill
  refine Ev.walkL (l := PySem.Challenge.rw_twonamed_k21_whole_kept) rfl rfl rfl (fun w h Y => PySem.W.km_in_of Y) ?F
  case F =>
    intro w mg fa h KX G hmg
    refine' Ev.all_mk KX G hmg ?a0 ?l0 ?c0 ?k0 ?a1 ?l1 ?c1 ?k1 ?a2 ?l2 ?c2 ?k2 ?a3 ?l3 ?c3 ?k3 ?a4 ?l4 ?c4 ?k4 ?a5 ?l5 ?c5 ?k5 ?a6 ?l6 ?c6 ?k6 ?a7 ?l7 ?c7 ?k7 ?a8 ?l8 ?c8 ?k8 ?a9 ?l9 ?c9 ?k9 ?a10 ?l10 ?c10 ?k10 ?a11 ?l11 ?c11 ?k11 ?a12 ?l12 ?c12 ?k12 ?a13 ?l13 ?c13 ?k13 ?a14 ?l14 ?c14 ?k14 ?a15 ?l15 ?c15 ?k15 ?a16 ?l16 ?c16 ?k16 ?a17 ?l17 ?c17 ?k17 ?a18 ?l18 ?c18 ?k18 ?a19 ?l19 ?c19 ?k19 ?z0 ?z1 ?z2 ?z3 ?z4 ?z5 ?z6 ?z7 ?z8 ?z9 ?z10 ?z11 ?z12 ?z13  ?lC ?vC ?nC Ev.pure_law
    (case a0 => k_is); (case l0 => k_is); (case c0 => k_is); (case k0 => k_is)
    (case a1 => k_is); (case l1 => k_is); (case c1 => k_is); (case k1 => k_is)
    (case a2 => k_is); (case l2 => k_is); (case c2 => k_is); (case k2 => k_is)
    (case a3 => k_is); (case l3 => k_is); (case c3 => k_is); (case k3 => k_is)
    (case a4 => k_is); (case l4 => k_is); (case c4 => k_is); (case k4 => k_is)
    (case a5 => k_is); (case l5 => k_is); (case c5 => k_is); (case k5 => k_is)
    (case a6 => k_is); (case l6 => k_is); (case c6 => k_is); (case k6 => k_is)
    (case a7 => k_is); (case l7 => k_is); (case c7 => k_is); (case k7 => k_is)
    (case a8 => k_is); (case l8 => k_is); (case c8 => k_is); (case k8 => k_is)
    (case a9 => k_is); (case l9 => k_is); (case c9 => k_is); (case k9 => k_is)
    (case a10 => k_is); (case l10 => k_is); (case c10 => k_is); (case k10 => k_is)
    (case a11 => k_is); (case l11 => k_is); (case c11 => k_is); (case k11 => k_is)
    (case a12 => k_is); (case l12 => k_is); (case c12 => k_is); (case k12 => k_is)
    (case a13 => k_is); (case l13 => k_is); (case c13 => k_is); (case k13 => k_is)
    (case a14 => k_is); (case l14 => k_is); (case c14 => k_is); (case k14 => k_is)
    (case a15 => k_is); (case l15 => k_is); (case c15 => k_is); (case k15 => k_is)
    (case a16 => k_is); (case l16 => k_is); (case c16 => k_is); (case k16 => k_is)
    (case a17 => k_is); (case l17 => k_is); (case c17 => k_is); (case k17 => k_is)
    (case a18 => k_is); (case l18 => k_is); (case c18 => k_is); (case k18 => k_is)
    (case a19 => k_is); (case l19 => k_is); (case c19 => k_is); (case k19 => k_is)
    (case z0 => k_is)
    (case z1 => k_is)
    (case z2 => k_is)
    (case z3 => k_is)
    (case z4 => k_is)
    (case z5 => k_is)
    (case z6 => k_is)
    (case z7 => k_is)
    (case z8 => k_is)
    (case z9 => k_is)
    (case z10 => k_is)
    (case z11 => k_is)
    (case z12 => k_is)
    (case z13 => k_is)
    (case lC => k_is); (case vC => rfl); (case nC => rfl)
