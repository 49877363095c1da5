import PyProof.Rows.All
import Wide.All
import OpenK.AllK
import Wide.FinOn
import HandS.ForMost
import HandS.Deep
import HandS.Conv
import HandS.IsInst
import HandS.TupAny
import HandS.TupMul
import HandS.Zip
import HandS.Style
import KE.SortData
import KE.GoesEnum
import HandS.More
import HandS.TupSets
import HandS.SetFor
import HandS.Strs
import HandS.Nested
import HandS.HeadWalk
import HandS.EndTab
import HandS.Call
import HandS.Dict
import HandS.Spec
import KE.KDictKeyed
import KE.KeyNested
import KE.SortKeyHeap
import KE.KLam
import KE.KNest
import HandS.Exc
import HandS.ExcOwn
import HandS.TryOnly
import HandS.WordsExc
import HandS.CallSlots
import HandS.ExcIs
import HandS.ExcBuiltin
import HandS.Codes
import PyProof.StrLawsChain
import PySem.Challenge.RW_twonamed_k03_whole_read
set_option Elab.async false
set_option linter.all false
set_option maxRecDepth 100000
set_option maxHeartbeats 8000000
/-! EvA: data in the abstract heap, frozen views, slots. -/
namespace Ev
open PySem PySem.Spec PyProof.Rows L2

/-! ### data at a value -/
mutual
inductive Rp (K : PySem.W.Frag) (H : Hp) : V → PyData → Prop
  | non : Rp K H .non .none
  | bl (b : Bool) : Rp K H (.bl b) (.bool b)
  | int (i : Int) : Rp K H (.int i) (.int i)
  | str (x : Str) : x.length ≤ sizeLine → PyData.strOk x = true → Rp K H (.str x) (.str x)
  | lst {a : Addr} {xs : List V} {ds : List PyData} : SqL K H a xs → xs.length ≤ sizeLine → RpAll K H xs ds → Rp K H (.ref a) (.list ds)
  | tup {a : Addr} {xs : List V} {ds : List PyData} : SqT K H a xs → xs.length ≤ sizeLine → RpAll K H xs ds → Rp K H (.ref a) (.tuple ds)
inductive RpAll (K : PySem.W.Frag) (H : Hp) : List V → List PyData → Prop
  | nil : RpAll K H [] []
  | cons {v : V} {vs : List V} {d : PyData} {ds : List PyData} : Rp K H v d → RpAll K H vs ds → RpAll K H (v :: vs) (d :: ds)
end

theorem sqT_mono {K : PySem.W.Frag} {H H' : Hp} {a : Addr} {xs : List V} (e : Same H H') (h : SqT K H a xs) : SqT K H' a xs := by
  rcases h with (h | ⟨o, h⟩) | h
  · exact .inl (.inl (e _ _ h))
  · exact .inl (.inr ⟨o, e _ _ h⟩)
  · exact .inr h

section
variable {K : PySem.W.Frag} {H H' : Hp}
mutual
theorem Rp.mono (e : Same H H') : ∀ (d : PyData) (v : V), Rp K H v d → Rp K H' v d
  | .none, _, h => by cases h; exact .non
  | .bool _, _, h => by cases h; exact .bl _
  | .int _, _, h => by cases h; exact .int _
  | .str _, _, h => by cases h with | str _ z w => exact .str _ z w
  | .list ds, _, h => by cases h with | lst a z b => exact .lst (e.seq a) z (RpAll.mono e ds _ b)
  | .tuple ds, _, h => by cases h with | tup a z b => exact .tup (sqT_mono e a) z (RpAll.mono e ds _ b)
  | .dict _, _, h => by cases h
theorem RpAll.mono (e : Same H H') : ∀ (ds : List PyData) (vs : List V), RpAll K H vs ds → RpAll K H' vs ds
  | [], _, h => by cases h; exact .nil
  | d :: ds, _, h => by cases h with | cons a b => exact .cons (Rp.mono e d _ a) (RpAll.mono e ds _ b)
end
mutual
theorem Rp.dp : ∀ (d : PyData) (v : V), Rp K H v d → Dp K H v d
  | .none, _, h => by cases h; exact .non
  | .bool _, _, h => by cases h; exact .bl _
  | .int _, _, h => by cases h; exact .int _
  | .str _, _, h => by cases h with | str _ z w => exact .str _
  | .list ds, _, h => by cases h with | lst a z b => exact .lst a (RpAll.dp ds _ b)
  | .tuple ds, _, h => by cases h with | tup a z b => exact .tup a (RpAll.dp ds _ b)
  | .dict _, _, h => by cases h
theorem RpAll.dp : ∀ (ds : List PyData) (vs : List V), RpAll K H vs ds → DpAll K H vs ds
  | [], _, h => by cases h; exact .nil
  | d :: ds, _, h => by cases h with | cons a b => exact .cons (Rp.dp d _ a) (RpAll.dp ds _ b)
end
mutual
theorem Rp.lay : ∀ (d : PyData) (v : V), Rp K H v d → d.canLay0 = true
  | .none, _, h => by cases h; simp [PyData.canLay0]
  | .bool _, _, h => by cases h; simp [PyData.canLay0]
  | .int _, _, h => by cases h; simp [PyData.canLay0]
  | .str _, _, h => by cases h with | str _ z w => simp [PyData.canLay0, w]
  | .list ds, _, h => by cases h with | lst a z b => simp only [PyData.canLay0]; exact RpAll.lay ds _ b
  | .tuple ds, _, h => by cases h with | tup a z b => simp only [PyData.canLay0]; exact RpAll.lay ds _ b
  | .dict _, _, h => by cases h
theorem RpAll.lay : ∀ (ds : List PyData) (vs : List V), RpAll K H vs ds → PyData.canLayAll0 ds = true
  | [], _, h => by simp [PyData.canLayAll0]
  | d :: ds, _, h => by
    cases h with
    | cons a b =>
      simp only [PyData.canLayAll0, Bool.and_eq_true]
      exact ⟨Rp.lay d _ a, RpAll.lay ds _ b⟩
end
theorem RpAll.length : ∀ {ds : List PyData} {vs : List V}, RpAll K H vs ds → vs.length = ds.length
  | [], _, h => by cases h; rfl
  | _ :: ds, _, h => by cases h with | cons a b => simp only [List.length_cons, RpAll.length b]
theorem RpAll.get : ∀ {ds : List PyData} {vs : List V} {i : Nat} {d : PyData}, RpAll K H vs ds → ds[i]? = some d → ∃ v, vs[i]? = some v ∧ Rp K H v d
  | [], _, _, _, _, e => by simp at e
  | d :: ds, _, 0, _, h, e => by
    cases h with
    | cons a b =>
      have : d = _ := Option.some.inj (by simpa using e)
      subst this
      exact ⟨_, rfl, a⟩
  | d :: ds, _, i + 1, _, h, e => by
    cases h with
    | cons a b =>
      obtain ⟨v, h1, h2⟩ := RpAll.get (i := i) b (by simpa using e)
      exact ⟨v, by simpa using h1, h2⟩
theorem RpAll.getV : ∀ {ds : List PyData} {vs : List V} {i : Nat} {v : V}, RpAll K H vs ds → vs[i]? = some v → ∃ d, ds[i]? = some d ∧ Rp K H v d
  | [], _, _, _, h, e => by cases h; simp at e
  | d :: ds, _, 0, _, h, e => by
    cases h with
    | cons a b =>
      have := Option.some.inj (by simpa using e)
      subst this
      exact ⟨d, rfl, a⟩
  | d :: ds, _, i + 1, _, h, e => by
    cases h with
    | cons a b =>
      obtain ⟨v, h1, h2⟩ := RpAll.getV (i := i) b (by simpa using e)
      exact ⟨v, by simpa using h1, h2⟩
theorem RpAll.append : ∀ {ds es : List PyData} {vs us : List V}, RpAll K H vs ds → RpAll K H us es → RpAll K H (vs ++ us) (ds ++ es)
  | [], _, _, _, h, g => by cases h; exact g
  | _ :: _, _, _, _, h, g => by cases h with | cons a b => exact .cons a (RpAll.append b g)
theorem RpAll.take : ∀ (n : Nat) {ds : List PyData} {vs : List V}, RpAll K H vs ds → RpAll K H (vs.take n) (ds.take n)
  | 0, _, _, _ => by simp; exact .nil
  | _ + 1, [], _, h => by cases h; exact .nil
  | n + 1, _ :: _, _, h => by cases h with | cons a b => exact .cons a (RpAll.take n b)
theorem RpAll.drop : ∀ (n : Nat) {ds : List PyData} {vs : List V}, RpAll K H vs ds → RpAll K H (vs.drop n) (ds.drop n)
  | 0, _, _, h => by simpa using h
  | _ + 1, [], _, h => by cases h; exact .nil
  | n + 1, _ :: _, _, h => by cases h with | cons a b => exact RpAll.drop n b
theorem RpAll.reverse : ∀ {ds : List PyData} {vs : List V}, RpAll K H vs ds → RpAll K H vs.reverse ds.reverse
  | [], _, h => by cases h; exact .nil
  | _ :: _, _, h => by
    cases h with
    | cons a b =>
      rw [List.reverse_cons, List.reverse_cons]
      exact RpAll.append (RpAll.reverse b) (.cons a .nil)
theorem RpAll.set : ∀ {ds : List PyData} {vs : List V} (i : Nat) {v : V} {d : PyData}, RpAll K H vs ds → Rp K H v d → RpAll K H (vs.set i v) (ds.set i d)
  | [], _, _, _, _, h, _ => by cases h; exact .nil
  | _ :: _, _, 0, _, _, h, r => by cases h with | cons a b => exact .cons r b
  | _ :: _, _, i + 1, _, _, h, r => by cases h with | cons a b => exact .cons a (RpAll.set i b r)
theorem RpAll.rep : ∀ (n : Nat) {ds : List PyData} {vs : List V}, RpAll K H vs ds → RpAll K H (List.replicate n vs).flatten (List.replicate n ds).flatten
  | 0, _, _, _ => by simp; exact .nil
  | n + 1, _, _, h => by
    rw [List.replicate_succ, List.replicate_succ, List.flatten_cons, List.flatten_cons]
    exact RpAll.append h (RpAll.rep n h)
theorem RpAll.ints : ∀ {ns : List Int} {vs : List V}, RpAll K H vs (ns.map PyData.int) → vs = ns.map V.int
  | [], _, h => by cases h; rfl
  | _ :: _, _, h => by
    cases h with
    | cons a b =>
      cases a
      rw [RpAll.ints b]; rfl
theorem RpAll.of_ints : ∀ (ns : List Int), RpAll K H (ns.map V.int) (ns.map PyData.int)
  | [] => .nil
  | _ :: r => .cons (.int _) (RpAll.of_ints r)
theorem RpAll.bls : ∀ {ns : List Bool} {vs : List V}, RpAll K H vs (ns.map PyData.bool) → vs = ns.map V.bl
  | [], _, h => by cases h; rfl
  | _ :: _, _, h => by
    cases h with
    | cons a b =>
      cases a
      rw [RpAll.bls b]; rfl
theorem RpAll.strs : ∀ {ns : List Str} {vs : List V}, RpAll K H vs (ns.map PyData.str) → vs = ns.map V.str
  | [], _, h => by cases h; rfl
  | _ :: _, _, h => by
    cases h with
    | cons a b =>
      cases a
      rw [RpAll.strs b]; rfl
end

/-! ### the heap grows, and its frozen part -/
/-- all but tables of code objects and things told by their object: these alone may change behind one's back -/
def hard : HO → Prop
  | .ext _ => False
  | .tbl _ => False
  | _ => True
/-! keys of dicts -/
mutual
/-- data as a key -/
def nkOf : PyData → Option NestedKey
  | .int i => some (.num i)
  | .str x => some (.text x)
  | .tuple ds => (nksOf ds).map .tup
  | _ => none
def nksOf : List PyData → Option (List NestedKey)
  | [] => some []
  | d :: ds => (nkOf d).bind fun k => (nksOf ds).map (k :: ·)
end
abbrev Ent := NestedKey × Addr × Value
/-- an entry of a dict: the key and the value as data -/
def DEnt (K : PySem.W.Frag) (Hf : Hp) (x : Ent) (kv : PyData × PyData) : Prop := ∃ v, Rp K Hf (.ref x.2.1) kv.1 ∧ nkOf kv.1 = some x.1 ∧ x.1.depth ≤ 8 ∧ RelV v x.2.2 ∧ Rp K Hf v kv.2
theorem DEnt.mono {K : PySem.W.Frag} {H H' : Hp} (e : Same H H') {x : Ent} {kv : PyData × PyData} (h : DEnt K H x kv) : DEnt K H' x kv :=
  let ⟨v, h1, h2, h3, h4, h5⟩ := h
  ⟨v, h1.mono e _ _, h2, h3, h4, h5.mono e _ _⟩
abbrev DEnts (K : PySem.W.Frag) (Hf : Hp) : List Ent → List (PyData × PyData) → Prop := Paired (DEnt K Hf)
theorem DEnts.mono {K : PySem.W.Frag} {H H' : Hp} (e : Same H H') {xs : List Ent} {kvs : List (PyData × PyData)} (h : DEnts K H xs kvs) : DEnts K H' xs kvs := Paired.mapP h fun _ _ z => z.mono e
/-- the fields of one that puts things together -/
def mkFs (vj vs : V) (p q : Addr) : List (Str × V) := [("judge", vj), ("some", vs), ("things", .ref p), ("put_links", .ref q)]
/-- what a law keeps in mind of the heap, and what may change -/
class Memo where
  inv : Hp → Hp → Prop
  may : Hp → Addr → Prop
  /-- the object of a dict with such entries; are there such? -/
  dic : Addr → List Ent → Heap → Prop
  dOk : Prop
  /-- the class of what puts things together -/
  cm : Addr
  ob : PySem.W.Frag → Hp → V → PyData → Prop
  ob_mono {K : PySem.W.Frag} {Hf Hf' : Hp} {v : V} {d : PyData} : Same Hf Hf' → ob K Hf v d → ob K Hf' v d
  ob_tab {K : PySem.W.Frag} {Hf : Hp} {p : Addr} {xs : List Ent} {kvs : List (PyData × PyData)} : dOk → (p == sysModules) = false → Hf p = some (.ext (dic p xs)) → (xs.map (·.1)).Nodup → DEnts K Hf xs kvs → ob K Hf (.ref p) (.dict kvs)
  ob_mk {K : PySem.W.Frag} {Hf : Hp} {x dx p q : Addr} {vj vs : V} {j sm : PyData} {ts : List PyData} {kvs : List (PyData × PyData)} : dOk → Hf x = some (.ins cm dx (mkFs vj vs p q)) → ob K Hf vj j → Rp K Hf vs sm → Rp K Hf (.ref p) (.list ts) →
    ob K Hf (.ref q) (.dict kvs) → ob K Hf (.ref x) (.list [j, sm, .list ts, .dict kvs])
  may_mono {Hf Hf' : Hp} {p : Addr} : Same Hf Hf' → may Hf p → may Hf' p
  may_upd {Hf : Hp} {p q : Addr} {o : HO} : Hf p = none → (∀ C dx fs, o = .ins C dx fs → C = cm) → may (upd Hf p o) q → may Hf q
  may_ext {H Hf : Hp} {p : Addr} : inv H Hf → may Hf p → ∃ φ, H p = some (.ext φ)
  inv_alloc {H Hf : Hp} {p : Addr} (o : HO) : H p = none → inv H Hf → inv (upd H p o) Hf
  inv_frz {H Hf : Hp} {p : Addr} (o : HO) : Hf p = none → (∃ u, H p = some u) → (∀ C dx fs, o = .ins C dx fs → C = cm) → inv H Hf → inv H (upd Hf p o)
  inv_put {H Hf : Hp} {p : Addr} {o : HO} (o' : HO) : H p = some o → hard o → hard o' → Hf p = none → inv H Hf → inv (upd H p o') Hf
  inv_dic {H Hf : Hp} {p : Addr} {φ : Heap → Prop} (φ' : Heap → Prop) : dOk → H p = some (.ext φ) → ¬ may Hf p → Hf p = none → inv H Hf → inv (upd H p (.ext φ')) Hf
variable [Memo]
/-- what may be frozen -/
def frzb (Hf : Hp) (p : Addr) (o : HO) : Prop := hard o ∨ (∃ φ, o = .ext φ) ∧ ¬ Memo.may Hf p
structure Sub (H Hf : Hp) : Prop where
  same : Same Hf H
  inv : Memo.inv H Hf
  hd : ∀ p o, Hf p = some o → frzb Hf p o
instance {H Hf : Hp} : Coe (Sub H Hf) (Same Hf H) := ⟨Sub.same⟩
theorem Sub.seq {K : PySem.W.Frag} {H Hf : Hp} {a : Addr} {xs : List V} (s : Sub H Hf) (h : SqL K Hf a xs) : SqL K H a xs := s.same.seq h
theorem Sub.free {H Hf : Hp} (s : Sub H Hf) {p : Addr} (h : H p = none) : Hf p = none := s.same.free h
/-- what is hard stands -/
def HardS (H H' : Hp) : Prop := ∀ p o, hard o → H p = some o → H' p = some o
theorem Same.hs {H H' : Hp} (s : Same H H') : HardS H H' := fun p o _ h => s p o h
theorem HardS.trans {H H1 H2 : Hp} (a : HardS H H1) (b : HardS H1 H2) : HardS H H2 := fun p o h q => b p o h (a p o h q)
theorem HardS.seq {K : PySem.W.Frag} {H H' : Hp} {a : Addr} {xs : List V} (e : HardS H H') (h : SqL K H a xs) : SqL K H' a xs := by
  rcases h with (h | ⟨o, h⟩) | h
  · exact .inl (.inl (e _ _ trivial h))
  · exact .inl (.inr ⟨o, e _ _ trivial h⟩)
  · exact .inr h
theorem HardS.sqT {K : PySem.W.Frag} {H H' : Hp} {a : Addr} {xs : List V} (e : HardS H H') (h : SqT K H a xs) : SqT K H' a xs := by
  rcases h with (h | ⟨o, h⟩) | h
  · exact .inl (.inl (e _ _ trivial h))
  · exact .inl (.inr ⟨o, e _ _ trivial h⟩)
  · exact .inr h
def Grow (H Hf H' : Hp) : Prop := ∀ p o, H p = some o → H' p = some o ∨ (Memo.may Hf p ∧ ∃ φ, H' p = some (.ext φ)) ∨ ∃ ps qs, o = .tbl ps ∧ H' p = some (.tbl qs)
structure Ext (H Hf H' Hf' : Hp) : Prop where
  gr : Grow H Hf H'
  fr : Same Hf Hf'
  i0 : Sub H Hf
  sub : Sub H' Hf'
  new : ∀ p o, Hf' p = some o → Hf p = some o ∨ H p = none
  mn : ∀ p, Memo.may Hf' p → Memo.may Hf p ∨ H p = none
theorem Grow.refl (H Hf : Hp) : Grow H Hf H := fun _ _ h => .inl h
theorem Ext.refl {H Hf : Hp} (s : Sub H Hf) : Ext H Hf H Hf := ⟨Grow.refl _ _, Same.refl _, s, s, fun _ _ h => .inl h, fun _ h => .inl h⟩
theorem Ext.hs {H Hf H' Hf' : Hp} (e : Ext H Hf H' Hf') : HardS H H' := fun p o ho h => by
  rcases e.gr p o h with z | ⟨z, _⟩ | ⟨ps, qs, z, _⟩
  · exact z
  · obtain ⟨φ, q⟩ := Memo.may_ext e.i0.inv z
    rw [h] at q
    cases q
    exact ho.elim
  · subst z; exact ho.elim
theorem Ext.lst {H Hf H' Hf' : Hp} (e : Ext H Hf H' Hf') {p : Addr} {vs : List V} (h : H p = some (.lst vs)) : H' p = some (.lst vs) := e.hs _ _ trivial h
theorem Ext.free {H Hf H' Hf' : Hp} (e : Ext H Hf H' Hf') {p : Addr} (h : H' p = none) : H p = none := by
  cases q : H p with
  | none => rfl
  | some o =>
    rcases e.gr p o q with z | ⟨_, φ, z⟩ | ⟨ps, qs, _, z⟩ <;> (rw [h] at z; cases z)
/-- what is not frozen stays so -/
theorem Ext.unf {H Hf H' Hf' : Hp} (e : Ext H Hf H' Hf') {p : Addr} {o : HO} (h : H p = some o) (hn : Hf p = none) : Hf' p = none := by
  cases q : Hf' p with
  | none => rfl
  | some u =>
    rcases e.new p u q with z | z
    · rw [hn] at z; cases z
    · rw [h] at z; cases z
theorem Ext.nmay {H Hf H' Hf' : Hp} (e : Ext H Hf H' Hf') {p : Addr} {o : HO} (h : H p = some o) (hn : ¬ Memo.may Hf p) : ¬ Memo.may Hf' p := fun m => by
  rcases e.mn p m with z | z
  · exact hn z
  · rw [h] at z; cases z
theorem Ext.keepX {H Hf H' Hf' : Hp} (e : Ext H Hf H' Hf') {p : Addr} {φ : Heap → Prop} (h : H p = some (.ext φ)) (hn : ¬ Memo.may Hf p) : H' p = some (.ext φ) := by
  rcases e.gr p _ h with z | ⟨z, _⟩ | ⟨ps, qs, z, _⟩
  · exact z
  · exact absurd z hn
  · cases z
theorem Ext.trans {H Hf H1 Hf1 H2 Hf2 : Hp} (a : Ext H Hf H1 Hf1) (b : Ext H1 Hf1 H2 Hf2) : Ext H Hf H2 Hf2 :=
  ⟨fun p o h => by
    rcases a.gr p o h with z | ⟨z1, φ, z2⟩ | ⟨ps, qs, rfl, z⟩
    · rcases b.gr p o z with y | ⟨y1, φ, y2⟩ | ⟨ps, qs, rfl, y⟩
      · exact .inl y
      · refine .inr (.inl ⟨?_, φ, y2⟩)
        rcases a.mn p y1 with w | w
        · exact w
        · rw [w] at h; cases h
      · exact .inr (.inr ⟨ps, qs, rfl, y⟩)
    · rcases b.gr p _ z2 with y | ⟨y1, ψ, y2⟩ | ⟨ps, qs, y, _⟩
      · exact .inr (.inl ⟨z1, φ, y⟩)
      · exact .inr (.inl ⟨z1, ψ, y2⟩)
      · cases y
    · rcases b.gr p _ z with y | ⟨y1, φ, y2⟩ | ⟨ps', qs', e, y⟩
      · exact .inr (.inr ⟨ps, qs, rfl, y⟩)
      · obtain ⟨ψ, q⟩ := Memo.may_ext b.i0.inv y1
        rw [z] at q; cases q
      · exact .inr (.inr ⟨ps, qs', rfl, y⟩), a.fr.trans b.fr, a.i0, b.sub, fun p o h => by
    rcases b.new p o h with h | h
    · exact a.new p o h
    · exact .inr (a.free h), fun p h => by
    rcases b.mn p h with h | h
    · exact a.mn p h
    · exact .inr (a.free h)⟩
omit [Memo] in
theorem same_upd {H : Hp} {p : Addr} (h : H p = none) (o : HO) : Same H (upd H p o) := fun b u q => by rw [upd_ne (ne_of_none q h)]; exact q
omit [Memo] in
theorem same_put {H Hf : Hp} {p : Addr} (hf : Hf p = none) (o : HO) (s : Same Hf H) : Same Hf (upd H p o) := fun b u q => by
  rw [upd_ne (fun e => by subst e; rw [hf] at q; cases q)]; exact s _ _ q
theorem sub_none {H Hf : Hp} (s : Sub H Hf) {p : Addr} (h : H p = none) : Hf p = none := s.free h
/-- a new object that is not frozen yet -/
theorem Ext.allocO {H Hf : Hp} (s : Sub H Hf) {p : Addr} (h : H p = none) (o : HO) : Ext H Hf (upd H p o) Hf :=
  ⟨fun b u q => .inl (same_upd h o b u q), Same.refl _, s, ⟨same_put (sub_none s h) o s, Memo.inv_alloc o h s.inv, s.hd⟩, fun b u q => .inl q, fun _ q => .inl q⟩
theorem frzb.upd {Hf : Hp} {p q : Addr} {o u : HO} (hf : Hf p = none) (hi : ∀ C dx fs, o = .ins C dx fs → C = Memo.cm) (h : frzb Hf q u) : frzb (upd Hf p o) q u := by
  rcases h with h | ⟨h1, h2⟩
  · exact .inl h
  · exact .inr ⟨h1, fun m => h2 (Memo.may_upd hf hi m)⟩
/-- a new object is frozen later -/
theorem Sub.freezeX {H Hf : Hp} (s : Sub H Hf) {p : Addr} {o : HO} (h : H p = some o) (hf : Hf p = none) (ho : frzb Hf p o) (hi : ∀ C dx fs, o = .ins C dx fs → C = Memo.cm) : Same Hf (upd Hf p o) ∧ Sub H (upd Hf p o) :=
  ⟨same_upd hf o, fun b u q => by
    by_cases e : b = p
    · subst e; rw [upd_same] at q; rw [← q]; exact h
    · rw [upd_ne e] at q; exact s.same _ _ q, Memo.inv_frz o hf ⟨o, h⟩ hi s.inv, fun b u q => by
    by_cases e : b = p
    · subst e; rw [upd_same] at q; cases q; exact ho.upd hf hi
    · rw [upd_ne e] at q; exact (s.hd b u q).upd hf hi⟩
theorem Sub.freeze {H Hf : Hp} (s : Sub H Hf) {p : Addr} {o : HO} (h : H p = some o) (hf : Hf p = none) (ho : hard o := by trivial) (hi : ∀ C dx fs, o = .ins C dx fs → C = Memo.cm := by intro _ _ _ z; cases z) : Same Hf (upd Hf p o) ∧ Sub H (upd Hf p o) :=
  s.freezeX h hf (.inl ho) hi
theorem Ext.alloc {H Hf : Hp} (s : Sub H Hf) {p : Addr} (h : H p = none) (o : HO) (ho : hard o := by trivial) (hi : ∀ C dx fs, o = .ins C dx fs → C = Memo.cm := by intro _ _ _ z; cases z) : Ext H Hf (upd H p o) (upd Hf p o) :=
  have e := Ext.allocO s h o
  have f := e.sub.freeze (p := p) upd_same (sub_none s h) ho hi
  ⟨e.gr, f.1, s, f.2, fun b u q => by
    by_cases c : b = p
    · subst c; exact .inr h
    · rw [upd_ne c] at q; exact .inl q, fun q z => .inl (Memo.may_upd (sub_none s h) hi z)⟩
/-- what is not frozen changes, behind e -/
theorem Ext.pokeX {H0 Hf0 H Hf : Hp} {p : Addr} {o' : HO} (e : Ext H0 Hf0 H Hf) (h0 : H0 p = none) (s : Sub (upd H p o') Hf) : Ext H0 Hf0 (upd H p o') Hf :=
  ⟨fun b u q => by rw [upd_ne (ne_of_none q h0)]; exact e.gr b u q, e.fr, e.i0, s, e.new, e.mn⟩
theorem Sub.put {H Hf : Hp} {p : Addr} {o : HO} (o' : HO) (s : Sub H Hf) (hn : Hf p = none) (hp : H p = some o) (ho : hard o := by trivial) (ho' : hard o' := by trivial) : Sub (upd H p o') Hf :=
  ⟨same_put hn o' s, Memo.inv_put o' hp ho ho' hn s.inv, s.hd⟩
theorem Sub.putD {H Hf : Hp} {p : Addr} {φ : Heap → Prop} (φ' : Heap → Prop) (s : Sub H Hf) (d : Memo.dOk) (hm : ¬ Memo.may Hf p) (hn : Hf p = none) (hp : H p = some (.ext φ)) : Sub (upd H p (.ext φ')) Hf :=
  ⟨same_put hn _ s, Memo.inv_dic φ' d hp hm hn s.inv, s.hd⟩
theorem Ext.poke {H0 Hf0 H Hf : Hp} {p : Addr} {o : HO} (o' : HO) (e : Ext H0 Hf0 H Hf) (h0 : H0 p = none) (hn : Hf p = none) (hp : H p = some o) (ho : hard o := by trivial) (ho' : hard o' := by trivial) : Ext H0 Hf0 (upd H p o') Hf :=
  e.pokeX h0 (e.sub.put o' hn hp ho ho')
/-- frozen, behind e -/
theorem Ext.frzX {H0 Hf0 H Hf : Hp} {p : Addr} {o : HO} (e : Ext H0 Hf0 H Hf) (h0 : H0 p = none) (hn : Hf p = none) (hp : H p = some o) (ho : frzb Hf p o) (hi : ∀ C dx fs, o = .ins C dx fs → C = Memo.cm) : Ext H0 Hf0 H (upd Hf p o) :=
  have f := e.sub.freezeX hp hn ho hi
  ⟨e.gr, e.fr.trans f.1, e.i0, f.2, fun b u q => by
    by_cases c : b = p
    · subst c; exact .inr h0
    · rw [upd_ne c] at q; exact e.new b u q, fun q z => e.mn q (Memo.may_upd hn hi z)⟩
theorem Ext.frz {H0 Hf0 H Hf : Hp} {p : Addr} {o : HO} (e : Ext H0 Hf0 H Hf) (h0 : H0 p = none) (hn : Hf p = none) (hp : H p = some o) (ho : hard o := by trivial) (hi : ∀ C dx fs, o = .ins C dx fs → C = Memo.cm := by intro _ _ _ z; cases z) : Ext H0 Hf0 H (upd Hf p o) :=
  e.frzX h0 hn hp (.inl ho) hi

/-! ### slots -/
inductive Sl where
  | un
  | val (d : PyData)
  | own (ds : List PyData)
  | dic (ks : List Str) (ds : List PyData)
  | ob (d : PyData)
  /-- a dict of the frame's own -/
  | odc (kvs : List (PyData × PyData))
  /-- what puts things together, and may still be changed -/
  | mk (j sm : PyData) (ts : List PyData) (kvs : List (PyData × PyData))
abbrev Rho := List Sl
def kvOf : List Str → List V → List (L2.Key × V)
  | k :: ks, v :: vs => (.inr k, v) :: kvOf ks vs
  | _, _ => []
/-- a dict with texts as keys, which never changes -/
def DicAt (K : PySem.W.Frag) (H : Hp) (v : V) (ks : List Str) (ds : List PyData) : Prop := ∃ p vs, v = .ref p ∧ H p = some (.dK (kvOf ks vs)) ∧ RpAll K H vs ds
omit [Memo] in
theorem DicAt.mono {K : PySem.W.Frag} {H H' : Hp} {v : V} {ks : List Str} {ds : List PyData} (d : DicAt K H v ks ds) (e : Same H H') : DicAt K H' v ks ds :=
  let ⟨p, vs, h1, h2, h3⟩ := d; ⟨p, vs, h1, e _ _ h2, h3.mono e _ _⟩
/-- a dict of one's own -/
def DOwn (K : PySem.W.Frag) (H Hf : Hp) (p : Addr) (kvs : List (PyData × PyData)) : Prop :=
  Hf p = none ∧ ¬ Memo.may Hf p ∧ Memo.dOk ∧ (p == sysModules) = false ∧ ∃ xs, H p = some (.ext (Memo.dic p xs)) ∧ (xs.map (·.1)).Nodup ∧ DEnts K Hf xs kvs
def MkAt (K : PySem.W.Frag) (H Hf : Hp) (v : V) (j sm : PyData) (ts : List PyData) (kvs : List (PyData × PyData)) : Prop :=
  ∃ x dx vj vs p q tvs, v = .ref x ∧ H x = some (.ins Memo.cm dx (mkFs vj vs p q)) ∧ Hf x = none ∧ Memo.ob K Hf vj j ∧ Rp K Hf vs sm ∧ H p = some (.lst tvs) ∧ tvs.length ≤ sizeLine ∧ RpAll K Hf tvs ts ∧ Hf p = none ∧ DOwn K H Hf q kvs

/-- slots whose things never change as far as it is seen -/
def Sl.isSt : Sl → Bool
  | .dic _ _ => true
  | .ob _ => true
  | _ => false
def StAt (K : PySem.W.Frag) (H : Hp) (v : V) : Sl → Prop
  | .dic ks ds => DicAt K H v ks ds
  | .ob d => Memo.ob K H v d
  | _ => False
theorem StAt.mono {K : PySem.W.Frag} {H H' : Hp} {v : V} {x : Sl} (h : StAt K H v x) (e : Same H H') : StAt K H' v x := by
  cases x with
  | dic ks ds => exact DicAt.mono h e
  | ob d => exact Memo.ob_mono e h
  | _ => exact h.elim
/-- what a slot's thing is -/
def SlAt (K : PySem.W.Frag) (H Hf : Hp) (v : V) : Sl → Prop
  | .un => True
  | .val d => Rp K Hf v d
  | .own ds => ∃ p vs, v = .ref p ∧ H p = some (.lst vs) ∧ vs.length ≤ sizeLine ∧ RpAll K Hf vs ds ∧ Hf p = none
  | .dic ks ds => DicAt K Hf v ks ds
  | .ob d => Memo.ob K Hf v d
  | .odc kvs => ∃ p, v = .ref p ∧ DOwn K H Hf p kvs
  | .mk j sm ts kvs => MkAt K H Hf v j sm ts kvs
/-- the places that are a slot's own -/
def Owns (H : Hp) (v : V) (q : Addr) : Sl → Prop
  | .own _ => v = .ref q
  | .odc _ => v = .ref q
  | .mk _ _ _ _ => v = .ref q ∨ ∃ x dx vj vs p r, v = .ref x ∧ H x = some (.ins Memo.cm dx (mkFs vj vs p r)) ∧ (q = p ∨ q = r)
  | _ => False
theorem mkFs_inj {vj vs vj' vs' : V} {p q p' q' : Addr} (h : mkFs vj vs p q = mkFs vj' vs' p' q') : vj = vj' ∧ vs = vs' ∧ p = p' ∧ q = q' := by
  simp only [mkFs, List.cons.injEq, Prod.mk.injEq, V.ref.injEq, true_and, and_true] at h
  exact h
section
variable {K : PySem.W.Frag} {H Hf H' Hf' : Hp} {v : V} {s : Sl} {p q : Addr}
theorem DOwn.ext {kvs : List (PyData × PyData)} (h : DOwn K H Hf p kvs) (e : Ext H Hf H' Hf') : DOwn K H' Hf' p kvs :=
  let ⟨h1, h2, h3, h4, xs, h5, h6, h7⟩ := h
  ⟨e.unf h5 h1, e.nmay h5 h2, h3, h4, xs, e.keepX h5 h2, h6, h7.mono e.fr⟩
theorem MkAt.ext {j sm : PyData} {ts : List PyData} {kvs : List (PyData × PyData)} (h : MkAt K H Hf v j sm ts kvs) (e : Ext H Hf H' Hf') : MkAt K H' Hf' v j sm ts kvs :=
  let ⟨x, dx, vj, vs, p, q, tvs, h1, h2, h3, h4, h5, h6, h7, h8, h9, h10⟩ := h
  ⟨x, dx, vj, vs, p, q, tvs, h1, e.hs _ _ trivial h2, e.unf h2 h3, Memo.ob_mono e.fr h4, h5.mono e.fr _ _, e.lst h6, h7, h8.mono e.fr _ _, e.unf h6 h9, h10.ext e⟩
theorem SlAt.ext (h : SlAt K H Hf v s) (e : Ext H Hf H' Hf') : SlAt K H' Hf' v s := by
  cases s with
  | un => trivial
  | val d => exact Rp.mono e.fr _ _ h
  | own ds =>
    obtain ⟨p, vs, h1, h2, h3, h4, h5⟩ := h
    exact ⟨p, vs, h1, e.lst h2, h3, h4.mono e.fr _ _, e.unf h2 h5⟩
  | dic ks ds => exact DicAt.mono h e.fr
  | ob d => exact Memo.ob_mono e.fr h
  | odc kvs => obtain ⟨p, h1, h2⟩ := h; exact ⟨p, h1, h2.ext e⟩
  | mk j sm ts kvs => exact MkAt.ext h e
theorem Owns.back (h : SlAt K H Hf v s) (e : HardS H H') (o : Owns H' v q s) : Owns H v q s := by
  cases s with
  | mk j sm ts kvs =>
    rcases o with o | ⟨x, dx, vj, vs, p, r, rfl, o1, o2⟩
    · exact .inl o
    · obtain ⟨x', dx', vj', vs', p', r', tvs, h1, h2, _⟩ := h
      cases h1
      have := e _ (.ins _ _ _) trivial h2
      rw [o1] at this
      cases mkFs_inj (by have := Option.some.inj this; injection this)
      rename_i a b
      obtain ⟨rfl, rfl, rfl⟩ := b
      exact .inr ⟨_, _, _, _, _, _, rfl, h2, o2⟩
  | own _ => exact o
  | odc _ => exact o
  | _ => exact o.elim
/-- own places stand in the heap, not frozen -/
theorem Owns.at (h : SlAt K H Hf v s) (o : Owns H v q s) : Hf q = none ∧ ∃ u, H q = some u := by
  cases s with
  | own ds =>
    obtain ⟨p, vs, rfl, h2, h3, h4, h5⟩ := h
    cases o
    exact ⟨h5, _, h2⟩
  | odc kvs =>
    obtain ⟨p, rfl, h1, h2, h3, h4, xs, h5, _⟩ := h
    cases o
    exact ⟨h1, _, h5⟩
  | mk j sm ts kvs =>
    obtain ⟨x, dx, vj, vs, p, r, tvs, rfl, h2, h3, h4, h5, h6, h7, h8, h9, h10, h11, h12, h13, xs, h14, _⟩ := h
    rcases o with o | ⟨x', dx', vj', vs', p', r', o1, o2, o3⟩
    · cases o; exact ⟨h3, _, h2⟩
    · cases o1
      rw [o2] at h2
      obtain ⟨_, _, rfl, rfl⟩ := mkFs_inj (by have := Option.some.inj h2; injection this)
      rcases o3 with rfl | rfl
      · exact ⟨h9, _, h6⟩
      · exact ⟨h10, _, h14⟩
  | _ => exact o.elim
/-- what is another's changes -/
theorem SlAt.upd {o : HO} (h : SlAt K H Hf v s) (n : ¬ Owns H v p s) : SlAt K (upd H p o) Hf v s := by
  cases s with
  | own ds =>
    obtain ⟨q, vs, rfl, h2, h3⟩ := h
    exact ⟨q, vs, rfl, by rw [upd_ne (fun e => n (by subst e; rfl))]; exact h2, h3⟩
  | odc kvs =>
    obtain ⟨q, rfl, h1, h2, h3, h4, xs, h5, h6⟩ := h
    exact ⟨q, rfl, h1, h2, h3, h4, xs, by rw [upd_ne (fun e => n (by subst e; rfl))]; exact h5, h6⟩
  | mk j sm ts kvs =>
    obtain ⟨x, dx, vj, vs, q, r, tvs, rfl, h2, h3, h4, h5, h6, h7, h8, h9, h10, h11, h12, h13, xs, h14, h15⟩ := h
    have e1 : x ≠ p := fun e => n (by subst e; exact .inl rfl)
    have e2 : q ≠ p := fun e => n (by subst e; exact .inr ⟨x, dx, vj, vs, q, r, rfl, h2, .inl rfl⟩)
    have e3 : r ≠ p := fun e => n (by subst e; exact .inr ⟨x, dx, vj, vs, q, r, rfl, h2, .inr rfl⟩)
    exact ⟨x, dx, vj, vs, q, r, tvs, rfl, by rw [upd_ne e1]; exact h2, h3, h4, h5, by rw [upd_ne e2]; exact h6, h7, h8, h9, h10, h11, h12, h13, xs, by rw [upd_ne e3]; exact h14, h15⟩
  | _ => exact h
theorem Owns.upd {o : HO} (h : SlAt K H Hf v s) (n : ¬ Owns H v p s) (ow : Owns (upd H p o) v q s) : Owns H v q s := by
  cases s with
  | mk j sm ts kvs =>
    rcases ow with ow | ⟨x, dx, vj, vs, a, b, rfl, o1, o2⟩
    · exact .inl ow
    · have e1 : x ≠ p := fun e => n (by subst e; exact .inl rfl)
      rw [upd_ne e1] at o1
      exact .inr ⟨x, dx, vj, vs, a, b, rfl, o1, o2⟩
  | own _ => exact ow
  | odc _ => exact ow
  | _ => exact ow.elim
end
structure ER (K : PySem.W.Frag) (σ : L2.St) (H Hf : Hp) (ρ : Rho) : Prop where
  len : ρ.length = σ.length
  sub : Sub H Hf
  at_ : ∀ (i : Nat) s, ρ[i]? = some s → s ≠ .un → ∃ v, σ[i]? = some (some v) ∧ SlAt K H Hf v s
  inj : ∀ (i j : Nat) si sj vi vj p, ρ[i]? = some si → ρ[j]? = some sj → σ[i]? = some (some vi) → σ[j]? = some (some vj) → Owns H vi p si → Owns H vj p sj → i = j
section
variable {K : PySem.W.Frag} {σ : L2.St} {H Hf H' Hf' : Hp} {ρ : Rho}
theorem ER.val (r : ER K σ H Hf ρ) (i : Nat) (d : PyData) (h : ρ[i]? = some (.val d)) : ∃ v, σ[i]? = some (some v) ∧ Rp K Hf v d := r.at_ i _ h (fun z => nomatch z)
theorem ER.own (r : ER K σ H Hf ρ) (i : Nat) (ds : List PyData) (h : ρ[i]? = some (.own ds)) : ∃ p vs, σ[i]? = some (some (.ref p)) ∧ H p = some (.lst vs) ∧ vs.length ≤ sizeLine ∧ RpAll K Hf vs ds ∧ Hf p = none := by
  obtain ⟨v, h1, p, vs, rfl, h2⟩ := r.at_ i _ h (fun z => nomatch z)
  exact ⟨p, vs, h1, h2⟩
theorem ER.dic (r : ER K σ H Hf ρ) (i : Nat) (ks : List Str) (ds : List PyData) (h : ρ[i]? = some (.dic ks ds)) : ∃ v, σ[i]? = some (some v) ∧ DicAt K Hf v ks ds := r.at_ i _ h (fun z => nomatch z)
theorem ER.ob (r : ER K σ H Hf ρ) (i : Nat) (d : PyData) (h : ρ[i]? = some (.ob d)) : ∃ v, σ[i]? = some (some v) ∧ Memo.ob K Hf v d := r.at_ i _ h (fun z => nomatch z)
theorem ER.odc (r : ER K σ H Hf ρ) (i : Nat) (kvs : List (PyData × PyData)) (h : ρ[i]? = some (.odc kvs)) : ∃ p, σ[i]? = some (some (.ref p)) ∧ DOwn K H Hf p kvs := by
  obtain ⟨v, h1, p, rfl, h2⟩ := r.at_ i _ h (fun z => nomatch z)
  exact ⟨p, h1, h2⟩
theorem ER.mk_ (r : ER K σ H Hf ρ) (i : Nat) {j sm : PyData} {ts : List PyData} {kvs : List (PyData × PyData)} (h : ρ[i]? = some (.mk j sm ts kvs)) : ∃ v, σ[i]? = some (some v) ∧ MkAt K H Hf v j sm ts kvs := r.at_ i _ h (fun z => nomatch z)
/-- where a slot's value is known, its thing is there -/
theorem ER.sl (r : ER K σ H Hf ρ) {i : Nat} {s : Sl} {v : V} (h : ρ[i]? = some s) (hv : σ[i]? = some (some v)) : SlAt K H Hf v s := by
  by_cases c : s = .un
  · subst c; trivial
  · obtain ⟨u, h1, h2⟩ := r.at_ i s h c
    rw [hv] at h1
    cases h1
    exact h2
theorem ER.ext (r : ER K σ H Hf ρ) (e : Ext H Hf H' Hf') : ER K σ H' Hf' ρ where
  len := r.len
  sub := e.sub
  at_ := fun i s h n => let ⟨v, h1, h2⟩ := r.at_ i s h n; ⟨v, h1, h2.ext e⟩
  inj := fun i j si sj vi vj p hi hj wi wj oi oj => r.inj i j si sj vi vj p hi hj wi wj (Owns.back (r.sl hi wi) e.hs oi) (Owns.back (r.sl hj wj) e.hs oj)
/-- a slot is given a thing -/
theorem ER.put (r : ER K σ H Hf ρ) {i : Nat} {v : V} {s : Sl} (hs : SlAt K H Hf v s) (hd : ∀ p, Owns H v p s → ∀ (j : Nat) sj vj, i ≠ j → ρ[j]? = some sj → σ[j]? = some (some vj) → ¬ Owns H vj p sj) : ER K (σ.set i (some v)) H Hf (ρ.set i s) where
  len := by simp [r.len]
  sub := r.sub
  at_ := fun j t h n => by
    by_cases hj : i = j
    · subst hj
      by_cases hl : i < ρ.length
      · rw [List.getElem?_set_self hl] at h
        cases h
        exact ⟨v, List.getElem?_set_self (by rw [← r.len]; exact hl), hs⟩
      · rw [List.getElem?_eq_none (by simpa using hl)] at h; cases h
    · rw [List.getElem?_set_ne hj] at h
      obtain ⟨u, h1, h2⟩ := r.at_ j t h n
      exact ⟨u, by rw [List.getElem?_set_ne hj]; exact h1, h2⟩
  inj := fun j k sj sk vj vk p hj hk wj wk oj ok => by
    by_cases e1 : i = j
    · subst e1
      by_cases e2 : i = k
      · exact e2
      · by_cases hl : i < ρ.length
        · rw [List.getElem?_set_self hl] at hj
          rw [List.getElem?_set_self (by rw [← r.len]; exact hl)] at wj
          cases hj; cases wj
          rw [List.getElem?_set_ne e2] at hk wk
          exact absurd ok (hd p oj k sk vk e2 hk wk)
        · rw [List.getElem?_eq_none (by simpa using hl)] at hj; cases hj
    · rw [List.getElem?_set_ne e1] at hj wj
      by_cases e2 : i = k
      · subst e2
        by_cases hl : i < ρ.length
        · rw [List.getElem?_set_self hl] at hk
          rw [List.getElem?_set_self (by rw [← r.len]; exact hl)] at wk
          cases hk; cases wk
          exact absurd oj (hd p ok j sj vj e1 hj wj)
        · rw [List.getElem?_eq_none (by simpa using hl)] at hk; cases hk
      · rw [List.getElem?_set_ne e2] at hk wk
        exact r.inj j k sj sk vj vk p hj hk wj wk oj ok
/-- a slot is given a value -/
theorem ER.set (r : ER K σ H Hf ρ) {i : Nat} {v : V} {d : PyData} (hv : Rp K Hf v d) : ER K (σ.set i (some v)) H Hf (ρ.set i (.val d)) := r.put hv fun _ z => z.elim
theorem ER.setS (r : ER K σ H Hf ρ) {i : Nat} {v : V} {x0 : Sl} (h0 : x0.isSt = true) (hv : StAt K Hf v x0) : ER K (σ.set i (some v)) H Hf (ρ.set i x0) := by
  cases x0 <;> first | (cases h0; done) | exact r.put hv fun _ z => z.elim
theorem ER.setD (r : ER K σ H Hf ρ) {i : Nat} {v : V} {ks0 : List Str} {ds0 : List PyData} (hv : DicAt K Hf v ks0 ds0) : ER K (σ.set i (some v)) H Hf (ρ.set i (.dic ks0 ds0)) := r.setS rfl hv
/-- no slot owns what is new -/
def NewAt (σ : L2.St) (H : Hp) (ρ : Rho) (p : Addr) : Prop := ∀ (j : Nat) sj vj, ρ[j]? = some sj → σ[j]? = some (some vj) → ¬ Owns H vj p sj
theorem ER.newAt (r : ER K σ H Hf ρ) (e : Ext H Hf H' Hf') {p : Addr} (h : H p = none) : NewAt σ H' ρ p := fun j sj vj hj wj o => by
  obtain ⟨_, u, z⟩ := Owns.at (r.sl hj wj) (Owns.back (r.sl hj wj) e.hs o)
  rw [h] at z; cases z
/-- a slot is given a new list of its own -/
theorem ER.setO (r : ER K σ H Hf ρ) {i : Nat} {p : Addr} {vs : List V} {ds : List PyData} (hp : H p = some (.lst vs)) (hz : vs.length ≤ sizeLine) (hv : RpAll K Hf vs ds) (hn : Hf p = none) (hnew : NewAt σ H ρ p) : ER K (σ.set i (some (.ref p))) H Hf (ρ.set i (.own ds)) :=
  r.put ⟨p, vs, rfl, hp, hz, hv, hn⟩ fun q o j sj vj _ hj wj => by cases o; exact hnew j sj vj hj wj
theorem ER.setDO (r : ER K σ H Hf ρ) {i : Nat} {p : Addr} {kvs : List (PyData × PyData)} (h : DOwn K H Hf p kvs) (hnew : NewAt σ H ρ p) : ER K (σ.set i (some (.ref p))) H Hf (ρ.set i (.odc kvs)) :=
  r.put ⟨p, rfl, h⟩ fun q o j sj vj _ hj wj => by cases o; exact hnew j sj vj hj wj
/-- a slot is forgotten -/
theorem ER.unset (r : ER K σ H Hf ρ) {i : Nat} : ER K (σ.set i none) H Hf (ρ.set i .un) where
  len := by simp [r.len]
  sub := r.sub
  at_ := fun j t h n => by
    by_cases hj : i = j
    · subst hj
      by_cases hl : i < ρ.length
      · rw [List.getElem?_set_self hl] at h; cases h; exact absurd rfl n
      · rw [List.getElem?_eq_none (by simpa using hl)] at h; cases h
    · rw [List.getElem?_set_ne hj] at h
      obtain ⟨u, h1, h2⟩ := r.at_ j t h n
      exact ⟨u, by rw [List.getElem?_set_ne hj]; exact h1, h2⟩
  inj := fun j k sj sk vj vk p hj hk wj wk oj ok => by
    have no : ∀ (j : Nat) sj vj, (ρ.set i .un)[j]? = some sj → Owns H vj p sj → i ≠ j := fun j sj vj h o e => by
      subst e
      by_cases hl : i < ρ.length
      · rw [List.getElem?_set_self hl] at h; cases h; exact o.elim
      · rw [List.getElem?_eq_none (by simpa using hl)] at h; cases h
    have e1 := no j sj vj hj oj
    have e2 := no k sk vk hk ok
    rw [List.getElem?_set_ne e1] at hj wj
    rw [List.getElem?_set_ne e2] at hk wk
    exact r.inj j k sj sk vj vk p hj hk wj wk oj ok
def wipeR (ρ : Rho) : List Nat → Rho
  | [] => ρ
  | v :: vs => (wipeR ρ vs).set v .un
theorem ER.wipe (r : ER K σ H Hf ρ) : ∀ vs : List Nat, ER K (L2.wipe σ vs) H Hf (wipeR ρ vs)
  | [] => r
  | _ :: vs => (ER.wipe r vs).unset
/-- a slot's own thing changes -/
theorem ER.poke (r : ER K σ H Hf ρ) {i : Nat} {s s' : Sl} {v : V} {p : Addr} {o' : HO} (hi : ρ[i]? = some s) (hs : σ[i]? = some (some v)) (ho : Owns H v p s) (sub' : Sub (upd H p o') Hf) (hn : SlAt K (upd H p o') Hf v s') (hd : ∀ q, Owns (upd H p o') v q s' → Owns H v q s) : ER K σ (upd H p o') Hf (ρ.set i s') := by
  have hil : i < ρ.length := (List.getElem?_eq_some_iff.mp hi).1
  have no : ∀ (j : Nat) sj vj, i ≠ j → ρ[j]? = some sj → σ[j]? = some (some vj) → ¬ Owns H vj p sj := fun j sj vj n hj wj o => n (r.inj i j s sj v vj p hi hj hs wj ho o)
  refine ⟨by simp [r.len], sub', fun j t h n => ?_, fun j k sj sk vj vk q hj hk wj wk oj ok => ?_⟩
  · by_cases hj : i = j
    · subst hj
      rw [List.getElem?_set_self hil] at h
      cases h
      exact ⟨v, hs, hn⟩
    · rw [List.getElem?_set_ne hj] at h
      obtain ⟨u, h1, h2⟩ := r.at_ j t h n
      exact ⟨u, h1, h2.upd (no j t u hj h h1)⟩
  · have old : ∀ (j : Nat) sj vj, (ρ.set i s')[j]? = some sj → σ[j]? = some (some vj) → Owns (upd H p o') vj q sj → ∃ tj, ρ[j]? = some tj ∧ Owns H vj q tj := fun j sj vj h w o => by
      by_cases hj : i = j
      · subst hj
        rw [List.getElem?_set_self hil] at h
        cases h
        rw [hs] at w
        cases w
        exact ⟨s, hi, hd q o⟩
      · rw [List.getElem?_set_ne hj] at h
        exact ⟨sj, h, Owns.upd (r.sl h w) (no j sj vj hj h w) o⟩
    obtain ⟨tj, h1, h2⟩ := old j sj vj hj wj oj
    obtain ⟨tk, h3, h4⟩ := old k sk vk hk wk ok
    exact r.inj j k tj tk vj vk q h1 h3 wj wk h2 h4
/-- the frozen part grows at a slot's own -/
theorem SlAt.frz {s : Sl} {v : V} {p : Addr} {o : HO} (h : SlAt K H Hf v s) (n : ¬ Owns H v p s) (hp : H p = some o) (hn : Hf p = none) (hi : ∀ C dx fs, o = .ins C dx fs → C = Memo.cm) : SlAt K H (L2.upd Hf p o) v s := by
  have sm := same_upd hn o
  cases s with
  | un => trivial
  | val d => exact Rp.mono sm _ _ h
  | own ds =>
    obtain ⟨q, vs, rfl, h2, h3, h4, h5⟩ := h
    exact ⟨q, vs, rfl, h2, h3, h4.mono sm _ _, by rw [L2.upd_ne (fun e => n (by subst e; rfl))]; exact h5⟩
  | dic ks ds => exact DicAt.mono h sm
  | ob d => exact Memo.ob_mono sm h
  | odc kvs =>
    obtain ⟨q, rfl, h1, h2, h3, h4, xs, h5, h6, h7⟩ := h
    exact ⟨q, rfl, by rw [L2.upd_ne (fun e => n (by subst e; rfl))]; exact h1, fun m => h2 (Memo.may_upd hn hi m), h3, h4, xs, h5, h6, h7.mono sm⟩
  | mk j sm' ts kvs =>
    obtain ⟨x, dx, vj, vs, q, r, tvs, rfl, h2, h3, h4, h5, h6, h7, h8, h9, h10, h11, h12, h13, xs, h14, h15, h16⟩ := h
    have e1 : x ≠ p := fun e => n (by subst e; exact .inl rfl)
    have e2 : q ≠ p := fun e => n (by subst e; exact .inr ⟨x, dx, vj, vs, q, r, rfl, h2, .inl rfl⟩)
    have e3 : r ≠ p := fun e => n (by subst e; exact .inr ⟨x, dx, vj, vs, q, r, rfl, h2, .inr rfl⟩)
    exact ⟨x, dx, vj, vs, q, r, tvs, rfl, h2, by rw [L2.upd_ne e1]; exact h3, Memo.ob_mono sm h4, h5.mono sm _ _, h6, h7, h8.mono sm _ _, by rw [L2.upd_ne e2]; exact h9, by rw [L2.upd_ne e3]; exact h10, fun m => h11 (Memo.may_upd hn hi m), h12, h13, xs, h14, h15, h16.mono sm⟩
end
/-- an own thing becomes one that never changes again -/
def frzS : Sl → Sl
  | .own ds => .val (.list ds)
  | .odc kvs => .ob (.dict kvs)
  | .mk j sm ts kvs => .ob (.list [j, sm, .list ts, .dict kvs])
  | s => s
def frz1 : Nat → Rho → Rho
  | _, [] => []
  | 0, s :: r => frzS s :: r
  | n + 1, s :: r => s :: frz1 n r
theorem frz1_set : ∀ {i : Nat} {ρ : Rho} {s : Sl}, ρ[i]? = some s → frz1 i ρ = ρ.set i (frzS s)
  | 0, t :: r, s, h => by
    have e : t = s := by simpa using h
    subst e; rfl
  | i + 1, t :: r, s, h => by
    rw [frz1, List.set_cons_succ, frz1_set (i := i) (by simpa using h)]
theorem frz1_none : ∀ {i : Nat} {ρ : Rho}, ρ[i]? = none → frz1 i ρ = ρ
  | _, [], _ => by cases ‹Nat› <;> rfl
  | 0, s :: r, h => by simp at h
  | i + 1, s :: r, h => by
    rw [frz1, frz1_none (i := i) (by simpa using h)]
def frzs : List Nat → Rho → Rho
  | [], ρ => ρ
  | i :: l, ρ => frzs l (frz1 i ρ)
/-- H₀, Hf₀: the entry; u: what is put together by this frame. What stood there stands, own things are younger -/
structure SR (K : PySem.W.Frag) (u : V) (H0 Hf0 : Hp) (σ : L2.St) (H Hf : Hp) (ρ : Rho) : Prop where
  er : ER K σ H Hf ρ
  ext : Ext H0 Hf0 H Hf
  ny : ∀ (i : Nat) s v p, ρ[i]? = some s → σ[i]? = some (some v) → Owns H v p s → H0 p = none
  me : ∀ (i : Nat) j sm ts kvs v, ρ[i]? = some (.mk j sm ts kvs) → σ[i]? = some (some v) → v = u
section
variable {K : PySem.W.Frag} {u : V} {H0 Hf0 : Hp} {σ : L2.St} {H Hf H' Hf' : Hp} {ρ : Rho}
theorem SR.ext' (r : SR K u H0 Hf0 σ H Hf ρ) (e : Ext H Hf H' Hf') : SR K u H0 Hf0 σ H' Hf' ρ := ⟨r.er.ext e, r.ext.trans e, fun i s v p hi wi o => r.ny i s v p hi wi (Owns.back (r.er.sl hi wi) e.hs o), r.me⟩
/-- a slot's own thing is frozen -/
theorem SR.frzP (r : SR K u H0 Hf0 σ H Hf ρ) {i : Nat} {s s' : Sl} {v : V} {p : Addr} {o : HO} (hi : ρ[i]? = some s) (hs : σ[i]? = some (some v)) (ho : Owns H v p s) (hp : H p = some o) (hf : frzb Hf p o) (hc : ∀ C dx fs, o = .ins C dx fs → C = Memo.cm)
    (hn : SlAt K H (upd Hf p o) v s') (hd : ∀ q, Owns H v q s' → Owns H v q s) (hm : ∀ j sm ts kvs, s' = .mk j sm ts kvs → v = u) : SR K u H0 Hf0 σ H (upd Hf p o) (ρ.set i s') ∧ Same Hf (upd Hf p o) := by
  have hil : i < ρ.length := (List.getElem?_eq_some_iff.mp hi).1
  have nf := (Owns.at (r.er.sl hi hs) ho).1
  obtain ⟨s1, s2⟩ := r.er.sub.freezeX hp nf hf hc
  have no : ∀ (j : Nat) sj vj, i ≠ j → ρ[j]? = some sj → σ[j]? = some (some vj) → ¬ Owns H vj p sj := fun j sj vj n hj wj o => n (r.er.inj i j s sj v vj p hi hj hs wj ho o)
  have old : ∀ (j : Nat) sj vj q, (ρ.set i s')[j]? = some sj → σ[j]? = some (some vj) → Owns H vj q sj → ∃ tj, ρ[j]? = some tj ∧ Owns H vj q tj := fun j sj vj q h w o => by
    by_cases hj : i = j
    · subst hj
      rw [List.getElem?_set_self hil] at h
      cases h
      rw [hs] at w
      cases w
      exact ⟨s, hi, hd q o⟩
    · rw [List.getElem?_set_ne hj] at h
      exact ⟨sj, h, o⟩
  refine ⟨⟨⟨by simp [r.er.len], s2, fun j t h n => ?_, fun j k sj sk vj vk q hj hk wj wk oj ok => ?_⟩, r.ext.frzX (r.ny i s v p hi hs ho) nf hp hf hc, fun j sj vj q hj wj oj => ?_, fun j a b c d w hj hw => ?_⟩, s1⟩
  · by_cases hj : i = j
    · subst hj
      rw [List.getElem?_set_self hil] at h
      cases h
      exact ⟨v, hs, hn⟩
    · rw [List.getElem?_set_ne hj] at h
      obtain ⟨w, h1, h2⟩ := r.er.at_ j t h n
      exact ⟨w, h1, h2.frz (no j t w hj h h1) hp nf hc⟩
  · obtain ⟨tj, h1, h2⟩ := old j sj vj q hj wj oj
    obtain ⟨tk, h3, h4⟩ := old k sk vk q hk wk ok
    exact r.er.inj j k tj tk vj vk q h1 h3 wj wk h2 h4
  · obtain ⟨tj, h1, h2⟩ := old j sj vj q hj wj oj
    exact r.ny j tj vj q h1 wj h2
  · by_cases e : i = j
    · subst e
      rw [List.getElem?_set_self hil] at hj
      cases hj
      rw [hs] at hw
      cases hw
      exact hm _ _ _ _ rfl
    · rw [List.getElem?_set_ne e] at hj
      exact r.me j a b c d w hj hw
theorem SR.frz1 (r : SR K u H0 Hf0 σ H Hf ρ) (i : Nat) : ∃ Hf', SR K u H0 Hf0 σ H Hf' (frz1 i ρ) ∧ Same Hf Hf' := by
  cases h : ρ[i]? with
  | none => rw [frz1_none h]; exact ⟨Hf, r, Same.refl _⟩
  | some s =>
    rw [frz1_set h]
    have same : ρ.set i s = ρ := by
      obtain ⟨hl, e⟩ := List.getElem?_eq_some_iff.mp h
      rw [← e, List.set_getElem_self]
    have stay : frzS s = s → ∃ Hf', SR K u H0 Hf0 σ H Hf' (ρ.set i (frzS s)) ∧ Same Hf Hf' := fun e => by
      rw [e, same]; exact ⟨Hf, r, Same.refl _⟩
    cases s with
    | own ds =>
      obtain ⟨p, vs, h1, h2, h3, h4, h5⟩ := r.er.own i ds h
      obtain ⟨z1, z2⟩ := r.frzP (s' := .val (.list ds)) h h1 rfl h2 (.inl trivial) (fun _ _ _ z => nomatch z) (.lst (.of upd_same) h3 (h4.mono (same_upd h5 _) _ _)) (fun _ z => z.elim) (fun _ _ _ _ z => nomatch z)
      exact ⟨_, z1, z2⟩
    | odc kvs =>
      obtain ⟨p, h1, h2, h3, h4, h5, xs, h6, h7, h8⟩ := r.er.odc i kvs h
      obtain ⟨z1, z2⟩ := r.frzP (s' := .ob (.dict kvs)) h h1 rfl h6 (.inr ⟨⟨_, rfl⟩, h3⟩) (fun _ _ _ z => nomatch z) (Memo.ob_tab h4 h5 upd_same h7 (h8.mono (same_upd h2 _))) (fun _ z => z.elim) (fun _ _ _ _ z => nomatch z)
      exact ⟨_, z1, z2⟩
    | mk j sm ts kvs =>
      obtain ⟨v, h1, x, dx, vj, vs, p, q, tvs, rfl, a1, a2, a3, a4, a5, a6, a7, a8, a9, a10, a11, a12, xs, a13, a14, a15⟩ := r.er.mk_ i h
      -- the dict, the list, the thing itself
      have npx : p ≠ x := fun e => by subst e; rw [a5] at a1; cases a1
      have nqx : q ≠ x := fun e => by subst e; rw [a13] at a1; cases a1
      have nqp : q ≠ p := fun e => by subst e; rw [a13] at a5; cases a5
      have hne : ∀ {C : Addr} {dx' : Addr} {fs' : List (Str × V)}, HO.ins Memo.cm dx (mkFs vj vs p q) = .ins C dx' fs' → C = Memo.cm := fun z => by injection z with z; exact z.symm
      let Hf1 := upd Hf q (.ext (Memo.dic q xs))
      let Hf2 := upd Hf1 p (.lst tvs)
      let Hf3 := upd Hf2 x (.ins Memo.cm dx (mkFs vj vs p q))
      have n1 : Hf1 p = none := by show upd Hf q _ p = none; rw [upd_ne (Ne.symm nqp)]; exact a8
      have n2 : Hf2 x = none := by show upd Hf1 p _ x = none; rw [upd_ne (Ne.symm npx)]; show upd Hf q _ x = none; rw [upd_ne (Ne.symm nqx)]; exact a2
      have s1 : Same Hf Hf1 := same_upd a9 _
      have s2 : Same Hf1 Hf2 := same_upd n1 _
      have s3 : Same Hf2 Hf3 := same_upd n2 _
      have s13 := s1.trans (s2.trans s3)
      have ni : ∀ (φ : Heap → Prop) C dx fs, HO.ext φ = .ins C dx fs → C = Memo.cm := fun _ _ _ _ z => nomatch z
      have nl : ∀ (l : List V) C dx fs, HO.lst l = .ins C dx fs → C = Memo.cm := fun _ _ _ _ z => nomatch z
      obtain ⟨f1, t1⟩ := r.er.sub.freezeX (p := q) a13 a9 (.inr ⟨⟨_, rfl⟩, a10⟩) (ni _)
      obtain ⟨f2, t2⟩ := t1.freezeX (p := p) a5 n1 (.inl trivial) (nl _)
      obtain ⟨f3, t3⟩ := t2.freezeX (p := x) a1 n2 (.inl trivial) (fun _ _ _ z => hne z)
      have e1 := r.ext.frzX (p := q) (r.ny i _ _ q h h1 (.inr ⟨x, dx, vj, vs, p, q, rfl, a1, .inr rfl⟩)) a9 a13 (.inr ⟨⟨_, rfl⟩, a10⟩) (ni _)
      have e2 := e1.frzX (p := p) (r.ny i _ _ p h h1 (.inr ⟨x, dx, vj, vs, p, q, rfl, a1, .inl rfl⟩)) n1 a5 (.inl trivial) (nl _)
      have e3 := e2.frzX (p := x) (r.ny i _ _ x h h1 (.inl rfl)) n2 a1 (.inl trivial) (fun _ _ _ z => hne z)
      have hil : i < ρ.length := (List.getElem?_eq_some_iff.mp h).1
      have no : ∀ (y : Addr), Owns H (.ref x) y (.mk j sm ts kvs) → ∀ (k : Nat) sk vk, i ≠ k → ρ[k]? = some sk → σ[k]? = some (some vk) → ¬ Owns H vk y sk := fun y oy k sk vk n hk wk o => n (r.er.inj i k _ sk _ vk y h hk h1 wk oy o)
      have ob : Memo.ob K Hf3 (.ref x) (.list [j, sm, .list ts, .dict kvs]) := by
        have q3 : Hf3 q = some (.ext (Memo.dic q xs)) := s3 _ _ (s2 _ _ upd_same)
        have p3 : Hf3 p = some (.lst tvs) := s3 _ _ upd_same
        exact Memo.ob_mk a11 upd_same (Memo.ob_mono s13 a3) (a4.mono s13 _ _) (.lst (.of p3) a6 (a7.mono s13 _ _)) (Memo.ob_tab a11 a12 q3 a14 (a15.mono s13))
      refine ⟨Hf3, ⟨⟨by simp [r.er.len], t3, fun k t hk n => ?_, fun k l sk sl vk vl y hk hl wk wl ok ol => ?_⟩, e3, fun k sk vk y hk wk ok => ?_, fun k a b c d w hk hw => ?_⟩, s13⟩
      · by_cases e : i = k
        · subst e
          rw [List.getElem?_set_self hil] at hk
          cases hk
          exact ⟨_, h1, ob⟩
        · rw [List.getElem?_set_ne e] at hk
          obtain ⟨w, g1, g2⟩ := r.er.at_ k t hk n
          have b1 := g2.frz (no q (.inr ⟨x, dx, vj, vs, p, q, rfl, a1, .inr rfl⟩) k t w e hk g1) a13 a9 (ni _)
          have b2 := b1.frz (no p (.inr ⟨x, dx, vj, vs, p, q, rfl, a1, .inl rfl⟩) k t w e hk g1) a5 n1 (nl _)
          exact ⟨w, g1, b2.frz (no x (.inl rfl) k t w e hk g1) a1 n2 (fun _ _ _ z => hne z)⟩
      · have nk : i ≠ k := fun e => by subst e; rw [List.getElem?_set_self hil] at hk; cases hk; exact ok.elim
        have nl : i ≠ l := fun e => by subst e; rw [List.getElem?_set_self hil] at hl; cases hl; exact ol.elim
        rw [List.getElem?_set_ne nk] at hk
        rw [List.getElem?_set_ne nl] at hl
        exact r.er.inj k l sk sl vk vl y hk hl wk wl ok ol
      · have nk : i ≠ k := fun e => by subst e; rw [List.getElem?_set_self hil] at hk; cases hk; exact ok.elim
        rw [List.getElem?_set_ne nk] at hk
        exact r.ny k sk vk y hk wk ok
      · have nk : i ≠ k := fun e => by subst e; rw [List.getElem?_set_self hil] at hk; cases hk
        rw [List.getElem?_set_ne nk] at hk
        exact r.me k a b c d w hk hw
    | un => exact stay rfl
    | val _ => exact stay rfl
    | dic _ _ => exact stay rfl
    | ob _ => exact stay rfl
theorem SR.frzs : ∀ (l : List Nat) {Hf : Hp} {ρ : Rho}, SR K u H0 Hf0 σ H Hf ρ → ∃ Hf', SR K u H0 Hf0 σ H Hf' (frzs l ρ) ∧ Same Hf Hf'
  | [], Hf, _, r => ⟨Hf, r, Same.refl _⟩
  | i :: l, _, _, r => by
    obtain ⟨Hf1, r1, s1⟩ := r.frz1 i
    obtain ⟨Hf2, r2, s2⟩ := SR.frzs l r1
    exact ⟨Hf2, r2, s1.trans s2⟩
/-- a slot is given a thing -/
theorem SR.put (r : SR K u H0 Hf0 σ H Hf ρ) {i : Nat} {v : V} {s : Sl} (e : ER K (σ.set i (some v)) H Hf (ρ.set i s)) (hy : ∀ p, Owns H v p s → H0 p = none) (hm : ∀ j sm ts kvs, s ≠ .mk j sm ts kvs) : SR K u H0 Hf0 (σ.set i (some v)) H Hf (ρ.set i s) :=
  ⟨e, r.ext, fun j sj vj p hj wj o => by
    by_cases c : i = j
    · subst c
      by_cases hl : i < ρ.length
      · rw [List.getElem?_set_self hl] at hj
        rw [List.getElem?_set_self (by rw [← r.er.len]; exact hl)] at wj
        cases hj; cases wj
        exact hy p o
      · rw [List.getElem?_eq_none (by simpa using hl)] at hj; cases hj
    · rw [List.getElem?_set_ne c] at hj wj
      exact r.ny j sj vj p hj wj o, fun k a b c d w hk hw => by
    by_cases e : i = k
    · subst e
      by_cases hl : i < ρ.length
      · rw [List.getElem?_set_self hl] at hk
        cases hk
        exact absurd rfl (hm _ _ _ _)
      · rw [List.getElem?_eq_none (by simpa using hl)] at hk; cases hk
    · rw [List.getElem?_set_ne e] at hk hw
      exact r.me k a b c d w hk hw⟩
theorem SR.set (r : SR K u H0 Hf0 σ H Hf ρ) {i : Nat} {v : V} {d : PyData} (hv : Rp K Hf v d) : SR K u H0 Hf0 (σ.set i (some v)) H Hf (ρ.set i (.val d)) := r.put (r.er.set hv) (fun _ z => z.elim) (fun _ _ _ _ z => nomatch z)
theorem SR.setS (r : SR K u H0 Hf0 σ H Hf ρ) {i : Nat} {v : V} {x0 : Sl} (h0 : x0.isSt = true) (hv : StAt K Hf v x0) : SR K u H0 Hf0 (σ.set i (some v)) H Hf (ρ.set i x0) := by
  cases x0 <;> first | (cases h0; done) | exact r.put (r.er.setS h0 hv) (fun _ z => z.elim) (fun _ _ _ _ z => nomatch z)
theorem SR.setD (r : SR K u H0 Hf0 σ H Hf ρ) {i : Nat} {v : V} {ks0 : List Str} {ds0 : List PyData} (hv : DicAt K Hf v ks0 ds0) : SR K u H0 Hf0 (σ.set i (some v)) H Hf (ρ.set i (.dic ks0 ds0)) := r.setS rfl hv
theorem SR.setO (r : SR K u H0 Hf0 σ H Hf ρ) {i : Nat} {p : Addr} {vs : List V} {ds : List PyData} (hp : H p = some (.lst vs)) (hz : vs.length ≤ sizeLine) (hv : RpAll K Hf vs ds) (hn : Hf p = none) (h0 : H0 p = none) (hnew : NewAt σ H ρ p) : SR K u H0 Hf0 (σ.set i (some (.ref p))) H Hf (ρ.set i (.own ds)) :=
  r.put (r.er.setO hp hz hv hn hnew) (fun q o => by cases o; exact h0) (fun _ _ _ _ z => nomatch z)
theorem SR.setDO (r : SR K u H0 Hf0 σ H Hf ρ) {i : Nat} {p : Addr} {kvs : List (PyData × PyData)} (h : DOwn K H Hf p kvs) (h0 : H0 p = none) (hnew : NewAt σ H ρ p) : SR K u H0 Hf0 (σ.set i (some (.ref p))) H Hf (ρ.set i (.odc kvs)) :=
  r.put (r.er.setDO h hnew) (fun q o => by cases o; exact h0) (fun _ _ _ _ z => nomatch z)
/-- a slot's own thing changes -/
theorem SR.poke (r : SR K u H0 Hf0 σ H Hf ρ) {i : Nat} {s s' : Sl} {v : V} {p : Addr} {o' : HO} (hi : ρ[i]? = some s) (hs : σ[i]? = some (some v)) (ho : Owns H v p s) (sub' : Sub (upd H p o') Hf) (hn : SlAt K (upd H p o') Hf v s') (hd : ∀ q, Owns (upd H p o') v q s' → Owns H v q s) (hm : ∀ j sm ts kvs, s' = .mk j sm ts kvs → v = u) :
    SR K u H0 Hf0 σ (upd H p o') Hf (ρ.set i s') := by
  have hil : i < ρ.length := (List.getElem?_eq_some_iff.mp hi).1
  have h0 := r.ny i s v p hi hs ho
  have no : ∀ (j : Nat) sj vj, i ≠ j → ρ[j]? = some sj → σ[j]? = some (some vj) → ¬ Owns H vj p sj := fun j sj vj n hj wj o => n (r.er.inj i j s sj v vj p hi hj hs wj ho o)
  refine ⟨r.er.poke hi hs ho sub' hn hd, r.ext.pokeX h0 sub', fun j sj vj q hj wj o => ?_, fun k a b c d w hk hw => ?_⟩
  · by_cases c : i = j
    · subst c
      rw [List.getElem?_set_self hil] at hj
      cases hj
      rw [hs] at wj
      cases wj
      exact r.ny i s v q hi hs (hd q o)
    · rw [List.getElem?_set_ne c] at hj
      exact r.ny j sj vj q hj wj (Owns.upd (r.er.sl hj wj) (no j sj vj c hj wj) o)
  · by_cases e : i = k
    · subst e
      rw [List.getElem?_set_self hil] at hk
      cases hk
      rw [hs] at hw
      cases hw
      exact hm _ _ _ _ rfl
    · rw [List.getElem?_set_ne e] at hk
      exact r.me k a b c d w hk hw
theorem SR.mut (r : SR K u H0 Hf0 σ H Hf ρ) {i : Nat} {p : Addr} {vs : List V} {ds es : List PyData} (hi : ρ[i]? = some (.own ds)) (hs : σ[i]? = some (some (.ref p))) (hz : vs.length ≤ sizeLine) (hv : RpAll K Hf vs es) : SR K u H0 Hf0 σ (upd H p (.lst vs)) Hf (ρ.set i (.own es)) := by
  obtain ⟨p', us, h1, h2, h3, h4, h5⟩ := r.er.own i ds hi
  have e : p' = p := by rw [hs] at h1; cases h1; rfl
  subst e
  exact r.poke hi hs rfl (r.er.sub.put _ h5 h2) ⟨p', vs, rfl, upd_same, hz, hv, h5⟩ (fun q o => o) (fun _ _ _ _ z => nomatch z)
/-- an own dict changes -/
theorem SR.mutD (r : SR K u H0 Hf0 σ H Hf ρ) {i : Nat} {p : Addr} {xs : List Ent} {kvs kvs' : List (PyData × PyData)} (hi : ρ[i]? = some (.odc kvs)) (hs : σ[i]? = some (some (.ref p))) (hn : (xs.map (·.1)).Nodup) (hv : DEnts K Hf xs kvs') :
    SR K u H0 Hf0 σ (upd H p (.ext (Memo.dic p xs))) Hf (ρ.set i (.odc kvs')) := by
  obtain ⟨p', h1, h2, h3, h4, h5, ys, h6, h7, h8⟩ := r.er.odc i kvs hi
  have e : p' = p := by rw [hs] at h1; cases h1; rfl
  subst e
  exact r.poke hi hs rfl (r.er.sub.putD _ h4 h3 h2 h6) ⟨p', rfl, h2, h3, h4, h5, xs, upd_same, hn, hv⟩ (fun q o => o) (fun _ _ _ _ z => nomatch z)
/-- the things grow -/
theorem SR.mutT (r : SR K u H0 Hf0 σ H Hf ρ) {i : Nat} {x dx p q : Addr} {vj us : V} {vs : List V} {j sm : PyData} {ts ts' : List PyData} {kvs : List (PyData × PyData)} (hi : ρ[i]? = some (.mk j sm ts kvs)) (hs : σ[i]? = some (some (.ref x))) (hx : H x = some (.ins Memo.cm dx (mkFs vj us p q))) (hz : vs.length ≤ sizeLine) (hv : RpAll K Hf vs ts') :
    SR K u H0 Hf0 σ (upd H p (.lst vs)) Hf (ρ.set i (.mk j sm ts' kvs)) := by
  obtain ⟨v, h1, x', dx', vj', us', p', q', tvs, rfl, a1, a2, a3, a4, a5, a6, a7, a8, a9, a10, a11, a12, xs, a13, a14, a15⟩ := r.er.mk_ i hi
  rw [hs] at h1
  cases h1
  rw [hx] at a1
  obtain ⟨rfl, rfl, rfl, rfl⟩ := mkFs_inj (by have := Option.some.inj a1; injection this)
  have npx : p ≠ x := fun e => by subst e; rw [a5] at hx; cases hx
  have nqp : q ≠ p := fun e => by subst e; rw [a13] at a5; cases a5
  have hx' : upd H p (.lst vs) x = some (.ins Memo.cm dx (mkFs vj us p q)) := by rw [upd_ne (Ne.symm npx)]; exact hx
  refine r.poke hi hs (.inr ⟨x, dx, vj, us, p, q, rfl, hx, .inl rfl⟩) (r.er.sub.put _ a8 a5) ⟨x, dx, vj, us, p, q, vs, rfl, hx', a2, a3, a4, upd_same, hz, hv, a8, a9, a10, a11, a12, xs, by rw [upd_ne nqp]; exact a13, a14, a15⟩ (fun y o => ?_) (fun _ _ _ _ _ => r.me i _ _ _ _ _ hi hs)
  rcases o with o | ⟨x2, dx2, vj2, us2, p2, q2, o1, o2, o3⟩
  · exact .inl o
  · cases o1
    rw [hx'] at o2
    obtain ⟨rfl, rfl, rfl, rfl⟩ := mkFs_inj (by have := Option.some.inj o2; injection this)
    exact .inr ⟨x, dx, vj, us, p, q, rfl, hx, o3⟩
/-- a link is put -/
theorem SR.mutL (r : SR K u H0 Hf0 σ H Hf ρ) {i : Nat} {x dx p q : Addr} {vj us : V} {xs : List Ent} {j sm : PyData} {ts : List PyData} {kvs kvs' : List (PyData × PyData)} (hi : ρ[i]? = some (.mk j sm ts kvs)) (hs : σ[i]? = some (some (.ref x))) (hx : H x = some (.ins Memo.cm dx (mkFs vj us p q))) (hn : (xs.map (·.1)).Nodup) (hv : DEnts K Hf xs kvs') :
    SR K u H0 Hf0 σ (upd H q (.ext (Memo.dic q xs))) Hf (ρ.set i (.mk j sm ts kvs')) := by
  obtain ⟨v, h1, x', dx', vj', us', p', q', tvs, rfl, a1, a2, a3, a4, a5, a6, a7, a8, a9, a10, a11, a12, ys, a13, a14, a15⟩ := r.er.mk_ i hi
  rw [hs] at h1
  cases h1
  rw [hx] at a1
  obtain ⟨rfl, rfl, rfl, rfl⟩ := mkFs_inj (by have := Option.some.inj a1; injection this)
  have nqx : q ≠ x := fun e => by subst e; rw [a13] at hx; cases hx
  have nqp : q ≠ p := fun e => by subst e; rw [a13] at a5; cases a5
  have hx' : upd H q (.ext (Memo.dic q xs)) x = some (.ins Memo.cm dx (mkFs vj us p q)) := by rw [upd_ne (Ne.symm nqx)]; exact hx
  refine r.poke hi hs (.inr ⟨x, dx, vj, us, p, q, rfl, hx, .inr rfl⟩) (r.er.sub.putD _ a11 a10 a9 a13) ⟨x, dx, vj, us, p, q, tvs, rfl, hx', a2, a3, a4, by rw [upd_ne (Ne.symm nqp)]; exact a5, a6, a7, a8, a9, a10, a11, a12, xs, upd_same, hn, hv⟩ (fun y o => ?_) (fun _ _ _ _ _ => r.me i _ _ _ _ _ hi hs)
  rcases o with o | ⟨x2, dx2, vj2, us2, p2, q2, o1, o2, o3⟩
  · exact .inl o
  · cases o1
    rw [hx'] at o2
    obtain ⟨rfl, rfl, rfl, rfl⟩ := mkFs_inj (by have := Option.some.inj o2; injection this)
    exact .inr ⟨x, dx, vj, us, p, q, rfl, hx, o3⟩
end
end Ev

/-! EvB: a small language of pure programs and what it computes. -/
namespace Ev
open PySem L2
/-! ### keys of what is remembered -/
/-- a small part: a number below 8, or a tuple of at most six bits -/
def bitsN : List PyData → Option Nat
  | [] => some 1
  | .int i :: ds => if i = 0 ∨ i = 1 then (bitsN ds).map fun n => 2 * n + i.toNat else none
  | _ :: _ => none
def partN : PyData → Option Nat
  | .int i => if 0 ≤ i ∧ i < 8 then some (128 + i.toNat) else none
  | .tuple ds => if ds.length ≤ 6 then bitsN ds else none
  | _ => none
def keyN : List PyData → Option Nat
  | [] => some 1
  | d :: ds => (partN d).bind fun a => (keyN ds).map fun n => 136 * n + a
def smallKey (ds : List PyData) : Bool := decide (ds.length ≤ 3) && (keyN ds).isSome

inductive BOp where
  | add | sub | mul | fdiv | mod | pow
  deriving DecidableEq
inductive COp where
  | eq | ne | lt | le | gt | ge | isin | notin
  deriving DecidableEq
inductive Blt where
  | len | int | tuple | list | sorted | all | any | str
  deriving DecidableEq
inductive Ty where
  | int | str | bool | tuple | list
  deriving DecidableEq
/-- a def; a judge's method; one of what puts things together, when it is ready -/
inductive Hk where
  | fn | jd | mr
  deriving DecidableEq
inductive Tg where
  | nm (i : Nat)
  | tp (is : List Nat)

mutual
inductive PX where
  | var (i : Nat)
  | lit (d : PyData)
  | glb (g : Nat)
  | bin (op : BOp) (a b : PX)
  | neg (a : PX)
  | not (a : PX)
  | and (a b : PX)
  | or (a b : PX)
  | cmp (op : COp) (a b : PX)
  | isN (ng : Bool) (a : PX)
  | isTr (ng : Bool) (a : PX)
  | chain (o1 o2 : COp) (a b c : PX)
  | ife (c a b : PX)
  | tup (es : PXs)
  | lst (es : PXs)
  | ix (a i : PX)
  | slc (a lo hi : PX)
  | omit
  | rev (a : PX)
  | call (f : Nat) (es : PXs)
  | blt (b : Blt) (a : PX)
  | isI (a : PX) (t : Ty)
  | join (o a : PX)
  | split (o a : PX)
  | index (o a : PX)
  | lc (ws : List Nat) (elt : PX) (tg : Tg) (it : PIt) (c : PX)
  | pick (ks : List Str) (es : PXs) (k : PX)
  | getd (ks : List Str) (es : PXs) (k d : PX)
  | pickV (i : Nat) (k : PX)
  | rngL (a : PX)
  | inG (neg : Bool) (k : PX) (g : Nat)
  | pickG (g : Nat) (k : PX)
  | sset (a : PX)
  | attr (i k : Nat)
  | obj (i : Nat)
  | fnv (f : Nat)
  | new (c : Nat) (j : PX)
  | callO (m : Hk) (f : Nat) (es : PXs)
  | callV (i : Nat) (es : PXs)
  | pickO (i : Nat) (k : PX)
  | bld (f : Nat) (es : PXs)
  | attr2 (i k : Nat)
  | obJ (i : Nat)
  | inT (ng : Bool) (i : Nat) (k : PX)
  | getT (i : Nat) (k : PX)
  | mkw (f j : Nat) (s : PX)
inductive PXs where
  | nil
  | cons (e : PX) (es : PXs)
inductive PIt where
  | seq (a : PX)
  | rng1 (a : PX)
  | rng2 (a b : PX)
  | enum (a : PX)
  | zip (a b : PX)
end

mutual
inductive QS where
  | set (fz : List Nat) (i : Nat) (e : PX)
  | setO (fz : List Nat) (i : Nat) (e : PX)
  | setT (fz : List Nat) (is : List Nat) (e : PX)
  | setD (fz : List Nat) (i : Nat) (ks : List Str) (es : PXs)
  | app (fz : List Nat) (i : Nat) (e : PX)
  | ext (fz : List Nat) (i : Nat) (e : PX)
  | iff (fz : List Nat) (c : PX) (a b : QSs)
  | for (fz : List Nat) (tg : Tg) (it : PIt) (b : QSs)
  | ret (fz : List Nat) (e : PX)
  | srt (fz : List Nat) (i : Nat) (tup : Bool) (a : PX) (js : List Nat) (ln : List Str) (b : PX)
  | obs (is : List Nat)
  | setN (fz : List Nat) (i : Nat) (p : PX)
  | memo (k f : Nat) (es : PXs)
  | newD (fz : List Nat) (i : Nat)
  | putD (fz : List Nat) (i : Nat) (k v : PX)
  | putI (fz : List Nat) (i : Nat) (k v : PX)
  | retD (i : Nat)
  | mks
  | appT (i : Nat) (e : PX)
  | putL (i : Nat) (k v : PX)
  | retM (e : PX)
  | callM (x : Option Nat) (f : Nat) (es : PXs)
  | whl (c : PX) (b : QSs)
  | retN
  | pass
inductive QSs where
  | nil
  | cons (s : QS) (r : QSs)
end

/-! ### operators on data -/
def catOk (a b : Nat) : Bool := decide (a + b ≤ sizeLine)
/- told over Nat.ble, which the kernel leaves alone where the number is not known -/
def rng (a : Int) : Bool := Nat.ble a.natAbs 18446744073709551615
theorem rng_iff {a : Int} : rng a = true ↔ -(2 ^ 64) < a ∧ a < 2 ^ 64 := by
  unfold rng
  rw [Nat.ble_eq]
  omega
def repS (a : Str) (n : Nat) : Str := ⟨(List.replicate n a.cps).foldl (· ++ ·) #[]⟩
def bop : BOp → PyData → PyData → Option PyData
  | .add, .int a, .int b => some (.int (a + b))
  | .add, .str a, .str b => if catOk a.length b.length then some (.str (a ++ b)) else none
  | .add, .tuple a, .tuple b => if catOk a.length b.length then some (.tuple (a ++ b)) else none
  | .add, .list a, .list b => if catOk a.length b.length then some (.list (a ++ b)) else none
  | .sub, .int a, .int b => some (.int (a - b))
  | .mul, .int a, .int b => if rng a || rng b then some (.int (a * b)) else none
  | .mul, .str a, .int k => if decide (0 ≤ k) && decide (k ≤ 1000) && decide (a.length ≤ 1000) then some (.str (repS a k.toNat)) else none
  | .mul, .list a, .int k => if decide (-(2 ^ 63) ≤ k) && decide (k < 2 ^ 63) && decide (a.length * k.toNat ≤ sizeLine) then some (.list (List.replicate k.toNat a).flatten) else none
  | .mul, .tuple a, .int k => if !a.isEmpty && decide (2 ≤ k) && decide (k ≤ 1000) && decide (a.length ≤ 1000) then some (.tuple (List.replicate k.toNat a).flatten) else none
  | .fdiv, .int a, .int b => if decide (0 < b) && decide (b < 1073741824) then some (.int (a / b)) else none
  | .mod, .int a, .int b => if decide (0 < b) then some (.int (a % b)) else none
  | .pow, .int a, .int b => if decide (0 ≤ b) && decide (b ≤ 1000000) && decide (a.natAbs < 2 ^ 64) then some (.int (a ^ b.toNat)) else none
  | _, _, _ => none

def intsOf : List PyData → Option (List Int)
  | [] => some []
  | .int i :: r => (intsOf r).map (i :: ·)
  | _ :: _ => none
def boolsOf : List PyData → Option (List Bool)
  | [] => some []
  | .bool i :: r => (boolsOf r).map (i :: ·)
  | _ :: _ => none
def strsOf : List PyData → Option (List Str)
  | [] => some []
  | .str i :: r => (strsOf r).map (i :: ·)
  | _ :: _ => none

def eqOk (a b : PyData) : Bool := decide (min a.depth b.depth ≤ 64)
def inOk (xs : List PyData) (b : PyData) : Bool := decide (min (PyData.depthAll xs) b.depth ≤ 64)
def cop : COp → PyData → PyData → Option Bool
  | .eq, a, b => if eqOk a b then some (PyData.eqv a b) else none
  | .ne, a, b => if eqOk a b then some (!PyData.eqv a b) else none
  | .lt, .int a, .int b => some (decide (a < b))
  | .le, .int a, .int b => some (decide (a ≤ b))
  | .gt, .int a, .int b => some (decide (b < a))
  | .ge, .int a, .int b => some (decide (b ≤ a))
  | .lt, .tuple a, .tuple b => (intsOf a).bind fun x => (intsOf b).map fun y => HT.lexLt x y
  | .isin, a, .list b => if inOk b a then some (b.any fun z => PyData.eqv z a) else none
  | .isin, a, .tuple b => if inOk b a then some (b.any fun z => PyData.eqv z a) else none
  | .notin, a, .list b => if inOk b a then some (!b.any fun z => PyData.eqv z a) else none
  | .notin, a, .tuple b => if inOk b a then some (!b.any fun z => PyData.eqv z a) else none
  | _, _, _ => none

def isTy : Ty → PyData → Bool
  | .int, .int _ => true
  | .int, .bool _ => true
  | .bool, .bool _ => true
  | .str, .str _ => true
  | .tuple, .tuple _ => true
  | .list, .list _ => true
  | _, _ => false

def allDepth (n : Nat) : List PyData → Bool
  | [] => true
  | d :: r => decide (d.depth ≤ n) && allDepth n r
/-- what sorted can order: all alike, and all tuples with an item or none a tuple; not deep -/
def neTup : PyData → Bool
  | .tuple (_ :: _) => true
  | _ => false
def noTup : PyData → Bool
  | .tuple _ => false
  | .none => false
  | _ => true
def sortOk (ds : List PyData) : Bool := (ds.all fun d => ds.all fun e => PySem.W.alike d e) && (ds.all neTup || ds.all noTup) && ds.all fun d => decide (d.depth ≤ 60)
def sortD (ds : List PyData) : List PyData := ds.mergeSort (PySem.W.dataLe false id)
def blt : Blt → PyData → Option PyData
  | .len, .list a => some (.int a.length)
  | .len, .tuple a => some (.int a.length)
  | .len, .str a => some (.int a.length)
  | .int, .int a => some (.int a)
  | .int, .bool b => some (.int (if b then 1 else 0))
  | .tuple, .list a => some (.tuple a)
  | .tuple, .tuple a => some (.tuple a)
  | .list, .list a => some (.list a)
  | .list, .tuple a => some (.list a)
  | .all, .list a => (boolsOf a).map fun b => .bool (b.all id)
  | .any, .list a => (boolsOf a).map fun b => .bool (b.any id)
  | .sorted, .list a => if sortOk a then some (.list (sortD a)) else none
  | .sorted, .tuple a => if sortOk a then some (.list (sortD a)) else none
  | .str, .int a => if decide (0 ≤ a) && decide (a ≤ 9) then some (.str ⟨#[48 + a.toNat]⟩) else none
  | _, _ => none

def ixD : PyData → PyData → Option PyData
  | .list a, .int i => atI a i
  | .tuple a, .int i => atI a i
  | .str a, .int i => (atI a.cps.toList i).map fun c => .str ⟨#[c]⟩
  | _, _ => none
def cutD (xs : List PyData) (lo hi : Option Int) : List PyData := (xs.drop (HT.sIx xs.length 0 lo)).take (HT.sIx xs.length xs.length hi - HT.sIx xs.length 0 lo)
def slD : PyData → Option Int → Option Int → Option PyData
  | .list a, lo, hi => some (.list (cutD a lo hi))
  | .tuple a, lo, hi => some (.tuple (cutD a lo hi))
  | .str a, lo, hi => some (.str (L2.cutS a lo hi))
  | _, _, _ => none
def intOf : PyData → Option Int
  | .int i => some i
  | _ => none
def revD : PyData → Option PyData
  | .list a => some (.list a.reverse)
  | .tuple a => some (.tuple a.reverse)
  | _ => none
def rgD (n : Int) : List PyData := (List.range n.toNat).map fun (i : Nat) => PyData.int (i : Int)
def rg2 (a b : Int) : List PyData := (List.range (b - a).toNat).map fun (i : Nat) => PyData.int (a + (i : Int))
def rngOk (n : Int) : Bool := Nat.ble n.natAbs 16777216
theorem rngOk_iff {n : Int} : rngOk n = true ↔ -16777216 ≤ n ∧ n ≤ 16777216 := by
  unfold rngOk
  rw [Nat.ble_eq]
  omega
def enumD : Nat → List PyData → List PyData
  | _, [] => []
  | i, d :: r => .tuple [.int (i : Nat), d] :: enumD (i + 1) r
def zipD : List PyData → List PyData → List PyData
  | a :: r, b :: s => .tuple [a, b] :: zipD r s
  | _, _ => []
/-- a module's dict with texts as keys -/
def dkGet : List (PyData × PyData) → Str → Option PyData
  | [], _ => none
  | (.str k, d) :: r, x => if k = x then some d else dkGet r x
  | _ :: r, x => dkGet r x
def gdHas (neg : Bool) : Option PyData → PyData → Option PyData
  | some (.dict kvs), .str x => some (.bool (xor neg (dkGet kvs x).isSome))
  | _, _ => none
def gdGet : Option PyData → PyData → Option PyData
  | some (.dict kvs), .str x => dkGet kvs x
  | _, _ => none
def glV : Option PyData → Option PyData
  | some (.dict _) => none
  | o => o
/-- sorted(set(t)): rising, each once -/
def insI (i : Int) : List Int → List Int
  | [] => [i]
  | j :: r => if i < j then i :: j :: r else if i = j then j :: r else j :: insI i r
def setI (ns : List Int) : List Int := ns.foldr insI []
def ltP (p q : Int × Int) : Bool := decide (p.1 < q.1) || (decide (p.1 = q.1) && decide (p.2 < q.2))
def insP (p : Int × Int) : List (Int × Int) → List (Int × Int)
  | [] => [p]
  | q :: r => if ltP p q then p :: q :: r else if p = q then q :: r else q :: insP p r
def setP (ps : List (Int × Int)) : List (Int × Int) := ps.foldr insP []
def prD (p : Int × Int) : PyData := .tuple [.int p.1, .int p.2]
def prOf : PyData → Option (Int × Int)
  | .tuple [.int a, .int b] => some (a, b)
  | _ => none
def prsOf : List PyData → Option (List (Int × Int))
  | [] => some []
  | d :: r => (prOf d).bind fun p => (prsOf r).map (p :: ·)
def in256 (p : Int × Int) : Bool := decide (0 ≤ p.1) && decide (p.1 < 256) && decide (0 ≤ p.2) && decide (p.2 < 256)
def ssetD : PyData → Option PyData
  | .tuple ds => (match intsOf ds with
    | some ns => if decide (ns.length ≤ 4000) then some (.list ((setI ns).map .int)) else none
    | none => (prsOf ds).bind fun ps => if decide (ps.length ≤ 69000) && ps.all in256 then some (.list ((setP ps).map prD)) else none)
  | _ => none
def indexD (k : PyData) : List PyData → Option Nat
  | [] => none
  | d :: r => if PyData.eqv d k then some 0 else (indexD k r).map (· + 1)
def pickD : List Str → List PyData → Str → Option PyData
  | k :: ks, d :: ds, x => if k = x then some d else pickD ks ds x
  | _, _, _ => none
def pickX (ks : List Str) (ds : List PyData) : PyData → Option PyData
  | .str x => pickD ks ds x
  | _ => none
def getX (ks : List Str) (ds : List PyData) (x y : PyData) : Option PyData := match x with
  | .str x => some ((pickD ks ds x).getD y)
  | _ => none
def joinLen (sep : Nat) : List Str → Nat
  | [] => 0
  | x :: r => x.length + sep + joinLen sep r

def slP : PX → Option PyData → Option (Option Int)
  | .omit, _ => some none
  | _, r => r.bind fun l => (intOf l).map some
def joinD : PyData → PyData → Option PyData
  | .str s, .list ds => (strsOf ds).bind fun xs => if joinLen s.length xs ≤ sizeLine then some (.str (Str.join s xs)) else none
  | _, _ => none
def splitD : PyData → PyData → Option PyData
  | .str a, .str b => if decide (b.length ≠ 0) && decide (a.length ≤ 1000000) then some (.list ((Txt.split a b).map .str)) else none
  | _, _ => none
def idxD : PyData → PyData → Option PyData
  | .list ds, k => if inOk ds k then (indexD k ds).map fun (j : Nat) => .int (j : Int) else none
  | _, _ => none
def seqD : PyData → Option (List PyData)
  | .list ds => some ds
  | .tuple ds => some ds
  | _ => none
def zipDD : PyData → PyData → Option (List PyData)
  | .tuple ds, .tuple es => if ds.length = es.length then some (zipD ds es) else none
  | .list ds, .list es => if ds.length = es.length then some (zipD ds es) else none
  | _, _ => none
def isTrD (ng : Bool) : PyData → Option PyData
  | .bool b => some (.bool (xor ng b))
  | _ => none
def isNone : PyData → Bool
  | .none => true
  | _ => false
/-! ### targets, slots -/
def setAll : List Nat → List PyData → Rho → Rho
  | i :: is, d :: ds, ρ => setAll is ds (ρ.set i (.val d))
  | _, _, ρ => ρ
def asg : Tg → PyData → Rho → Option Rho
  | .nm i, d, ρ => some (ρ.set i (.val d))
  | .tp is, .tuple ds, ρ => if is.length = ds.length then some (setAll is ds ρ) else none
  | .tp _, _, _ => none
def getV (i : Nat) (ρ : Rho) : Option PyData :=
  match ρ[i]? with
  | some (.val d) => some d
  | _ => none
def bor : PX → Rho → Option PyData → Option PyData
  | .var i, ρ, r => match ρ[i]? with
    | some (.own ds) => some (.list ds)
    | _ => r
  | .attr i k, ρ, r => match ρ[i]? with
    | some (.mk _ _ ts _) => if k = 5 then some (.list ts) else r
    | _ => r
  | _, _, r => r
def pickS (ρ : Rho) (i : Nat) (x : PyData) : Option PyData :=
  match ρ[i]? with
  | some (.dic ks ds) => pickX ks ds x
  | _ => none
/-- the places in the order of their keys -/
def srtP (ks : List Int) : List (Nat × Int) := ((List.range ks.length).zip ks).mergeSort (PySem.W.dataLe false fun p => PyData.int p.2)
def srtD (ks : List Int) : List PyData := (srtP ks).map fun p => .int (p.1 : Int)
/-- what the key function captured; its keys -/
def capsR : List Nat → Rho → Option (List PyData)
  | [], _ => some []
  | j :: js, ρ => (getV j ρ).bind fun d => (capsR js ρ).map (d :: ·)
def keysR (f : PyData → Option PyData) : List Nat → Option (List Int)
  | [] => some []
  | k :: ks => (f (.int (k : Nat))).bind fun d => (intOf d).bind fun i => (keysR f ks).map (i :: ·)
/-- objects in slots -/
def obV (i : Nat) (ρ : Rho) : Option PyData := match ρ[i]? with
  | some (.ob d) => some d
  | _ => none
def attrR (i k : Nat) (ρ : Rho) : Option PyData := match ρ[i]? with
  | some (.ob (.tuple ds)) => ds[k]?
  | some (.ob (.list [_, sm, ts, _])) => if k = 4 then some sm else if k = 5 then some ts else none
  | some (.mk _ sm _ _) => if k = 4 then some sm else none
  | _ => none
/-- the judge of what puts things together -/
def obJ (i : Nat) (ρ : Rho) : Option PyData := match ρ[i]? with
  | some (.ob (.list [j, _, _, _])) => some j
  | some (.mk j _ _ _) => some j
  | _ => none
def attrD (k : Nat) : Option PyData → Option PyData
  | some (.tuple ds) => ds[k]?
  | _ => none
def tabM (i : Nat) (ρ : Rho) : Option (List (PyData × PyData)) := match ρ[i]? with
  | some (.ob (.list [_, _, _, .dict kvs])) => some kvs
  | _ => none
def obs1 : Nat → Rho → Rho
  | _, [] => []
  | 0, .val d :: r => .ob d :: r
  | 0, s :: r => s :: r
  | n + 1, s :: r => s :: obs1 n r
def obsR : List Nat → Rho → Rho
  | [], ρ => ρ
  | i :: l, ρ => obsR l (obs1 i ρ)
/-! keys that are the same -/
mutual
def keq : PyData → PyData → Bool
  | .int a, .int b => decide (a = b)
  | .str a, .str b => decide (a = b)
  | .tuple a, .tuple b => keqs a b
  | _, _ => false
def keqs : List PyData → List PyData → Bool
  | [], [] => true
  | a :: r, b :: s => keq a b && keqs r s
  | _, _ => false
end
def isTup : PyData → Bool
  | .tuple _ => true
  | _ => false
def keyOk (d : PyData) : Bool := isTup d && (match nkOf d with | some k => decide (k.depth ≤ 8) | none => false)
/-- an item of a table -/
def tabGet (k : PyData) : List (PyData × PyData) → Option PyData
  | [] => none
  | (a, d) :: r => if keq a k then some d else tabGet k r
def tabD : Option PyData → PyData → Option PyData
  | some (.dict kvs), k => if keyOk k then tabGet k kvs else none
  | _, _ => none
def tabIn (ng : Bool) (t : Option (List (PyData × PyData))) (k : PyData) : Option PyData := t.bind fun kvs => if keyOk k then some (.bool (xor ng (tabGet k kvs).isSome)) else none
def tabAt (t : Option (List (PyData × PyData))) (k : PyData) : Option PyData := t.bind fun kvs => if keyOk k then tabGet k kvs else none
/-- an item is put -/
def dPut (k d : PyData) : List (PyData × PyData) → List (PyData × PyData)
  | [] => [(k, d)]
  | (a, b) :: r => if keq a k then (a, d) :: r else (a, b) :: dPut k d r
def headK : Hk → (List PyData → Option PyData) → List PyData → Option PyData
  | .fn, f, ds => f ds
  | .jd, f, .tuple d :: r => f (.tuple d :: r)
  | .mr, f, .list [j, sm, ts, t] :: r => f (.list [j, sm, ts, t] :: r)
  | _, _, _ => none
def encM (j sm : PyData) (ts : List PyData) (kvs : List (PyData × PyData)) : PyData := .tuple [j, sm, .list ts, .dict kvs]
def mkwR (run : List PyData → Option PyData) (j : Option PyData) (s : PyData) : Option PyData := j.bind fun j => run [encM j s [] []]
def runV (run : Nat → List PyData → Option PyData) (f : Option PyData) (ds : List PyData) : Option PyData := match f with
  | some (.int i) => run i.toNat ds
  | _ => none
def boolOf : Option PyData → Option Bool
  | some (.bool b) => some b
  | _ => none
/-- a comprehension's turns -/
def compR (tg : Tg) (c : Rho → Option Bool) (e : Rho → Option PyData) (ρ : Rho) : List PyData → Option (List PyData)
  | [] => some []
  | d :: ds => (asg tg d ρ).bind fun ρ1 => (c ρ1).bind fun b => if b then (e ρ1).bind fun y => (compR tg c e ρ ds).map (y :: ·) else compR tg c e ρ ds

section
variable (G : Nat → Option PyData) (run : Nat → List PyData → Option PyData)
mutual
def evE : PX → Rho → Option PyData
  | .var i, ρ => getV i ρ
  | .lit d, _ => some d
  | .glb g, _ => glV (G g)
  | .bin op a b, ρ => (evE a ρ).bind fun x => (evE b ρ).bind fun y => bop op x y
  | .neg a, ρ => (evE a ρ).bind fun x => (intOf x).map fun i => .int (-i)
  | .not a, ρ => (boolOf (evE a ρ)).map fun b => .bool (!b)
  | .and a b, ρ => (boolOf (evE a ρ)).bind fun x => if x then evE b ρ else some (.bool false)
  | .or a b, ρ => (boolOf (evE a ρ)).bind fun x => if x then some (.bool true) else evE b ρ
  | .cmp op a b, ρ => (bor a ρ (evE a ρ)).bind fun x => (bor b ρ (evE b ρ)).bind fun y => (cop op x y).map .bool
  | .isN ng a, ρ => (bor a ρ (evE a ρ)).map fun x => .bool (xor ng (isNone x))
  | .isTr ng a, ρ => (evE a ρ).bind (isTrD ng)
  | .chain o1 o2 a b c, ρ => (evE a ρ).bind fun x => (evE b ρ).bind fun y => (cop o1 x y).bind fun k => if k then (evE c ρ).bind fun z => (cop o2 y z).map .bool else some (.bool false)
  | .ife c a b, ρ => (boolOf (evE c ρ)).bind fun x => if x then evE a ρ else evE b ρ
  | .tup es, ρ => (evEs es ρ).bind fun ds => if ds.length ≤ 1000 then some (.tuple ds) else none
  | .lst es, ρ => (evEs es ρ).bind fun ds => if ds.length ≤ 1000 then some (.list ds) else none
  | .ix a i, ρ => (bor a ρ (evE a ρ)).bind fun x => (evE i ρ).bind fun y => ixD x y
  | .slc a lo hi, ρ => (bor a ρ (evE a ρ)).bind fun x => (slP lo (evE lo ρ)).bind fun l => (slP hi (evE hi ρ)).bind fun h => slD x l h
  | .omit, _ => none
  | .rev a, ρ => (bor a ρ (evE a ρ)).bind revD
  | .call f es, ρ => (evEs es ρ).bind fun ds => run f ds
  | .blt b a, ρ => (bor a ρ (evE a ρ)).bind fun x => blt b x
  | .isI a t, ρ => (bor a ρ (evE a ρ)).map fun x => .bool (isTy t x)
  | .join o a, ρ => (evE o ρ).bind fun x => (bor a ρ (evE a ρ)).bind fun y => joinD x y
  | .split o a, ρ => (evE o ρ).bind fun x => (evE a ρ).bind fun y => splitD x y
  | .index o a, ρ => (bor o ρ (evE o ρ)).bind fun x => (evE a ρ).bind fun k => idxD x k
  | .lc ws elt tg it c, ρ => (evI true it ρ).bind fun ds => (compR tg (fun ρ1 => boolOf (evE c ρ1)) (fun ρ1 => evE elt ρ1) (wipeR ρ ws) ds).map .list
  | .pick ks es k, ρ => (evEs es ρ).bind fun ds => (evE k ρ).bind fun x => pickX ks ds x
  | .getd ks es k d, ρ => (evEs es ρ).bind fun ds => (evE k ρ).bind fun x => (evE d ρ).bind fun y => getX ks ds x y
  | .pickV i k, ρ => (evE k ρ).bind fun x => pickS ρ i x
  | .rngL a, ρ => (evE a ρ).bind fun x => (intOf x).bind fun n => if rngOk n then some (.list (rgD n)) else none
  | .inG neg k g, ρ => (evE k ρ).bind fun x => gdHas neg (G g) x
  | .pickG g k, ρ => (evE k ρ).bind fun x => gdGet (G g) x
  | .sset a, ρ => (bor a ρ (evE a ρ)).bind ssetD
  | .attr i k, ρ => attrR i k ρ
  | .obj i, ρ => obV i ρ
  | .fnv f, _ => some (.int (f : Nat))
  | .new c j, ρ => (evE j ρ).bind fun x => run c [x]
  | .callO m f es, ρ => (evEs es ρ).bind (headK m (run f))
  | .callV i es, ρ => (evEs es ρ).bind (runV run (obV i ρ))
  | .pickO i k, ρ => (evE k ρ).bind (tabD (obV i ρ))
  | .bld f es, ρ => (evEs es ρ).bind (run f)
  | .attr2 i k, ρ => attrD k (obJ i ρ)
  | .obJ i, ρ => obJ i ρ
  | .inT ng i k, ρ => (evE k ρ).bind (tabIn ng (tabM i ρ))
  | .getT i k, ρ => (evE k ρ).bind (tabAt (tabM i ρ))
  | .mkw f j s, ρ => (evE s ρ).bind (mkwR (run f) (obV j ρ))
def evEs : PXs → Rho → Option (List PyData)
  | .nil, _ => some []
  | .cons e es, ρ => (evE e ρ).bind fun d => (evEs es ρ).map (d :: ·)
def evI (b : Bool) : PIt → Rho → Option (List PyData)
  | .seq a, ρ => (if b then bor a ρ (evE a ρ) else evE a ρ).bind seqD
  | .rng1 a, ρ => (evE a ρ).bind fun x => (intOf x).bind fun n => if rngOk n then some (rgD n) else none
  | .rng2 a c, ρ => (evE a ρ).bind fun x => (evE c ρ).bind fun y => (intOf x).bind fun n => (intOf y).bind fun m => if rngOk n && rngOk m && rngOk (m - n) then some (rg2 n m) else none
  | .enum a, ρ => (if b then bor a ρ (evE a ρ) else evE a ρ).bind fun x => (seqD x).map (enumD 0)
  | .zip a c, ρ => (evE a ρ).bind fun x => (evE c ρ).bind fun y => zipDD x y
end

def srtE (tup : Bool) (x : Option PyData) (cs : Option (List PyData)) (f : Rho → Option PyData) : Option PyData :=
  x.bind fun x => (intOf x).bind fun m => if rngOk m then cs.bind fun cs => (keysR (fun d => f ((d :: cs).map .val)) (List.range m.toNat)).map fun ks => if tup then .tuple (srtD ks) else .list (srtD ks) else none
inductive Out where
  | nx (ρ : Rho)
  | rt (d : PyData)
  /-- an object is returned; a value, by one that puts things together -/
  | ro (d : PyData)
  | rm (d j sm : PyData) (ts : List PyData) (kvs : List (PyData × PyData))
def thenO (f : Rho → Option Out) : Out → Option Out
  | .nx ρ => f ρ
  | .rt v => some (.rt v)
  | .ro v => some (.ro v)
  | .rm d j sm ts kvs => some (.rm d j sm ts kvs)
def ownPut (i : Nat) (ρ : Rho) (k d : PyData) : Option Out := match ρ[i]? with
  | some (.odc kvs) => if keyOk k && decide (kvs.length < 1000000) then some (.nx (ρ.set i (.odc (dPut k d kvs)))) else none
  | _ => none
def ownPutI (i : Nat) (ρ : Rho) : PyData → PyData → Option Out
  | .int j, d => (match ρ[i]? with
    | some (.own ds) => (L2.ixN ds.length j).map fun m => .nx (ρ.set i (.own (ds.set m d)))
    | _ => none)
  | _, _ => none
def retDR (i : Nat) (ρ : Rho) : Option Out := match ρ[i]? with
  | some (.odc kvs) => some (.ro (.dict kvs))
  | _ => none
def mksR : Rho → Option Out
  | .val (.tuple [j, sm, .list ts, .dict kvs]) :: r => some (.nx (.mk j sm ts kvs :: r))
  | _ => none
def thgApp (i : Nat) (ρ : Rho) (d : PyData) : Option Out := match ρ[i]? with
  | some (.mk j sm ts kvs) => if ts.length < 1000000 then some (.nx (ρ.set i (.mk j sm (ts ++ [d]) kvs))) else none
  | _ => none
def lnkPut (i : Nat) (ρ : Rho) (k d : PyData) : Option Out := match ρ[i]? with
  | some (.mk j sm ts kvs) => if keyOk k && decide (kvs.length < 1000000) then some (.nx (ρ.set i (.mk j sm ts (dPut k d kvs)))) else none
  | _ => none
def retMR : Rho → PyData → Option Out
  | .mk j sm ts kvs :: _, d => some (.rm d j sm ts kvs)
  | _, _ => none
/-- slots that nothing can be changed through -/
def Sl.tame : Sl → Bool
  | .own _ => false
  | .odc _ => false
  | .mk _ _ _ _ => false
  | _ => true
def selfM : Rho → Option PyData
  | .mk j sm ts kvs :: r => if r.all Sl.tame then some (encM j sm ts kvs) else none
  | _ => none
def setX : Option Nat → PyData → Rho → Rho
  | some i, d, ρ => ρ.set i (.val d)
  | none, _, ρ => ρ
def resM (x : Option Nat) (ρ : Rho) : PyData → Option Out
  | .tuple [d, .tuple [j, sm, .list ts, .dict kvs]] => some (.nx (setX x d (ρ.set 0 (.mk j sm ts kvs))))
  | _ => none
def whlR (c : Rho → Option Bool) (f : Rho → Option Out) : Nat → Rho → Option Out
  | 0, _ => none
  | m + 1, ρ => (c ρ).bind fun b => if b then (f ρ).bind (thenO fun ρ' => whlR c f m ρ') else some (.nx ρ)
def ownSet (i : Nat) (ρ : Rho) : PyData → Option Out
  | .list ds => some (.nx (ρ.set i (.own ds)))
  | _ => none
def ownApp (i : Nat) (ρ : Rho) (d : PyData) : Option Out := match ρ[i]? with
  | some (.own ds) => if ds.length < 1000000 then some (.nx (ρ.set i (.own (ds ++ [d])))) else none
  | _ => none
def ownExt (i : Nat) (ρ : Rho) (d : PyData) : Option Out := match ρ[i]?, d with
  | some (.own ds), .list es => if catOk ds.length es.length then some (.nx (ρ.set i (.own (ds ++ es)))) else none
  | _, _ => none
def loopR (f : PyData → Rho → Option Out) : List PyData → Rho → Option Out
  | [], ρ => some (.nx ρ)
  | d :: ds, ρ => (f d ρ).bind (thenO fun ρ' => loopR f ds ρ')
mutual
def evS : QS → Rho → Option Out
  | .set fz i e, ρ => (evE G run e (frzs fz ρ)).map fun d => .nx ((frzs fz ρ).set i (.val d))
  | .setO fz i e, ρ => (evE G run e (frzs fz ρ)).bind (ownSet i (frzs fz ρ))
  | .setT fz is e, ρ => (evE G run e (frzs fz ρ)).bind fun d => (asg (.tp is) d (frzs fz ρ)).map .nx
  | .setD fz i ks es, ρ => (evEs G run es (frzs fz ρ)).map fun ds => .nx ((frzs fz ρ).set i (.dic ks ds))
  | .app fz i e, ρ => (evE G run e (frzs fz ρ)).bind (ownApp i (frzs fz ρ))
  | .ext fz i e, ρ => (evE G run e (frzs fz ρ)).bind (ownExt i (frzs fz ρ))
  | .iff fz c a b, ρ => (boolOf (evE G run c (frzs fz ρ))).bind fun k => if k then evSs a (frzs fz ρ) else evSs b (frzs fz ρ)
  | .for fz tg it b, ρ => (evI G run false it (frzs fz ρ)).bind fun ds => loopR (fun d ρ1 => (asg tg d ρ1).bind fun ρ2 => evSs b ρ2) ds (frzs fz ρ)
  | .ret fz e, ρ => (evE G run e (frzs fz ρ)).map .rt
  | .srt fz i tup a js _ b, ρ => (srtE tup (evE G run a (frzs fz ρ)) (capsR js (frzs fz ρ)) fun ρ1 => evE G run b ρ1).map fun d => .nx ((frzs fz ρ).set i (.val d))
  | .obs is, ρ => some (.nx (obsR is ρ))
  | .setN fz i p, ρ => (evE G run p (frzs fz ρ)).map fun d => .nx ((frzs fz ρ).set i (.ob d))
  | .memo _ f es, ρ => (attrR 0 0 ρ).bind fun r => (evEs G run es ρ).bind fun ds => if smallKey ds then (run f (r :: ds)).map .rt else none
  | .newD fz i, ρ => some (.nx ((frzs fz ρ).set i (.odc [])))
  | .putD fz i k v, ρ => (evE G run v (frzs fz ρ)).bind fun d => (evE G run k (frzs fz ρ)).bind fun x => ownPut i (frzs fz ρ) x d
  | .putI fz i k v, ρ => (evE G run v (frzs fz ρ)).bind fun d => (evE G run k (frzs fz ρ)).bind fun x => ownPutI i (frzs fz ρ) x d
  | .retD i, ρ => retDR i ρ
  | .mks, ρ => mksR ρ
  | .appT i e, ρ => (evE G run e ρ).bind (thgApp i ρ)
  | .putL i k v, ρ => (evE G run v ρ).bind fun d => (evE G run k ρ).bind fun x => lnkPut i ρ x d
  | .retM e, ρ => (evE G run e ρ).bind (retMR ρ)
  | .callM x f es, ρ => (selfM ρ).bind fun m => (evEs G run es ρ).bind fun ds => (run f (m :: ds)).bind (resM x ρ)
  | .whl c b, ρ => whlR (fun ρ1 => boolOf (evE G run c ρ1)) (fun ρ1 => evSs b ρ1) 100000 ρ
  | .retN, _ => some (.rt .none)
  | .pass, ρ => some (.nx ρ)
def evSs : QSs → Rho → Option Out
  | .nil, ρ => some (.nx ρ)
  | .cons s r, ρ => (evS s ρ).bind (thenO fun ρ' => evSs r ρ')
end
end

/-- what a def is: plain; one that gives an object; a method that changes what it puts together, one that ends doing so -/
inductive Kd where
  | pl | bld | mut | wld
  deriving DecidableEq
structure FDef where
  name : Str
  ps : List Str
  N : List Str
  body : QSs
  kd : Kd := .pl
structure Tab where
  fn : Nat → Option FDef
  glb : Nat → Option (Str × PyData)
  c : Nat := 1
  /-- attributes' names, methods (of what puts things together), classes that are made, dicts that remember -/
  at_ : Nat → Option Str := fun _ => none
  mt : Nat → Bool := fun _ => false
  mm : Nat → Bool := fun _ => false
  nw : Nat → Option Str := fun _ => none
  me : Nat → Option (Str × Nat) := fun _ => none
  fv : Nat → Bool := fun _ => false
  dk : Bool := false
  prim : Nat → Nat → List PyData → Option PyData := fun _ _ _ => none
  /-- defs that are shown by hand to answer as the table's body says -/
  hd : Nat → Bool := fun _ => false
def startR (n : Nat) (ds : List PyData) : Rho := ds.map .val ++ List.replicate (n - ds.length) .un
def outP : Out → Option PyData
  | .nx _ => some .none
  | .rt d => some d
  | _ => none
def outB : Out → Option PyData
  | .ro d => some d
  | _ => none
def outM : Out → Option PyData
  | .nx (.mk j sm ts kvs :: _) => some (.tuple [.none, encM j sm ts kvs])
  | .rm d j sm ts kvs => some (.tuple [d, encM j sm ts kvs])
  | _ => none
def outW : Out → Option PyData
  | .rt d => some d
  | _ => none
def outK : Kd → Out → Option PyData
  | .pl => outP
  | .bld => outB
  | .mut => outM
  | .wld => outW
def Tab.run (T : Tab) : Nat → Nat → List PyData → Option PyData
  | 0, _, _ => none
  | n + 1, f, ds => match T.fn f with
    | some F => if ds.length = F.ps.length then (evSs (fun g => (T.glb g).map (·.2)) (T.run n) F.body (startR F.N.length ds)).bind (outK F.kd) else none
    | none => T.prim n f ds
end Ev

/-! EvC: the operators of the small language are Python's. -/
namespace Ev
variable [Memo]
open PySem PySem.Spec PyProof.Rows L2

/-! ### lists of any kind: sums, repeats, extend -/
theorem list_extendW (l : Addr) (items : Array Value) (n : Nat) (b : Addr) (items2 : Array Value) (n2 : Nat) (dd2 : Option Addr) (sl2 : Array (Option Value)) (hc0 : ¬(!items.isEmpty && Builtin.List.listTooLong (items.size + items2.size)) = true) (hc1 : items.size ≤ sizeLine) (hs2 : items.size + items2.size ≤ sizeLine + 1) :
    Meets (Builtin.«list.extend» ⟨[.ref l, .ref b], []⟩) (fun _ R s => s.heap.get? l = some { cls := .type "list", dict := none, data := .seq items n, slots := #[] } ∧ s.heap.get? b = some { cls := .type "list", dict := dd2, data := .seq items2 n2, slots := sl2 } ∧ R (.ok (.ret Value.none)) { s with heap := s.heap.update l (Obj.mapSeq fun x => x ++ items2), toks := s.toks }) :=
  .of_wp fun prog w A R s h => by
    obtain ⟨hp, g, d, tk, os⟩ := s; obtain ⟨hl, hb, h⟩ := h; have f1 := AutoSeq1.idx_int; have f2 := AutoSeq1.sub_tuple_tuple; have f3 := AutoSeq1.sub_list_list; have f4 := AutoSeq1.sub_tuple_list; have f5 := AutoSeq1.sub_list_tuple
    have hz' : (items ++ items2).size ≤ sizeLine + 1 := by rw [Array.size_append]; exact hs2
    wp_walk using (wpAny_updateSeq hl rfl (hz := hc1) (_hz' := hz')), wpAny_loadPart' hl, wpAny_loadPart' hb; exact ⟨_, rfl, h⟩
section
variable {X : Cx}
def rCatL (K : PySem.W.Frag) : R2 := fun x y H Q => ∃ a b xs ys, x = .ref a ∧ y = .ref b ∧ SqL K H a xs ∧ SqL K H b ys ∧ xs.length + ys.length ≤ sizeLine ∧ ∀ p, H p = none → Q (.ref p) (upd H p (.lst (xs ++ ys)))
theorem op_catL : OpR X (binaryOp .Add) (rCatL X.K) := by
  intro pins s σ H x y v u Q I rx ry h
  obtain ⟨l, b, xs, zs, rfl, rfl, hH, hB, hz, q⟩ := h
  cases rx
  cases ry
  obtain ⟨its, r, ⟨⟨cls, dd, data, sl⟩, n, ho, hc, hdd, hd⟩, hs⟩ := I.list hH
  obtain ⟨its2, r2, ⟨⟨cls2, dd2, data2, sl2⟩, n2, ho2, hc2, hdd2, hd2⟩, hs2⟩ := I.list hB
  simp only at hc hd hc2 hd2
  subst hc hd hc2 hd2
  have hl := r.length
  have hl2 := r2.length
  have e : its.toArray ++ its2.toArray = (its ++ its2).toArray := by simp
  refine concat_meets ⟨_, ho, rfl⟩ ⟨_, ho2, rfl⟩ noFill_list_add seq_list_add PySem.F.slot_list_add PySem.F.entry_list_add (PySem.F.args_list_add_2 _ _) (list_addW l b its.toArray its2.toArray n n2 dd dd2 sl sl2 (by simp; omega)) ⟨ho, ho2, ?_⟩
  rw [e]
  exact ⟨.ref _, _, I.lnew (t' := s.toks) (r.append r2) (by rw [List.length_append]; omega), rfl, q _ I.fresh⟩
def rRepL (K : PySem.W.Frag) : R2 := fun x y H Q => ∃ l k xs, x = .ref l ∧ y = .int k ∧ SqL K H l xs ∧ -(2 ^ 63) ≤ k ∧ k < 2 ^ 63 ∧ xs.length * k.toNat ≤ sizeLine ∧
  ∀ p, H p = none → Q (.ref p) (upd H p (.lst (List.replicate k.toNat xs).flatten))
theorem op_repL : OpR X (binaryOp .Mult) (rRepL X.K) := by
  intro pins s σ H x y v u Q I rx ry h
  obtain ⟨l, k, xs, rfl, rfl, hH, h1, h2, hz, q⟩ := h
  cases rx
  obtain ⟨t, rfl⟩ := ry
  obtain ⟨its, r, ⟨⟨cls, dd, data, sl⟩, n, ho, hc, hdd, hd⟩, hs⟩ := I.list hH
  simp only at hc hd
  subst hc hd
  have hl := r.length
  have hlen : its.toArray.size * k.toNat ≤ sizeLine := by rw [List.size_toArray, ← hl]; exact hz
  have hcap : ¬ its.toArray.size * k.toNat > (2 ^ 63 - 1) / 8 := by
    have : (sizeLine : Nat) ≤ (2 ^ 63 - 1) / 8 := by decide
    omega
  have hfit : ¬ (!Builtin.List.listFitsIndex k) = true := by
    rw [fitsIndex_both h1 h2]
    exact Bool.false_ne_true
  have hlong : ¬ Builtin.List.listTooLong (its.toArray.size * k.toNat) = true := by
    rw [notLongL hlen]
    exact Bool.false_ne_true
  refine wpAny_binaryOp_repeat_ref (T := "list") (U := "int") (by decide) ⟨_, ho, rfl⟩ (fun s' => typeIs_int s' k t) noFill_list_mul F.fills_int_mul F.slot_int_rmul repeat_list F.slot_int_index.lookup
    (call_meets F.slot_int_rmul (typeIs_int s k t) F.entry_int_rmul (F.args_int_rmul_2 _ _) (lm_int_rmul_list_any k t l its.toArray n dd sl)
      ⟨ho, rfl, ⟨_, ho, rfl⟩, call_meets F.slot_list_mul ⟨_, ho, rfl⟩ F.entry_list_mul (F.args_list_mul_2 _ _) (lm_list_mul_any l its.toArray n dd sl k t hfit hcap hlong) ⟨ho, ?_⟩⟩)
  rw [listMul_foldl_if]
  exact ⟨.ref _, _, I.lnew (t' := s.toks) (r.rep k.toNat) (by rw [PyProof.Rows.lm_len_rep_flat, Nat.mul_comm]; exact hz), rfl, q _ I.fresh⟩
def rExtendL (K : PySem.W.Frag) : V → List V → Hp → VK → Prop := fun x vs H Q => ∃ l b xs zs, x = .ref l ∧ vs = [.ref b] ∧ H l = some (.lst xs) ∧ SqL K H b zs ∧ xs.length + zs.length ≤ sizeLine ∧ Q .non (upd H l (.lst (xs ++ zs)))
theorem mt_extendL : MtM X "list.extend" (rExtendL X.K) := by
  intro pins s σ H x vs v us Q I rx rv h
  obtain ⟨l, b, xs, zs, rfl, rfl, hH, hB, hz, q⟩ := h
  cases rx
  obtain ⟨u, rfl, ru⟩ := rv.one
  cases ru
  obtain ⟨z, its, n, r, hl, e⟩ := I.lstM hH
  obtain ⟨its2, r2, ⟨⟨cls2, dd2, data2, sl2⟩, n2, ho2, hc2, hdd2, hd2⟩, hs2⟩ := I.list hB
  simp only at hc2 hd2
  subst hc2 hd2
  have hl2 := r2.length
  have hsz : its.toArray.size + its2.toArray.size ≤ sizeLine := by rw [List.size_toArray, List.size_toArray]; omega
  have hlong : ¬ (!its.toArray.isEmpty && Builtin.List.listTooLong (its.toArray.size + its2.toArray.size)) = true := by
    rw [notLongL hsz, Bool.and_false]
    exact Bool.false_ne_true
  refine call_meets F.slot_list_extend ⟨_, e, rfl⟩ F.entry_list_extend (F.args_list_extend_2 _ _)
    (list_extendW l its.toArray n b its2.toArray n2 dd2 sl2 hlong (by rw [List.size_toArray]; omega) (by omega)) ⟨e, ho2, ?_⟩
  refine ⟨.non, _, I.lset (its' := its ++ its2) hH e (by simp) (r.append r2) ?_, rfl, q⟩
  rw [List.length_append]
  omega
end

/-! ### what a rule is to give -/
abbrev KF (K : PySem.W.Frag) (H Hf : Hp) (d : PyData) (Q : VK) : Prop := ∀ v H' Hf', Ext H Hf H' Hf' → Rp K Hf' v d → Q v H'
theorem KF.here {K : PySem.W.Frag} {H Hf : Hp} {d : PyData} {Q : VK} (k : KF K H Hf d Q) (s : Sub H Hf) {v : V} (r : Rp K Hf v d) : Q v H := k v H Hf (Ext.refl s) r
theorem KF.newT {K : PySem.W.Frag} {H Hf : Hp} {ds : List PyData} {Q : VK} (k : KF K H Hf (.tuple ds) Q) (s : Sub H Hf) {vs : List V} (z : vs.length ≤ sizeLine) (r : RpAll K Hf vs ds) : ∀ p, H p = none → Q (.ref p) (upd H p (.tup vs)) :=
  fun p hp => k _ _ _ (Ext.alloc s hp _) (.tup (.of upd_same) z (r.mono (same_upd (sub_none s hp) _) _ _))
theorem KF.newL {K : PySem.W.Frag} {H Hf : Hp} {ds : List PyData} {Q : VK} (k : KF K H Hf (.list ds) Q) (s : Sub H Hf) {vs : List V} (z : vs.length ≤ sizeLine) (r : RpAll K Hf vs ds) : ∀ p, H p = none → Q (.ref p) (upd H p (.lst vs)) :=
  fun p hp => k _ _ _ (Ext.alloc s hp _) (.lst (.of upd_same) z (r.mono (same_upd (sub_none s hp) _) _ _))
theorem strOk_app {a b : Str} (ha : PyData.strOk a = true) (hb : PyData.strOk b = true) : PyData.strOk (a ++ b) = true := by
  show (a.cps ++ b.cps).all (· < 0x110000) = true
  have ha' : a.cps.all (· < 0x110000) = true := ha
  have hb' : b.cps.all (· < 0x110000) = true := hb
  rw [Array.all_append, ha', hb']; rfl
theorem len_app {a b : Str} : (a ++ b).length = a.length + b.length := by
  show (a.cps ++ b.cps).size = _
  rw [Array.size_append]; rfl
theorem sqL_sub {K : PySem.W.Frag} {H H' : Hp} {a : Addr} {xs : List V} (e : Same H H') (h : SqL K H a xs) : SqL K H' a xs := e.seq h

section
variable {X : Cx}
/-- operators on frozen data -/
def rBin (K : PySem.W.Frag) (g : PyData → PyData → Option PyData) : R2 := fun x y H Q => ∃ Hf a b d, Sub H Hf ∧ Rp K Hf x a ∧ Rp K Hf y b ∧ g a b = some d ∧ KF K H Hf d Q
theorem OpR.imp {f : Value → Value → Sem Value} {r r' : R2} (h : OpR X f r) (i : ∀ x y H Q, r' x y H Q → r x y H Q) : OpR X f r' :=
  fun pins s σ H x y v u Q I rx ry q => h pins s σ H x y v u Q I rx ry (i _ _ _ _ q)
theorem bop_add : OpR X (binaryOp .Add) (rBin X.K (bop .add)) := by
  intro pins s σ H x y v u Q I rx ry q
  obtain ⟨Hf, a, b, d, sub, ra, rb, hd, k⟩ := q
  cases ra with
  | non => cases rb <;> exact nomatch hd
  | bl _ => cases rb <;> exact nomatch hd
  | int i =>
    cases rb with
    | int j => cases hd; exact op_add pins s σ H _ _ v u Q I rx ry ⟨i, j, rfl, rfl, k.here sub (.int _)⟩
    | non => exact nomatch hd
    | bl _ => exact nomatch hd
    | str _ _ _ => exact nomatch hd
    | lst _ _ _ => exact nomatch hd
    | tup _ _ _ => exact nomatch hd
  | str i zi oi =>
    cases rb with
    | str j zj oj =>
      have hd' : (if catOk i.length j.length then some (PyData.str (i ++ j)) else none) = some d := hd
      by_cases c : catOk i.length j.length = true
      · rw [if_pos c] at hd'
        cases hd'
        have c' := of_decide_eq_true c
        exact op_add_str pins s σ H _ _ v u Q I rx ry ⟨i, j, rfl, rfl, c', k.here sub (.str _ (by rw [len_app]; exact c') (strOk_app oi oj))⟩
      · rw [if_neg c] at hd'; cases hd'
    | non => exact nomatch hd
    | bl _ => exact nomatch hd
    | int _ => exact nomatch hd
    | lst _ _ _ => exact nomatch hd
    | tup _ _ _ => exact nomatch hd
  | @lst p xs as sp zp rp =>
    cases rb with
    | @lst q ys bs sq zq rq =>
      have hd' : (if catOk as.length bs.length then some (PyData.list (as ++ bs)) else none) = some d := hd
      by_cases c : catOk as.length bs.length = true
      · rw [if_pos c] at hd'
        cases hd'
        have c' := of_decide_eq_true c
        rw [← rp.length, ← rq.length] at c'
        exact op_catL pins s σ H _ _ v u Q I rx ry ⟨p, q, xs, ys, rfl, rfl, sqL_sub sub sp, sqL_sub sub sq, c', k.newL sub (by rw [List.length_append]; exact c') (rp.append rq)⟩
      · rw [if_neg c] at hd'; cases hd'
    | non => exact nomatch hd
    | bl _ => exact nomatch hd
    | int _ => exact nomatch hd
    | str _ _ _ => exact nomatch hd
    | tup _ _ _ => exact nomatch hd
  | @tup p xs as sp zp rp =>
    cases rb with
    | @tup q ys bs sq zq rq =>
      have hd' : (if catOk as.length bs.length then some (PyData.tuple (as ++ bs)) else none) = some d := hd
      by_cases c : catOk as.length bs.length = true
      · rw [if_pos c] at hd'
        cases hd'
        have c' := of_decide_eq_true c
        rw [← rp.length, ← rq.length] at c'
        refine op_catA pins s σ H _ _ v u Q I rx ry ⟨p, q, xs, ys, rfl, rfl, sqT_mono sub sp, sqT_mono sub sq, c', fun e => ?_, fun _ e => ?_, fun _ _ => k.newT sub (by rw [List.length_append]; exact c') (rp.append rq)⟩
        · subst e
          have e2 : as = [] := by cases rp; rfl
          subst e2
          exact k.here sub (.tup sq zq rq)
        · subst e
          have e2 : bs = [] := by cases rq; rfl
          subst e2
          rw [List.append_nil] at k
          exact k.here sub (.tup sp zp rp)
      · rw [if_neg c] at hd'; cases hd'
    | non => exact nomatch hd
    | bl _ => exact nomatch hd
    | int _ => exact nomatch hd
    | str _ _ _ => exact nomatch hd
    | lst _ _ _ => exact nomatch hd
theorem bop_ints {op : BOp} {C : Int → Int → Bool} {g : Int → Int → Int} {a b d : PyData} {K : PySem.W.Frag} {Hf : Hp} {x y : V} (hop : op = .sub ∨ op = .fdiv ∨ op = .mod ∨ op = .pow)
    (hg : ∀ i j, bop op (.int i) (.int j) = if C i j then some (.int (g i j)) else none) (ra : Rp K Hf x a) (rb : Rp K Hf y b) (hd : bop op a b = some d) : ∃ i j, x = .int i ∧ y = .int j ∧ C i j = true ∧ d = .int (g i j) := by
  cases ra with
  | int i =>
    cases rb with
    | int j =>
      rw [hg] at hd
      by_cases c : C i j = true
      · rw [if_pos c] at hd; cases hd
        exact ⟨i, j, rfl, rfl, c, rfl⟩
      · rw [if_neg c] at hd; cases hd
    | non => rcases hop with rfl | rfl | rfl | rfl <;> exact nomatch hd
    | bl _ => rcases hop with rfl | rfl | rfl | rfl <;> exact nomatch hd
    | str _ _ _ => rcases hop with rfl | rfl | rfl | rfl <;> exact nomatch hd
    | lst _ _ _ => rcases hop with rfl | rfl | rfl | rfl <;> exact nomatch hd
    | tup _ _ _ => rcases hop with rfl | rfl | rfl | rfl <;> exact nomatch hd
  | non => rcases hop with rfl | rfl | rfl | rfl <;> cases rb <;> exact nomatch hd
  | bl _ => rcases hop with rfl | rfl | rfl | rfl <;> cases rb <;> exact nomatch hd
  | str _ _ _ => rcases hop with rfl | rfl | rfl | rfl <;> cases rb <;> exact nomatch hd
  | lst _ _ _ => rcases hop with rfl | rfl | rfl | rfl <;> cases rb <;> exact nomatch hd
  | tup _ _ _ => rcases hop with rfl | rfl | rfl | rfl <;> cases rb <;> exact nomatch hd
theorem bop_sub : OpR X (binaryOp .Sub) (rBin X.K (bop .sub)) := by
  refine OpR.imp op_sub fun x y H Q q => ?_
  obtain ⟨Hf, a, b, d, sub, ra, rb, hd, k⟩ := q
  obtain ⟨i, j, rfl, rfl, _, rfl⟩ := bop_ints (op := .sub) (C := fun _ _ => true) (g := fun i j => i - j) (by simp) (fun _ _ => rfl) ra rb hd
  exact ⟨i, j, rfl, rfl, k.here sub (.int _)⟩
theorem bop_fdiv : OpR X (binaryOp .FloorDiv) (rBin X.K (bop .fdiv)) := by
  refine OpR.imp op_fdiv fun x y H Q q => ?_
  obtain ⟨Hf, a, b, d, sub, ra, rb, hd, k⟩ := q
  obtain ⟨i, j, rfl, rfl, c, rfl⟩ := bop_ints (op := .fdiv) (C := fun _ b => decide (0 < b) && decide (b < 1073741824)) (g := fun i j => i / j) (by simp) (fun _ _ => rfl) ra rb hd
  simp only [Bool.and_eq_true, decide_eq_true_eq] at c
  exact ⟨i, j, rfl, rfl, c, k.here sub (.int _)⟩
theorem bop_mod : OpR X (binaryOp .Mod) (rBin X.K (bop .mod)) := by
  refine OpR.imp op_mod fun x y H Q q => ?_
  obtain ⟨Hf, a, b, d, sub, ra, rb, hd, k⟩ := q
  obtain ⟨i, j, rfl, rfl, c, rfl⟩ := bop_ints (op := .mod) (C := fun _ b => decide (0 < b)) (g := fun i j => i % j) (by simp) (fun _ _ => rfl) ra rb hd
  exact ⟨i, j, rfl, rfl, of_decide_eq_true c, k.here sub (.int _)⟩
theorem bop_pow : OpR X (binaryOp .Pow) (rBin X.K (bop .pow)) := by
  refine OpR.imp op_pow fun x y H Q q => ?_
  obtain ⟨Hf, a, b, d, sub, ra, rb, hd, k⟩ := q
  obtain ⟨i, j, rfl, rfl, c, rfl⟩ := bop_ints (op := .pow) (C := fun a b => decide (0 ≤ b) && decide (b ≤ 1000000) && decide (a.natAbs < 2 ^ 64)) (g := fun i j => i ^ j.toNat) (by simp) (fun _ _ => rfl) ra rb hd
  simp only [Bool.and_eq_true, decide_eq_true_eq] at c
  exact ⟨i, j, rfl, rfl, ⟨c.1.1, c.1.2, c.2⟩, k.here sub (.int _)⟩
theorem repS_0 (a : Str) : repS a 0 = Str.empty := rfl
theorem repS_succ (a : Str) (n : Nat) : repS a (n + 1) = repS a n ++ a := by
  show (⟨(List.replicate (n + 1) a.cps).foldl (· ++ ·) #[]⟩ : Str) = ⟨(List.replicate n a.cps).foldl (· ++ ·) #[] ++ a.cps⟩
  rw [List.replicate_succ', List.foldl_append]
  rfl
theorem repS_1 (a : Str) : repS a 1 = a := by
  rw [repS_succ, repS_0]
  show (⟨#[] ++ a.cps⟩ : Str) = a
  rw [Array.empty_append]
theorem repS_ok {a : Str} (h : PyData.strOk a = true) : ∀ n, PyData.strOk (repS a n) = true
  | 0 => by rw [repS_0]; decide +kernel
  | n + 1 => by rw [repS_succ]; exact strOk_app (repS_ok h n) h
theorem repS_len (a : Str) : ∀ n, (repS a n).length = n * a.length
  | 0 => by rw [repS_0, Nat.zero_mul]; rfl
  | n + 1 => by rw [repS_succ, len_app, repS_len a n, Nat.succ_mul]
theorem repS_nil {a : Str} (h : a.length = 0) : ∀ n, repS a n = a
  | 0 => by
    rw [repS_0]
    exact (Str.ext' (Array.eq_empty_of_size_eq_zero h)).symm
  | n + 1 => by
    rw [repS_succ, repS_nil h n]
    have e : a = Str.empty := Str.ext' (Array.eq_empty_of_size_eq_zero h)
    rw [e]; rfl
theorem op_repS : OpR X (binaryOp .Mult) (fun x y H Q => ∃ a k, x = .str a ∧ y = .int k ∧ 0 ≤ k ∧ k ≤ 1000 ∧ a.length ≤ 1000 ∧ Q (.str (repS a k.toNat)) H) := by
  intro pins s σ H x y v u Q I rx ry h
  obtain ⟨a, k, rfl, rfl, h0, h1, h2, q⟩ := h
  obtain ⟨t, rfl⟩ := rx
  obtain ⟨t', rfl⟩ := ry
  have hk : k.toNat ≤ 1000 := by omega
  have hz : a.length * k.toNat ≤ 1000 * 1000 := Nat.mul_le_mul h2 hk
  have hlong : Builtin.Str.tooLong (a.length * k.toNat) = false := by
    have e : Builtin.Str.tooLong (a.length * k.toNat) = decide (sizeLine < a.length * k.toNat) := rfl
    rw [e]
    have : ¬ sizeLine < a.length * k.toNat := by rw [sizeLine_eq]; omega
    exact decide_eq_false this
  refine PySem.P.mul_str (by
      have g1 : ¬ k < -(2 ^ 63 : Int) := by omega
      have g2 : ¬ k ≥ 2 ^ 63 := by omega
      rw [decide_eq_false g1, decide_eq_false g2]; rfl) (fun g1 _ => ?_) (fun _ _ => hlong) ?_
  · have g2 : (1000 : Int) ≤ (2 ^ 63 - 1) / k := by
      rw [Int.le_ediv_iff_mul_le (by omega)]
      omega
    omega
  · by_cases c : k < 1
    · rw [if_pos c]
      have e : k.toNat = 0 := by omega
      rw [e] at q
      exact ⟨by decide, ⟨.str _, H, I.tok _, ⟨_, rfl⟩, q⟩⟩
    · rw [if_neg c]
      by_cases c2 : (k == 1 || a.length == 0) = true
      · rw [if_pos c2]
        have e : repS a k.toNat = a := by
          rw [Bool.or_eq_true, beq_iff_eq, beq_iff_eq] at c2
          rcases c2 with c2 | c2
          · subst c2; exact repS_1 a
          · exact repS_nil c2 _
        rw [e] at q
        exact ⟨.str a, H, I, ⟨_, rfl⟩, q⟩
      · rw [if_neg c2]
        refine ⟨?_, ⟨.str _, H, I.tok _, ⟨_, rfl⟩, q⟩⟩
        show (repS a k.toNat).length ≤ sizeLine
        rw [repS_len, Nat.mul_comm, sizeLine_eq]
        omega
theorem bop_mul : OpR X (binaryOp .Mult) (rBin X.K (bop .mul)) := by
  intro pins s σ H x y v u Q I rx ry q
  obtain ⟨Hf, a, b, d, sub, ra, rb, hd, k⟩ := q
  cases ra with
  | non => cases rb <;> exact nomatch hd
  | bl _ => cases rb <;> exact nomatch hd
  | str a az ao =>
    cases rb with
    | int j =>
      have hd' : (if decide (0 ≤ j) && decide (j ≤ 1000) && decide (a.length ≤ 1000) then some (PyData.str (repS a j.toNat)) else none) = some d := hd
      by_cases c : (decide (0 ≤ j) && decide (j ≤ 1000) && decide (a.length ≤ 1000)) = true
      · rw [if_pos c] at hd'; cases hd'
        simp only [Bool.and_eq_true, decide_eq_true_eq] at c
        obtain ⟨⟨c1, c2⟩, c3⟩ := c
        have hz : (repS a j.toNat).length ≤ sizeLine := by
          rw [repS_len, sizeLine_eq]
          have a1 : j.toNat * a.length ≤ 1000 * 1000 := Nat.mul_le_mul (by omega) c3
          omega
        exact op_repS pins s σ H _ _ v u Q I rx ry ⟨a, j, rfl, rfl, c1, c2, c3, k.here sub (.str _ hz (repS_ok ao _))⟩
      · rw [if_neg c] at hd'; cases hd'
    | non => exact nomatch hd
    | bl _ => exact nomatch hd
    | str _ _ _ => exact nomatch hd
    | lst _ _ _ => exact nomatch hd
    | tup _ _ _ => exact nomatch hd
  | int i =>
    cases rb with
    | int j =>
      have hd' : (if rng i || rng j then some (PyData.int (i * j)) else none) = some d := hd
      by_cases c : (rng i || rng j) = true
      · rw [if_pos c] at hd'; cases hd'
        have c' : CMul i j := by
          simp only [Bool.or_eq_true, rng_iff] at c
          exact c
        exact op_mul pins s σ H _ _ v u Q I rx ry ⟨i, j, rfl, rfl, c', k.here sub (.int _)⟩
      · rw [if_neg c] at hd'; cases hd'
    | non => exact nomatch hd
    | bl _ => exact nomatch hd
    | str _ _ _ => exact nomatch hd
    | lst _ _ _ => exact nomatch hd
    | tup _ _ _ => exact nomatch hd
  | @lst p xs as sp zp rp =>
    cases rb with
    | int j =>
      have hd' : (if decide (-(2 ^ 63) ≤ j) && decide (j < 2 ^ 63) && decide (as.length * j.toNat ≤ sizeLine) then some (PyData.list (List.replicate j.toNat as).flatten) else none) = some d := hd
      by_cases c : (decide (-(2 ^ 63) ≤ j) && decide (j < 2 ^ 63) && decide (as.length * j.toNat ≤ sizeLine)) = true
      · rw [if_pos c] at hd'; cases hd'
        simp only [Bool.and_eq_true, decide_eq_true_eq] at c
        have c3 : xs.length * j.toNat ≤ sizeLine := by rw [rp.length]; exact c.2
        exact op_repL pins s σ H _ _ v u Q I rx ry ⟨p, j, xs, rfl, rfl, sqL_sub sub sp, c.1.1, c.1.2, c3, k.newL sub (by rw [PyProof.Rows.lm_len_rep_flat, Nat.mul_comm]; exact c3) (rp.rep _)⟩
      · rw [if_neg c] at hd'; cases hd'
    | non => exact nomatch hd
    | bl _ => exact nomatch hd
    | str _ _ _ => exact nomatch hd
    | lst _ _ _ => exact nomatch hd
    | tup _ _ _ => exact nomatch hd
  | @tup p xs as sp zp rp =>
    cases rb with
    | int j =>
      have hd' : (if !as.isEmpty && decide (2 ≤ j) && decide (j ≤ 1000) && decide (as.length ≤ 1000) then some (PyData.tuple (List.replicate j.toNat as).flatten) else none) = some d := hd
      by_cases c : (!as.isEmpty && decide (2 ≤ j) && decide (j ≤ 1000) && decide (as.length ≤ 1000)) = true
      · rw [if_pos c] at hd'; cases hd'
        simp only [Bool.and_eq_true, decide_eq_true_eq, Bool.not_eq_true', List.isEmpty_eq_false_iff] at c
        obtain ⟨⟨⟨c1, c2⟩, c3⟩, c4⟩ := c
        have c5 : xs.length ≤ 1000 := by rw [rp.length]; exact c4
        have hx : xs ≠ [] := fun e => by subst e; cases rp; exact c1 rfl
        have hz : (List.replicate j.toNat xs).flatten.length ≤ sizeLine := by
          rw [PyProof.Rows.lm_len_rep_flat, sizeLine_eq]
          have a1 : j.toNat * xs.length ≤ 1000 * 1000 := Nat.mul_le_mul (by omega) c5
          omega
        exact op_repT pins s σ H _ _ v u Q I rx ry ⟨p, j, xs, rfl, rfl, sqT_mono sub sp, hx, c2, c3, c5, k.newT sub hz (rp.rep _)⟩
      · rw [if_neg c] at hd'; cases hd'
    | non => exact nomatch hd
    | bl _ => exact nomatch hd
    | str _ _ _ => exact nomatch hd
    | lst _ _ _ => exact nomatch hd
    | tup _ _ _ => exact nomatch hd
def bopOp : BOp → Operator
  | .add => .Add | .sub => .Sub | .mul => .Mult | .fdiv => .FloorDiv | .mod => .Mod | .pow => .Pow
theorem bop_ok : ∀ op : BOp, OpR X (binaryOp (bopOp op)) (rBin X.K (bop op))
  | .add => bop_add
  | .sub => bop_sub
  | .mul => bop_mul
  | .fdiv => bop_fdiv
  | .mod => bop_mod
  | .pow => bop_pow
end
end Ev

/-! EvD: comparisons, built-ins, items, slices, methods. -/
namespace Ev
variable [Memo]
open PySem PySem.Spec PyProof.Rows L2

/-- frozen, or a list of the frame's own with frozen items -/
def RB (K : PySem.W.Frag) (H Hf : Hp) (v : V) (d : PyData) : Prop :=
  Rp K Hf v d ∨ ∃ p vs ds, v = .ref p ∧ d = .list ds ∧ H p = some (.lst vs) ∧ vs.length ≤ sizeLine ∧ RpAll K Hf vs ds
section
variable {K : PySem.W.Frag} {H Hf H' Hf' : Hp} {v : V} {d : PyData} {ds : List PyData}
theorem RB.rp (s : Sub H Hf) (h : RB K H Hf v d) : Rp K H v d := by
  rcases h with h | ⟨p, vs, ds, rfl, rfl, h1, h2, h3⟩
  · exact h.mono s _ _
  · exact .lst (.of h1) h2 (h3.mono s _ _)
theorem RB.ext (e : Ext H Hf H' Hf') (h : RB K H Hf v d) : RB K H' Hf' v d := by
  rcases h with h | ⟨p, vs, ds, rfl, rfl, h1, h2, h3⟩
  · exact .inl (h.mono e.fr _ _)
  · exact .inr ⟨p, vs, ds, rfl, rfl, e.lst h1, h2, h3.mono e.fr _ _⟩
theorem RB.list (s : Sub H Hf) (h : RB K H Hf v (.list ds)) : ∃ p vs, v = .ref p ∧ SqL K H p vs ∧ vs.length ≤ sizeLine ∧ RpAll K Hf vs ds := by
  rcases h with h | ⟨p, vs, es, rfl, e, h1, h2, h3⟩
  · cases h with
    | lst a b c => exact ⟨_, _, rfl, s.seq a, b, c⟩
  · cases e; exact ⟨p, vs, rfl, .of h1, h2, h3⟩
theorem RB.tuple (h : RB K H Hf v (.tuple ds)) : ∃ p vs, v = .ref p ∧ SqT K Hf p vs ∧ vs.length ≤ sizeLine ∧ RpAll K Hf vs ds := by
  rcases h with h | ⟨p, vs, es, rfl, e, h1, h2, h3⟩
  · cases h with
    | tup a b c => exact ⟨_, _, rfl, a, b, c⟩
  · cases e
theorem RB.int {i : Int} (h : RB K H Hf v (.int i)) : v = .int i := by
  rcases h with h | ⟨p, vs, es, rfl, e, h1, h2, h3⟩
  · cases h; rfl
  · cases e
theorem RB.bool {i : Bool} (h : RB K H Hf v (.bool i)) : v = .bl i := by
  rcases h with h | ⟨p, vs, es, rfl, e, h1, h2, h3⟩
  · cases h; rfl
  · cases e
theorem RB.str {i : Str} (h : RB K H Hf v (.str i)) : v = .str i ∧ i.length ≤ sizeLine ∧ PyData.strOk i = true := by
  rcases h with h | ⟨p, vs, es, rfl, e, h1, h2, h3⟩
  · cases h with | str _ a b => exact ⟨rfl, a, b⟩
  · cases e
end
theorem intsOf_some : ∀ {ds : List PyData} {ns : List Int}, intsOf ds = some ns → ds = ns.map .int
  | [], ns, h => by cases h; rfl
  | d :: ds, ns, h => by
    cases d with
    | int i =>
      have h' : (intsOf ds).map (i :: ·) = some ns := h
      obtain ⟨ms, h1, h2⟩ := Option.map_eq_some_iff.mp h'
      subst h2
      rw [intsOf_some h1]; rfl
    | _ => exact nomatch h
theorem boolsOf_some : ∀ {ds : List PyData} {ns : List Bool}, boolsOf ds = some ns → ds = ns.map .bool
  | [], ns, h => by cases h; rfl
  | d :: ds, ns, h => by
    cases d with
    | bool i =>
      have h' : (boolsOf ds).map (i :: ·) = some ns := h
      obtain ⟨ms, h1, h2⟩ := Option.map_eq_some_iff.mp h'
      subst h2
      rw [boolsOf_some h1]; rfl
    | _ => exact nomatch h
theorem strsOf_some : ∀ {ds : List PyData} {ns : List Str}, strsOf ds = some ns → ds = ns.map .str
  | [], ns, h => by cases h; rfl
  | d :: ds, ns, h => by
    cases d with
    | str i =>
      have h' : (strsOf ds).map (i :: ·) = some ns := h
      obtain ⟨ms, h1, h2⟩ := Option.map_eq_some_iff.mp h'
      subst h2
      rw [strsOf_some h1]; rfl
    | _ => exact nomatch h

section
variable {X : Cx}
/-! ### comparisons -/
def rCop (K : PySem.W.Frag) (op : COp) : R2 := fun x y H Q => ∃ a b c, Rp K H x a ∧ Rp K H y b ∧ cop op a b = some c ∧ Q (.bl c) H
def copOp : COp → CmpOp
  | .eq => .Eq | .ne => .NotEq | .lt => .Lt | .le => .LtE | .gt => .Gt | .ge => .GtE | .isin => .In | .notin => .NotIn
theorem ite_some {c : Bool} {α : Type} {a b : α} (h : (if c = true then some a else none) = some b) : c = true ∧ a = b := by
  by_cases e : c = true
  · rw [if_pos e] at h; exact ⟨e, Option.some.inj h⟩
  · rw [if_neg e] at h; cases h
theorem cop_eq (hu : X.A.units + 64 < cLine) : OpR X (compareOp .Eq) (rCop X.K .eq) := by
  intro pins s σ H x y v u Q I rx ry h
  obtain ⟨d, e, c, hd, he, hc, q⟩ := h
  have hc' : (if eqOk d e = true then some (PyData.eqv d e) else none) = some c := by cases d <;> cases e <;> exact hc
  obtain ⟨h1, rfl⟩ := ite_some hc'
  obtain ⟨as, r1⟩ := Dp.reads I d x v (hd.dp _ _) rx
  obtain ⟨bs, r2⟩ := Dp.reads I e y u (he.dp _ _) ry
  have h2 := of_decide_eq_true h1
  exact SeqAt.compareEq_reads r1 r2 (hd.lay _ _) (he.lay _ _) (by omega) ⟨.bl _, H, I, rfl, q⟩
theorem cop_ne (hu : X.A.units + 64 < cLine) : OpR X (compareOp .NotEq) (rCop X.K .ne) := by
  intro pins s σ H x y v u Q I rx ry h
  obtain ⟨d, e, c, hd, he, hc, q⟩ := h
  have hc' : (if eqOk d e = true then some (!PyData.eqv d e) else none) = some c := by cases d <;> cases e <;> exact hc
  obtain ⟨h1, rfl⟩ := ite_some hc'
  obtain ⟨as, r1⟩ := Dp.reads I d x v (hd.dp _ _) rx
  obtain ⟨bs, r2⟩ := Dp.reads I e y u (he.dp _ _) ry
  have h2 := of_decide_eq_true h1
  exact SeqAt.compareNe_reads r1 r2 (hd.lay _ _) (he.lay _ _) (by omega) ⟨.bl _, H, I, rfl, q⟩
theorem in_cases {neg : Bool} {d e : PyData} {c : Bool} (hc : cop (if neg then .notin else .isin) d e = some c) :
    (∃ ds, e = .list ds ∧ inOk ds d = true ∧ c = cond neg (!ds.any fun z => PyData.eqv z d) (ds.any fun z => PyData.eqv z d)) ∨ (∃ ds, e = .tuple ds ∧ inOk ds d = true ∧ c = cond neg (!ds.any fun z => PyData.eqv z d) (ds.any fun z => PyData.eqv z d)) := by
  cases neg with
  | false =>
    cases e with
    | list ds =>
      have hc' : (if inOk ds d = true then some (ds.any fun z => PyData.eqv z d) else none) = some c := by cases d <;> exact hc
      obtain ⟨h1, rfl⟩ := ite_some hc'
      exact .inl ⟨ds, rfl, h1, rfl⟩
    | tuple ds =>
      have hc' : (if inOk ds d = true then some (ds.any fun z => PyData.eqv z d) else none) = some c := by cases d <;> exact hc
      obtain ⟨h1, rfl⟩ := ite_some hc'
      exact .inr ⟨ds, rfl, h1, rfl⟩
    | _ => cases d <;> exact nomatch hc
  | true =>
    cases e with
    | list ds =>
      have hc' : (if inOk ds d = true then some (!ds.any fun z => PyData.eqv z d) else none) = some c := by cases d <;> exact hc
      obtain ⟨h1, rfl⟩ := ite_some hc'
      exact .inl ⟨ds, rfl, h1, rfl⟩
    | tuple ds =>
      have hc' : (if inOk ds d = true then some (!ds.any fun z => PyData.eqv z d) else none) = some c := by cases d <;> exact hc
      obtain ⟨h1, rfl⟩ := ite_some hc'
      exact .inr ⟨ds, rfl, h1, rfl⟩
    | _ => cases d <;> exact nomatch hc
theorem cop_in (hu : X.A.units + 65 < cLine) : OpR X (compareOp .In) (rCop X.K .isin) := by
  intro pins s σ H x y v u Q I rx ry h
  obtain ⟨d, e, c, hd, he, hc, q⟩ := h
  obtain ⟨as, r1⟩ := Dp.reads I d x v (hd.dp _ _) rx
  obtain ⟨bs, r2⟩ := Dp.reads I e y u (he.dp _ _) ry
  have hl := he.lay _ _
  rcases in_cases (neg := false) hc with ⟨ds, rfl, h1, rfl⟩ | ⟨ds, rfl, h1, rfl⟩
  · have h2 := of_decide_eq_true h1
    simp only [PyData.canLay0] at hl
    exact SeqAt.in_list_reads r2 r1 hl (hd.lay _ _) (by omega) ⟨.bl _, H, I, rfl, q⟩
  · have h2 := of_decide_eq_true h1
    simp only [PyData.canLay0] at hl
    exact SeqAt.in_tuple_reads r2 r1 hl (hd.lay _ _) (by omega) ⟨.bl _, H, I, rfl, q⟩
theorem cop_notin (hu : X.A.units + 65 < cLine) : OpR X (compareOp .NotIn) (rCop X.K .notin) := by
  intro pins s σ H x y v u Q I rx ry h
  obtain ⟨d, e, c, hd, he, hc, q⟩ := h
  obtain ⟨as, r1⟩ := Dp.reads I d x v (hd.dp _ _) rx
  obtain ⟨bs, r2⟩ := Dp.reads I e y u (he.dp _ _) ry
  have hl := he.lay _ _
  rcases in_cases (neg := true) hc with ⟨ds, rfl, h1, rfl⟩ | ⟨ds, rfl, h1, rfl⟩
  · have h2 := of_decide_eq_true h1
    simp only [PyData.canLay0] at hl
    exact SeqAt.notIn_list_reads r2 r1 hl (hd.lay _ _) (by omega) ⟨.bl _, H, I, rfl, q⟩
  · have h2 := of_decide_eq_true h1
    simp only [PyData.canLay0] at hl
    exact SeqAt.notIn_tuple_reads r2 r1 hl (hd.lay _ _) (by omega) ⟨.bl _, H, I, rfl, q⟩
theorem cop_ints {op : COp} {g : Int → Int → Bool} {a b : PyData} {c : Bool} (hop : op = .le ∨ op = .gt ∨ op = .ge) (hg : ∀ i j, cop op (.int i) (.int j) = some (g i j)) (h : cop op a b = some c) : ∃ i j, a = .int i ∧ b = .int j ∧ c = g i j := by
  cases a with
  | int i =>
    cases b with
    | int j => rw [hg] at h; exact ⟨i, j, rfl, rfl, (Option.some.inj h).symm⟩
    | _ => rcases hop with rfl | rfl | rfl <;> exact nomatch h
  | _ => rcases hop with rfl | rfl | rfl <;> cases b <;> exact nomatch h
theorem cop_le : OpR X (compareOp .LtE) (rCop X.K .le) := OpR.imp op_le fun x y H Q ⟨a, b, c, ra, rb, hc, q⟩ => by
  obtain ⟨i, j, rfl, rfl, rfl⟩ := cop_ints (op := .le) (g := fun i j => decide (i ≤ j)) (by simp) (fun _ _ => rfl) hc
  cases ra; cases rb; exact ⟨i, j, rfl, rfl, q⟩
theorem cop_gt : OpR X (compareOp .Gt) (rCop X.K .gt) := OpR.imp op_gt fun x y H Q ⟨a, b, c, ra, rb, hc, q⟩ => by
  obtain ⟨i, j, rfl, rfl, rfl⟩ := cop_ints (op := .gt) (g := fun i j => decide (j < i)) (by simp) (fun _ _ => rfl) hc
  cases ra; cases rb; exact ⟨i, j, rfl, rfl, q⟩
theorem cop_ge : OpR X (compareOp .GtE) (rCop X.K .ge) := OpR.imp op_ge fun x y H Q ⟨a, b, c, ra, rb, hc, q⟩ => by
  obtain ⟨i, j, rfl, rfl, rfl⟩ := cop_ints (op := .ge) (g := fun i j => decide (j ≤ i)) (by simp) (fun _ _ => rfl) hc
  cases ra; cases rb; exact ⟨i, j, rfl, rfl, q⟩
theorem cop_lt (hu : X.A.units < cLine) : OpR X (compareOp .Lt) (rCop X.K .lt) := by
  refine OpR.imp (OpR.or op_lt (op_ltT hu)) fun x y H Q ⟨a, b, c, ra, rb, hc, q⟩ => ?_
  cases a with
  | int i =>
    cases b with
    | int j => cases hc; cases ra; cases rb; exact .inl ⟨i, j, rfl, rfl, q⟩
    | _ => exact nomatch hc
  | tuple as =>
    cases b with
    | tuple bs =>
      have hc' : ((intsOf as).bind fun x => (intsOf bs).map fun y => HT.lexLt x y) = some c := hc
      obtain ⟨ns, h1, hc'⟩ := Option.bind_eq_some_iff.mp hc'
      obtain ⟨ms, h2, rfl⟩ := Option.map_eq_some_iff.mp hc'
      cases ra with
      | tup sa za ra =>
        cases rb with
        | tup sb zb rb =>
          rw [intsOf_some h1] at ra
          rw [intsOf_some h2] at rb
          rw [ra.ints] at sa
          rw [rb.ints] at sb
          exact .inr ⟨_, _, ns, ms, rfl, rfl, sa, sb, q⟩
    | _ => exact nomatch hc
  | _ => cases b <;> exact nomatch hc
theorem cop_ok (hu : X.A.units + 65 < cLine) : ∀ op : COp, OpR X (compareOp (copOp op)) (rCop X.K op)
  | .eq => cop_eq (by omega)
  | .ne => cop_ne (by omega)
  | .lt => cop_lt (by omega)
  | .le => cop_le
  | .gt => cop_gt
  | .ge => cop_ge
  | .isin => cop_in hu
  | .notin => cop_notin hu

/-! ### built-ins of one argument -/
def rBlt (K : PySem.W.Frag) (b : Blt) : List V → Hp → VK → Prop := fun vs H Q => ∃ v Hf a d, vs = [v] ∧ Sub H Hf ∧ RB K H Hf v a ∧ blt b a = some d ∧ KF K H Hf d Q
theorem CallR.imp {f : Value} {r r' : List V → Hp → VK → Prop} (h : CallR X f r) (i : ∀ xs H Q, r' xs H Q → r xs H Q) : CallR X f r' :=
  fun pins s σ H xs us Q I rx q => h pins s σ H xs us Q I rx (i _ _ _ q)
theorem blt_len : CallR X (.builtin "len") (rBlt X.K .len) := by
  refine CallR.imp (CallR.or call_len_seq call_len_str) fun xs H Q ⟨v, Hf, a, d, e, sub, r, hd, k⟩ => ?_
  subst e
  cases a with
  | list ds =>
    obtain ⟨p, vs, rfl, s1, z, rr⟩ := r.list sub
    cases hd
    exact .inl ⟨p, vs, rfl, .inl s1, by rw [rr.length]; exact k.here sub (.int _)⟩
  | tuple ds =>
    obtain ⟨p, vs, rfl, s1, z, rr⟩ := r.tuple
    cases hd
    exact .inl ⟨p, vs, rfl, .inr (sqT_mono sub s1), by rw [rr.length]; exact k.here sub (.int _)⟩
  | str x =>
    obtain ⟨rfl, h1, h2⟩ := r.str
    cases hd
    exact .inr ⟨x, rfl, h1, k.here sub (.int _)⟩
  | _ => exact nomatch hd
theorem blt_int : CallR X (.type "int") (rBlt X.K .int) := by
  refine CallR.imp call_int1 fun xs H Q ⟨v, Hf, a, d, e, sub, r, hd, k⟩ => ?_
  subst e
  cases a with
  | int i => cases r.int; cases hd; exact .inl ⟨i, rfl, k.here sub (.int _)⟩
  | bool i => cases r.bool; cases hd; exact .inr ⟨i, rfl, k.here sub (.int _)⟩
  | _ => exact nomatch hd
theorem blt_tuple : CallR X (.type "tuple") (rBlt X.K .tuple) := by
  refine CallR.imp call_tuple_of fun xs H Q ⟨v, Hf, a, d, e, sub, r, hd, k⟩ => ?_
  subst e
  cases a with
  | list ds =>
    obtain ⟨p, vs, rfl, s1, z, rr⟩ := r.list sub
    cases hd
    exact ⟨p, vs, rfl, .inl ⟨s1, k.newT sub z rr⟩⟩
  | tuple ds =>
    obtain ⟨p, vs, rfl, s1, z, rr⟩ := r.tuple
    cases hd
    exact ⟨p, vs, rfl, .inr ⟨sqT_mono sub s1, k.here sub (.tup s1 z rr)⟩⟩
  | _ => exact nomatch hd
theorem blt_list : CallR X (.type "list") (rBlt X.K .list) := by
  refine CallR.imp call_list_of fun xs H Q ⟨v, Hf, a, d, e, sub, r, hd, k⟩ => ?_
  subst e
  cases a with
  | list ds =>
    obtain ⟨p, vs, rfl, s1, z, rr⟩ := r.list sub
    cases hd
    exact ⟨p, vs, rfl, .inl s1, k.newL sub z rr⟩
  | tuple ds =>
    obtain ⟨p, vs, rfl, s1, z, rr⟩ := r.tuple
    cases hd
    exact ⟨p, vs, rfl, .inr (sqT_mono sub s1), k.newL sub z rr⟩
  | _ => exact nomatch hd
theorem blt_all (hc : X.calm = true) : CallR X (.builtin "all") (rBlt X.K .all) := by
  refine CallR.imp (cr_all hc) fun xs H Q ⟨v, Hf, a, d, e, sub, r, hd, k⟩ => ?_
  subst e
  cases a with
  | list ds =>
    obtain ⟨p, vs, rfl, s1, z, rr⟩ := r.list sub
    obtain ⟨bs, h1, rfl⟩ := Option.map_eq_some_iff.mp (show (boolsOf ds).map (fun b => PyData.bool (b.all id)) = some d from hd)
    rw [boolsOf_some h1] at rr
    rw [rr.bls] at s1
    exact ⟨p, bs, rfl, s1, k.here sub (.bl _)⟩
  | _ => exact nomatch hd
theorem blt_any (hc : X.calm = true) : CallR X (.builtin "any") (rBlt X.K .any) := by
  refine CallR.imp (cr_any hc) fun xs H Q ⟨v, Hf, a, d, e, sub, r, hd, k⟩ => ?_
  subst e
  cases a with
  | list ds =>
    obtain ⟨p, vs, rfl, s1, z, rr⟩ := r.list sub
    obtain ⟨bs, h1, rfl⟩ := Option.map_eq_some_iff.mp (show (boolsOf ds).map (fun b => PyData.bool (b.any id)) = some d from hd)
    rw [boolsOf_some h1] at rr
    rw [rr.bls] at s1
    exact ⟨p, bs, rfl, s1, k.here sub (.bl _)⟩
  | _ => exact nomatch hd

/-! ### isinstance -/
def tyName : Ty → String
  | .int => "int" | .str => "str" | .bool => "bool" | .tuple => "tuple" | .list => "list"
def tyStr : Ty → Str
  | .int => "int" | .str => "str" | .bool => "bool" | .tuple => "tuple" | .list => "list"
def tyOfD : PyData → String
  | .none => "NoneType" | .bool _ => "bool" | .int _ => "int" | .str _ => "str" | .list _ => "list" | .tuple _ => "tuple" | .dict _ => "dict"
theorem rp_tyX {K : PySem.W.Frag} {H : Hp} {v : V} {d : PyData} (r : Rp K H v d) : TyX K H v (.type (tyOfD d)) := by
  cases r with
  | non => exact .base .non
  | bl b => exact .base (.bl b)
  | int i => exact .base (.int i)
  | str x _ _ => exact .base (.str x)
  | lst s _ _ =>
    rcases s with (s | ⟨o, s⟩) | ⟨o, its, n, h1, h2, _⟩
    · exact .base (.lst s)
    · exact .base (.frz s)
    · exact .kList h1 h2
  | tup s _ _ =>
    rcases s with (s | ⟨o, s⟩) | ⟨o, its, n, h1, h2, _⟩
    · exact .base (.tup s)
    · exact .fTuple s
    · exact .kTuple h1 h2
theorem kit_all (t : Ty) (d : PyData) (hd : ∀ kvs, d ≠ .dict kvs) : kitB (tyOfD d) (tyName t) = some (isTy t d) := by
  cases d with
  | dict kvs => exact absurd rfl (hd kvs)
  | none => cases t <;> (show kitB "NoneType" _ = some false) <;> decide +kernel
  | bool b => cases t <;> (first | (show kitB "bool" _ = some false; decide +kernel) | (show kitB "bool" _ = some true; decide +kernel))
  | int b => cases t <;> (first | (show kitB "int" _ = some false; decide +kernel) | (show kitB "int" _ = some true; decide +kernel))
  | str b => cases t <;> (first | (show kitB "str" _ = some false; decide +kernel) | (show kitB "str" _ = some true; decide +kernel))
  | list b => cases t <;> (first | (show kitB "list" _ = some false; decide +kernel) | (show kitB "list" _ = some true; decide +kernel))
  | tuple b => cases t <;> (first | (show kitB "tuple" _ = some false; decide +kernel) | (show kitB "tuple" _ = some true; decide +kernel))
def rIsI (K : PySem.W.Frag) (t : Ty) : List V → Hp → VK → Prop := fun vs H Q => ∃ v a, vs = [v, .ty (tyName t)] ∧ Rp K H v a ∧ Q (.bl (isTy t a)) H
theorem isi_ok (t : Ty) : CallR X (.builtin "isinstance") (rIsI X.K t) := by
  refine CallR.imp call_isi fun xs H Q ⟨v, a, e, r, q⟩ => ?_
  subst e
  refine ⟨v, .ty (tyName t), .type (tyOfD a), .type (tyName t), isTy t a, rfl, .ty _, rp_tyX r, kit_ty (kit_all t a fun kvs e => ?_), q⟩
  subst e
  cases r

/-! ### items, slices -/
theorem sign_ok {x : Str} {i : Int} {c : Nat} (h : PyData.strOk x = true) (e : atI x.cps.toList i = some c) : PyData.strOk ⟨#[c]⟩ = true := by
  obtain ⟨j, _, h2, _⟩ := atI_get e
  have h3 : c ∈ x.cps := by
    have := List.mem_of_getElem? h2
    simpa using this
  have h4 := Array.all_eq_true_iff_forall_mem.mp (show x.cps.all (· < 0x110000) = true from h) c h3
  show (#[c] : Array Nat).all (· < 0x110000) = true
  simpa using h4
theorem RpAll.atI {K : PySem.W.Frag} {H : Hp} {ds : List PyData} {vs : List V} {i : Int} {d : PyData} (r : RpAll K H vs ds) (h : L2.atI ds i = some d) : ∃ v, L2.atI vs i = some v ∧ Rp K H v d := by
  unfold L2.atI at h ⊢
  rw [r.length]
  obtain ⟨j, h1, h2⟩ := Option.bind_eq_some_iff.mp h
  obtain ⟨v, h3, h4⟩ := r.get h2
  exact ⟨v, by rw [h1]; exact h3, h4⟩
def rIxD (K : PySem.W.Frag) : R2 := fun x y H Q => ∃ Hf a b d, Sub H Hf ∧ RB K H Hf x a ∧ Rp K Hf y b ∧ ixD a b = some d ∧ KF K H Hf d Q
theorem ixD_ok : IxR X (rIxD X.K) := by
  intro value slice pins s σ H x y v u Q I rx ry h hpl
  obtain ⟨Hf, a, b, d, sub, ra, rb, hd, k⟩ := h
  refine ix_seq value slice pins s σ H x y v u Q I rx ry ?_ hpl
  cases b with
  | int i =>
    cases rb
    cases a with
    | list ds =>
      obtain ⟨p, vs, rfl, s1, z, rr⟩ := ra.list sub
      obtain ⟨w, h1, h2⟩ := rr.atI (show atI ds i = some d from hd)
      exact .inl ⟨p, vs, i, w, rfl, rfl, s1, h1, k.here sub h2⟩
    | tuple ds =>
      obtain ⟨p, vs, rfl, s1, z, rr⟩ := ra.tuple
      obtain ⟨w, h1, h2⟩ := rr.atI (show atI ds i = some d from hd)
      exact .inr (.inl ⟨p, vs, i, w, rfl, rfl, sqT_mono sub s1, h1, k.here sub h2⟩)
    | str z =>
      obtain ⟨rfl, h1, h2⟩ := ra.str
      obtain ⟨c, h3, rfl⟩ := Option.map_eq_some_iff.mp (show (atI z.cps.toList i).map (fun c => PyData.str ⟨#[c]⟩) = some d from hd)
      exact .inr (.inr ⟨z, i, c, rfl, rfl, h1, h3, k.here sub (.str _ (by show 1 ≤ sizeLine; decide) (sign_ok h2 h3))⟩)
    | _ => exact nomatch hd
  | _ => cases a <;> exact nomatch hd
theorem RpAll.cut {K : PySem.W.Frag} {H : Hp} {ds : List PyData} {vs : List V} (r : RpAll K H vs ds) (lo hi : Option Int) : RpAll K H (cutV vs lo hi) (cutD ds lo hi) := by
  unfold cutV cutD
  rw [r.length]
  exact (r.drop _).take _
def rSlD (K : PySem.W.Frag) : V → Option Int → Option Int → Hp → VK → Prop := fun x lo hi H Q => ∃ Hf a d, Sub H Hf ∧ RB K H Hf x a ∧ slD a lo hi = some d ∧ KF K H Hf d Q
theorem cut_ok {z : Str} {lo hi : Option Int} (h : PyData.strOk z = true) : PyData.strOk (cutS z lo hi) = true := by
  have h' : z.cps.all (· < 0x110000) = true := h
  rw [Array.all_eq_true_iff_forall_mem] at h'
  show (((z.cps.toList.drop (HT.sIx z.length 0 lo)).take (HT.sIx z.length z.length hi - HT.sIx z.length 0 lo)).toArray).all (· < 0x110000) = true
  rw [Array.all_eq_true_iff_forall_mem]
  intro c hc
  have h2 : c ∈ z.cps.toList := List.mem_of_mem_drop (List.mem_of_mem_take (List.mem_toArray.mp hc))
  exact h' c (Array.mem_toList_iff.mp h2)
theorem slD_ok : SlR X (rSlD X.K) := by
  intro pins s σ H x v vl vu lo hi sl Q I rx hs pl pu h
  obtain ⟨Hf, a, d, sub, ra, hd, k⟩ := h
  cases a with
  | list ds =>
    obtain ⟨p, vs, rfl, s1, z, rr⟩ := ra.list sub
    cases hd
    exact sl_list pins s σ H _ v vl vu lo hi sl Q I rx hs pl pu ⟨p, vs, rfl, s1, k.newL sub (Nat.le_trans (cutV_length vs lo hi) z) (rr.cut lo hi)⟩
  | tuple ds =>
    obtain ⟨p, vs, rfl, s1, z, rr⟩ := ra.tuple
    cases hd
    refine sl_tupA pins s σ H _ v vl vu lo hi sl Q I rx hs pl pu ⟨p, vs, rfl, sqT_mono sub s1, fun e => ?_, fun _ => k.newT sub (Nat.le_trans (cutV_length vs lo hi) z) (rr.cut lo hi)⟩
    have e2 : cutD ds lo hi = ds := by
      unfold cutD
      rw [← rr.length, e.1, e.2, List.drop_zero, Nat.sub_zero, rr.length, List.take_length]
    rw [e2] at k
    exact k.here sub (.tup s1 z rr)
  | str z =>
    obtain ⟨rfl, h1, h2⟩ := ra.str
    cases hd
    exact sl_str pins s σ H _ v vl vu lo hi sl Q I rx hs pl pu ⟨z, rfl, h1, k.here sub (.str _ (Nat.le_trans (cutS_length z lo hi) h1) (cut_ok h2))⟩
  | _ => exact nomatch hd

/-! ### methods -/
theorem joinLen_eq (n : Nat) : ∀ xs : List Str, joinLen n xs = (xs.map (·.length)).sum + xs.length * n
  | [] => by simp [joinLen]
  | x :: r => by
    rw [joinLen, joinLen_eq n r, List.map_cons, List.sum_cons, List.length_cons, Nat.succ_mul]
    omega
theorem join_ok {a : Str} (ha : PyData.strOk a = true) : ∀ ys : List Str, (∀ y ∈ ys, PyData.strOk y = true) → PyData.strOk (Str.join a ys) = true ∧ (Str.join a ys).length ≤ joinLen a.length ys
  | [], _ => ⟨by show PyData.strOk Str.empty = true; decide +kernel, Nat.zero_le _⟩
  | [y], h => ⟨h y (by simp), by show y.length ≤ y.length + a.length + 0; omega⟩
  | y :: z :: r, h => by
    obtain ⟨h1, h2⟩ := join_ok ha (z :: r) (fun w hw => h w (List.mem_cons_of_mem _ hw))
    have e : Str.join a (y :: z :: r) = y ++ a ++ Str.join a (z :: r) := rfl
    rw [e]
    refine ⟨strOk_app (strOk_app (h y (by simp)) ha) h1, ?_⟩
    rw [len_app, len_app]
    have e2 : joinLen a.length (y :: z :: r) = y.length + a.length + joinLen a.length (z :: r) := rfl
    omega
theorem RpAll.strOks {K : PySem.W.Frag} {H : Hp} : ∀ {ns : List Str} {vs : List V}, RpAll K H vs (ns.map PyData.str) → ∀ y ∈ ns, PyData.strOk y = true
  | [], _, _ => fun y hy => absurd hy (by simp)
  | n :: ns, _, h => by
    cases h with
    | cons a b =>
      cases a with
      | str _ _ w =>
        intro y hy
        rcases List.mem_cons.mp hy with rfl | hy
        · exact w
        · exact RpAll.strOks b y hy
def rMet (K : PySem.W.Frag) (g : PyData → PyData → Option PyData) : V → List V → Hp → VK → Prop := fun x xs H Q => ∃ y Hf a b d, xs = [y] ∧ Sub H Hf ∧ RB K H Hf x a ∧ RB K H Hf y b ∧ g a b = some d ∧ KF K H Hf d Q
theorem MtR.imp {id : String} {r r' : V → List V → Hp → VK → Prop} (h : MtR X id r) (i : ∀ x xs H Q, r' x xs H Q → r x xs H Q) : MtR X id r' :=
  fun pins s σ H x xs v us Q I rx rs q => h pins s σ H x xs v us Q I rx rs (i _ _ _ _ q)
theorem joinD_ok : MtR X "str.join" (rMet X.K joinD) := by
  refine MtR.imp mt_join fun x xs H Q ⟨y, Hf, a, b, d, e, sub, ra, rb, hd, k⟩ => ?_
  subst e
  cases a with
  | str s =>
    cases b with
    | list ds =>
      obtain ⟨rfl, h1, h2⟩ := ra.str
      obtain ⟨p, vs, rfl, s1, z, rr⟩ := rb.list sub
      have hd' : ((strsOf ds).bind fun xs => if joinLen s.length xs ≤ sizeLine then some (PyData.str (Str.join s xs)) else none) = some d := hd
      obtain ⟨xs, h3, h4⟩ := Option.bind_eq_some_iff.mp hd'
      by_cases c : joinLen s.length xs ≤ sizeLine
      · rw [if_pos c] at h4
        cases h4
        rw [strsOf_some h3] at rr
        have hs := rr.strOks
        rw [rr.strs] at s1
        obtain ⟨j1, j2⟩ := join_ok h2 xs hs
        have c2 := c
        rw [joinLen_eq, sizeLine_eq] at c2
        exact ⟨s, p, xs, rfl, rfl, .inl s1, c2, by rw [TL.join_eq]; exact k.here sub (.str _ (Nat.le_trans j2 c) j1)⟩
      · rw [if_neg c] at h4; cases h4
    | _ => exact nomatch hd
  | _ => cases b <;> exact nomatch hd
theorem spl_sub (S : List Nat) : ∀ (l : List Nat) (k : Nat) (acc p : List Nat), p ∈ TL.spl S k acc l → p.length ≤ acc.length + l.length ∧ ∀ c ∈ p, c ∈ acc ∨ c ∈ l
  | [], k, acc, p, h => by
    rw [TL.spl_nil, List.mem_singleton] at h
    subst h
    exact ⟨Nat.le_refl _, fun c hc => .inl hc⟩
  | x :: r, 0, acc, p, h => by
    cases q : TL.pre S (x :: r) with
    | true =>
      rw [TL.spl_hit q] at h
      rcases List.mem_cons.mp h with rfl | h
      · exact ⟨by omega, fun c hc => .inl hc⟩
      · obtain ⟨h1, h2⟩ := spl_sub S r _ _ _ h
        refine ⟨by simp only [List.length_nil, List.length_cons] at *; omega, fun c hc => ?_⟩
        rcases h2 c hc with z | z
        · cases z
        · exact .inr (List.mem_cons_of_mem _ z)
    | false =>
      rw [TL.spl_miss q] at h
      obtain ⟨h1, h2⟩ := spl_sub S r _ _ _ h
      refine ⟨by simp only [List.length_append, List.length_cons, List.length_nil] at *; omega, fun c hc => ?_⟩
      rcases h2 c hc with z | z
      · rcases List.mem_append.mp z with z | z
        · exact .inl z
        · rw [List.mem_singleton] at z
          subst z
          exact .inr List.mem_cons_self
      · exact .inr (List.mem_cons_of_mem _ z)
  | x :: r, k + 1, acc, p, h => by
    have h' : p ∈ TL.spl S k acc r := h
    obtain ⟨h1, h2⟩ := spl_sub S r _ _ _ h'
    refine ⟨by simp only [List.length_cons] at *; omega, fun c hc => ?_⟩
    rcases h2 c hc with z | z
    · exact .inl z
    · exact .inr (List.mem_cons_of_mem _ z)
theorem split_sub {a b p : Str} (hb : b.length ≠ 0) (h : p ∈ Txt.split a b) : p.length ≤ a.length ∧ ∀ c ∈ p.cps, c ∈ a.cps := by
  by_cases hk : Builtin.Str.strKind a < Builtin.Str.strKind b
  · have e : Txt.split a b = [a] := by
      unfold Txt.split
      rw [if_pos (by rw [decide_eq_true hk, Bool.or_true])]
    rw [e, List.mem_singleton] at h
    subst h
    exact ⟨Nat.le_refl _, fun c hc => hc⟩
  · have e := TL.split_spl a b (by
      intro z
      apply hb
      rw [TL.len_tl, z]; rfl) hk
    have hm : TL.tl p ∈ (Txt.split a b).map TL.tl := List.mem_map.mpr ⟨p, h, rfl⟩
    rw [e] at hm
    obtain ⟨h1, h2⟩ := spl_sub _ _ _ _ _ hm
    refine ⟨by rw [TL.len_tl, TL.len_tl]; simpa using h1, fun c hc => ?_⟩
    rcases h2 c (by simpa using hc) with z | z
    · cases z
    · simpa using z
theorem split_ok {a b p : Str} (hb : b.length ≠ 0) (ha : PyData.strOk a = true) (h : p ∈ Txt.split a b) : PyData.strOk p = true := by
  have h' : a.cps.all (· < 0x110000) = true := ha
  rw [Array.all_eq_true_iff_forall_mem] at h'
  show p.cps.all (· < 0x110000) = true
  rw [Array.all_eq_true_iff_forall_mem]
  exact fun c hc => h' c ((split_sub hb h).2 c hc)
theorem RpAll.of_strs {K : PySem.W.Frag} {H : Hp} : ∀ {l : List Str}, (∀ p ∈ l, p.length ≤ sizeLine ∧ PyData.strOk p = true) → RpAll K H (l.map V.str) (l.map PyData.str)
  | [], _ => .nil
  | p :: r, h => .cons (.str p (h p (by simp)).1 (h p (by simp)).2) (RpAll.of_strs fun q hq => h q (List.mem_cons_of_mem _ hq))
/-- x.split(sep): a new list -/
def rSplitO (K : PySem.W.Frag) : V → List V → Hp → VK → Prop := fun x xs H Q => ∃ y Hf a b ds, xs = [y] ∧ Sub H Hf ∧ Rp K Hf x a ∧ Rp K Hf y b ∧ splitD a b = some (.list ds) ∧ ∀ p vs, H p = none → vs.length ≤ sizeLine → RpAll K Hf vs ds → Q (.ref p) (upd H p (.lst vs))
theorem splitD_some {a b d : PyData} (h : splitD a b = some d) : ∃ x y, a = .str x ∧ b = .str y ∧ y.length ≠ 0 ∧ x.length ≤ 1000000 ∧ d = .list ((Txt.split x y).map .str) := by
  cases a with
  | str x =>
    cases b with
    | str y =>
      have h' : (if decide (y.length ≠ 0) && decide (x.length ≤ 1000000) then some (PyData.list ((Txt.split x y).map .str)) else none) = some d := h
      obtain ⟨c, rfl⟩ := ite_some h'
      simp only [Bool.and_eq_true, decide_eq_true_eq] at c
      exact ⟨x, y, rfl, rfl, c.1, c.2, rfl⟩
    | _ => exact nomatch h
  | _ => cases b <;> exact nomatch h
theorem splitO_ok : MtR X "str.split" (rSplitO X.K) := by
  refine MtR.imp mt_split fun x xs H Q ⟨y, Hf, a, b, ds, e, sub, ra, rb, hd, k⟩ => ?_
  subst e
  obtain ⟨s, t, rfl, rfl, h1, h2, h3⟩ := splitD_some hd
  cases h3
  cases ra with
  | str _ z w =>
    cases rb with
    | str _ z2 w2 =>
      refine ⟨s, t, rfl, rfl, by simpa using h1, by rw [sizeLine_eq]; omega, fun p hp => k p _ hp ?_ (RpAll.of_strs fun q hq => ⟨Nat.le_trans (split_sub h1 hq).1 z, split_ok h1 w hq⟩)⟩
      have := PyProof.Rows.split_le s t
      rw [List.length_map, sizeLine_eq]; omega
theorem indexD_some {k : PyData} : ∀ {ds : List PyData} {j : Nat}, indexD k ds = some j → ∃ z, ds[j]? = some z ∧ PyData.eqv z k = true ∧ ∀ (m : Nat) (z' : PyData), m < j → ds[m]? = some z' → PyData.eqv z' k = false
  | [], _, h => by cases h
  | d :: r, j, h => by
    have h' : (if PyData.eqv d k = true then some 0 else (indexD k r).map (· + 1)) = some j := h
    by_cases c : PyData.eqv d k = true
    · rw [if_pos c] at h'
      cases h'
      exact ⟨d, rfl, c, fun m _ hm => absurd hm (Nat.not_lt_zero _)⟩
    · rw [if_neg c] at h'
      obtain ⟨i, h1, rfl⟩ := Option.map_eq_some_iff.mp h'
      obtain ⟨z, h2, h3, h4⟩ := indexD_some h1
      refine ⟨z, by simpa using h2, h3, fun m z' hm hz => ?_⟩
      cases m with
      | zero =>
        have : d = z' := Option.some.inj (by simpa using hz)
        subst this
        exact Bool.eq_false_iff.mpr c
      | succ m => exact h4 m z' (by omega) (by simpa using hz)
theorem index_run (hu : X.A.units + 65 < cLine) : MtR X "list.index" (fun x xs H Q => ∃ (a : Addr) (y : V) (d : PyData) (ds : List PyData) (j : Nat), x = V.ref a ∧ xs = [y] ∧ Rp X.K H (V.ref a) (.list ds) ∧ Rp X.K H y d ∧ inOk ds d = true ∧ indexD d ds = some j ∧ Q (.int (j : Nat)) H) := by
  intro pins s σ H x xs v us Q I rx rxs h
  obtain ⟨a, y, d, ds, j, rfl, rfl, hl, hy, hin, hj, q⟩ := h
  obtain ⟨z, hz, hzj, hno⟩ := indexD_some hj
  cases rx
  cases rxs with
  | cons ry rt =>
    rename_i uy ut
    cases rt
    obtain ⟨bs, r1⟩ := Dp.reads I d y uy (hy.dp _ _) ry
    have hxs : PyData.canLayAll0 ds = true := by
      have := hl.lay _ _
      simpa [PyData.canLay0] using this
    have hroom : X.A.units + 1 + min (PyData.depthAll ds) d.depth < cLine := by
      have := of_decide_eq_true hin
      omega
    cases hl.dp _ _ with
    | lst hs ha =>
      obtain ⟨its, rv, ⟨⟨cls, dd, data, sls⟩, n, ho, hc, hdn, hdt⟩, hlen⟩ := I.list hs
      simp only at hc hdt
      subst hc hdt
      obtain ⟨as, h4⟩ := Dp.readsAll I ds _ its ha rv
      have hn : its.length = ds.length := SeqAt.ReadsAll.length ds its as h4
      have hmap : its.map (SeqAt.readOf s.heap) = ds := SeqAt.readsAll_map ds its as hxs h4
      have hvl := rv.length
      have hsl := sizeLine_eq
      obtain ⟨hjd, _⟩ := List.getElem?_eq_some_iff.mp hz
      have hjl : j < its.length := by omega
      have hj : j < its.toArray.size := by simpa using hjl
      have at_ : ∀ (m : Nat) (hm : m < its.toArray.size) (z' : PyData), ds[m]? = some z' → SeqAt.readOf s.heap its.toArray[m] = z' := by
        intro m hm z' hz'
        have hml : m < its.length := by simpa using hm
        rw [← hmap, List.getElem?_map, List.getElem?_eq_getElem hml] at hz'
        have e1 : SeqAt.readOf s.heap its[m] = z' := Option.some.inj (show some (SeqAt.readOf s.heap its[m]) = some z' from hz')
        simpa using e1
      refine call_meets PySem.F.slot_list_index ⟨_, ho, rfl⟩ PySem.F.entry_list_index (PySem.F.args_list_index_2 _ _)
        (SeqAt.list_indexAt a its.toArray n dd sls uy (fun u => PyData.eqv (SeqAt.readOf s.heap u) d) j hj (by omega) ?_ ?_) ⟨ho, SeqAt.items_eqAt (vs := its.toArray) (show ReadsAll s.heap its.toArray.toList ds as from h4) r1 hxs (hy.lay _ _) hroom, ?_⟩
      · show PyData.eqv (SeqAt.readOf s.heap its.toArray[j]) d = true
        rw [at_ j hj z hz]
        exact hzj
      · intro m hm hmj
        have hmd : m < ds.length := by omega
        have hz' : ds[m]? = some ds[m] := List.getElem?_eq_getElem hmd
        show PyData.eqv (SeqAt.readOf s.heap its.toArray[m]) d = false
        rw [at_ m hm _ hz']
        exact hno m _ hmj hz'
      · exact ⟨.int (j : Nat), H, I.tok _, ⟨_, rfl⟩, q⟩
theorem idxD_ok (hu : X.A.units + 65 < cLine) : MtR X "list.index" (rMet X.K idxD) := by
  refine MtR.imp (index_run hu) fun x xs H Q ⟨y, Hf, a, b, d, e, sub, ra, rb, hd, k⟩ => ?_
  subst e
  cases a with
  | list ds =>
    have hd' : (if inOk ds b = true then (indexD b ds).map fun (j : Nat) => PyData.int (j : Int) else none) = some d := hd
    by_cases c : inOk ds b = true
    · rw [if_pos c] at hd'
      obtain ⟨j, h1, rfl⟩ := Option.map_eq_some_iff.mp hd'
      have r1 := ra.rp sub
      obtain ⟨p, vs, rfl, _⟩ := ra.list sub
      exact ⟨p, y, b, ds, j, rfl, rfl, r1, rb.rp sub, c, h1, k.here sub (.int _)⟩
    · rw [if_neg c] at hd'; cases hd'
  | _ => cases b <;> exact nomatch hd
end
end Ev

/-! EvE: expressions, one construct at a time. -/
namespace Ev
variable [Memo]
open PySem PySem.Spec PyProof.Rows L2

/-! ### readings -/
def tF (K : PySem.W.Frag) (f : Rho → Option PyData) : TE := fun σ H Q => ∃ Hf ρ d, ER K σ H Hf ρ ∧ f ρ = some d ∧ KF K H Hf d Q
def tBm (K : PySem.W.Frag) (f : Rho → Option PyData) : TE := fun σ H Q => ∃ Hf ρ d, ER K σ H Hf ρ ∧ f ρ = some d ∧ ∀ v H' Hf', Ext H Hf H' Hf' → RB K H' Hf' v d → Q v H'
def tT (K : PySem.W.Frag) (f : Rho → Option PyData) : TT := fun σ H Q => ∃ Hf ρ b, ER K σ H Hf ρ ∧ boolOf (f ρ) = some b ∧ ∀ H' Hf', Ext H Hf H' Hf' → Q b H'
def tAs (K : PySem.W.Frag) (f : Rho → Option (List PyData)) : TA := fun σ H Q => ∃ Hf ρ ds, ER K σ H Hf ρ ∧ f ρ = some ds ∧ ∀ vs H' Hf', Ext H Hf H' Hf' → RpAll K Hf' vs ds → Q vs H'

theorem boolOf_some {o : Option PyData} {b : Bool} (h : boolOf o = some b) : o = some (.bool b) := by
  cases o with
  | none => cases h
  | some d => cases d <;> first | (cases h; rfl) | cases h
section
variable {X : Cx}
theorem PEimp {e : Expr} {t t' : TE} (h : PE X e t) (i : ∀ σ H Q, t' σ H Q → t σ H Q) : PE X e t' := ⟨fun pins s σ H Q I q => h.run pins s σ H Q I (i _ _ _ q)⟩
theorem PTimp {e : Expr} {t t' : TT} (h : PT X e t) (i : ∀ σ H Q, t' σ H Q → t σ H Q) : PT X e t' := ⟨fun pins s σ H Q I q => h.run pins s σ H Q I (i _ _ _ q)⟩
theorem PWimp {e : Expr} {t t' : TT} (h : PW X e t) (i : ∀ σ H Q, t' σ H Q → t σ H Q) : PW X e t' := ⟨fun wh pins s σ H Q I q => h.run wh pins s σ H Q I (i _ _ _ q)⟩
theorem PAimp {es : List Expr} {t t' : TA} (h : PA X es t) (i : ∀ σ H Q, t' σ H Q → t σ H Q) : PA X es t' := ⟨fun pos pins s σ H Q I q => h.run pos pins s σ H Q I (i _ _ _ q)⟩
/-- what a frozen result is good for -/
theorem tF_B {K : PySem.W.Frag} {f : Rho → Option PyData} {σ : L2.St} {H : Hp} {Q : VK} (h : tBm K f σ H Q) : tF K f σ H Q := by
  obtain ⟨Hf, ρ, d, r, hd, k⟩ := h
  exact ⟨Hf, ρ, d, r, hd, fun v H' Hf' e rv => k v H' Hf' e (.inl rv)⟩
theorem bor_F {e : Expr} {p : PX} {f : Rho → Option PyData} (hv : ∀ i, p ≠ .var i) (h : PE X e (tF X.K f)) (ha : ∀ i k, p ≠ .attr i k := by intro _ _ z; cases z) : PE X e (tBm X.K fun ρ => bor p ρ (f ρ)) := by
  have e1 : (fun ρ => bor p ρ (f ρ)) = f := by
    funext ρ
    cases p with
    | var i => exact absurd rfl (hv i)
    | attr i k => exact absurd rfl (ha i k)
    | _ => rfl
  rw [e1]
  exact PEimp h fun σ H Q q => tF_B q
theorem bor_var {e : Expr} {i : Nat} (h : PE X e (tVar i)) : PE X e (tBm X.K fun ρ => bor (.var i) ρ (getV i ρ)) := by
  refine PEimp h fun σ H Q ⟨Hf, ρ, d, r, hd, k⟩ => ?_
  have hd' : (match ρ[i]? with | some (.own ds) => some (PyData.list ds) | _ => getV i ρ) = some d := hd
  cases q : ρ[i]? with
  | none => rw [q] at hd'; simp only [getV, q] at hd'; cases hd'
  | some s =>
    cases s with
    | un => rw [q] at hd'; simp only [getV, q] at hd'; cases hd'
    | dic _ _ => rw [q] at hd'; simp only [getV, q] at hd'; cases hd'
    | ob _ => rw [q] at hd'; simp only [getV, q] at hd'; cases hd'
    | odc _ => rw [q] at hd'; simp only [getV, q] at hd'; cases hd'
    | mk _ _ _ _ => rw [q] at hd'; simp only [getV, q] at hd'; cases hd'
    | val c =>
      rw [q] at hd'
      simp only [getV, q] at hd'
      cases hd'
      obtain ⟨v, h1, h2⟩ := r.val i d q
      exact ⟨v, h1, k v H Hf (Ext.refl r.sub) (.inl h2)⟩
    | own ds =>
      rw [q] at hd'
      cases hd'
      obtain ⟨p, vs, h1, h2, h3, h4, h5⟩ := r.own i ds q
      exact ⟨_, h1, k _ H Hf (Ext.refl r.sub) (.inr ⟨p, vs, ds, rfl, rfl, h2, h3, h4⟩)⟩
theorem pf_var {e : Expr} {i : Nat} (h : PE X e (tVar i)) : PE X e (tF X.K (getV i)) := by
  refine PEimp h fun σ H Q ⟨Hf, ρ, d, r, hd, k⟩ => ?_
  cases q : ρ[i]? with
  | none => simp only [getV, q] at hd; cases hd
  | some s =>
    cases s with
    | un => simp only [getV, q] at hd; cases hd
    | own ds => simp only [getV, q] at hd; cases hd
    | dic _ _ => simp only [getV, q] at hd; cases hd
    | ob _ => simp only [getV, q] at hd; cases hd
    | odc _ => simp only [getV, q] at hd; cases hd
    | mk _ _ _ _ => simp only [getV, q] at hd; cases hd
    | val c =>
      simp only [getV, q] at hd
      cases hd
      obtain ⟨v, h1, h2⟩ := r.val i d q
      exact ⟨v, h1, k.here r.sub h2⟩
/-- a value that hangs on nothing -/
theorem pf_const {e : Expr} {v : V} {d : PyData} (h : PE X e (tC v)) (r : ∀ H, Rp X.K H v d) : PE X e (tF X.K fun _ => some d) := by
  refine PEimp h fun σ H Q ⟨Hf, ρ, d', er, hd, k⟩ => ?_
  cases hd
  exact k.here er.sub (r _)
/-- as a test -/
theorem pt_of {e : Expr} {f : Rho → Option PyData} (h : PE X e (tF X.K f)) (he : ∀ whole, isTrue e X.env whole = (do let v ← whole; standAt e.pos; holding [v] (truthy v))) : PT X e (tT X.K f) := by
  refine PTimp (pt_val h he) fun σ H Q ⟨Hf, ρ, b, er, hb, k⟩ => ?_
  refine ⟨Hf, ρ, .bool b, er, boolOf_some hb, fun v H' Hf' e rv => ?_⟩
  cases rv
  exact ⟨b, rfl, k H' Hf' e⟩
/-- two operands -/
theorem two {K : PySem.W.Frag} {fa fb : Rho → Option PyData} {σ : L2.St} {H Hf : Hp} {ρ : Rho} {a b : PyData} {R : V → V → Hp → Prop} (er : ER K σ H Hf ρ) (ha : fa ρ = some a) (hb : fb ρ = some b)
    (k : ∀ x y H' Hf', Ext H Hf H' Hf' → Rp K Hf' x a → Rp K Hf' y b → R x y H') : tF K fa σ H fun x H1 => tF K fb σ H1 fun y H2 => R x y H2 :=
  ⟨Hf, ρ, a, er, ha, fun x H1 Hf1 e1 r1 => ⟨Hf1, ρ, b, er.ext e1, hb, fun y H2 Hf2 e2 r2 => k x y H2 Hf2 (e1.trans e2) (r1.mono e2.fr _ _) r2⟩⟩
theorem twoB {K : PySem.W.Frag} {fa fb : Rho → Option PyData} {σ : L2.St} {H Hf : Hp} {ρ : Rho} {a b : PyData} {R : V → V → Hp → Prop} (er : ER K σ H Hf ρ) (ha : fa ρ = some a) (hb : fb ρ = some b)
    (k : ∀ x y H' Hf', Ext H Hf H' Hf' → RB K H' Hf' x a → RB K H' Hf' y b → R x y H') : tBm K fa σ H fun x H1 => tBm K fb σ H1 fun y H2 => R x y H2 :=
  ⟨Hf, ρ, a, er, ha, fun x H1 Hf1 e1 r1 => ⟨Hf1, ρ, b, er.ext e1, hb, fun y H2 Hf2 e2 r2 => k x y H2 Hf2 (e1.trans e2) (r1.ext e2) r2⟩⟩
theorem twoBF {K : PySem.W.Frag} {fa fb : Rho → Option PyData} {σ : L2.St} {H Hf : Hp} {ρ : Rho} {a b : PyData} {R : V → V → Hp → Prop} (er : ER K σ H Hf ρ) (ha : fa ρ = some a) (hb : fb ρ = some b)
    (k : ∀ x y H' Hf', Ext H Hf H' Hf' → RB K H' Hf' x a → Rp K Hf' y b → R x y H') : tBm K fa σ H fun x H1 => tF K fb σ H1 fun y H2 => R x y H2 :=
  ⟨Hf, ρ, a, er, ha, fun x H1 Hf1 e1 r1 => ⟨Hf1, ρ, b, er.ext e1, hb, fun y H2 Hf2 e2 r2 => k x y H2 Hf2 (e1.trans e2) (r1.ext e2) r2⟩⟩
theorem KF.ext {K : PySem.W.Frag} {H Hf H' Hf' : Hp} {d : PyData} {Q : VK} (k : KF K H Hf d Q) (e : Ext H Hf H' Hf') : KF K H' Hf' d Q := fun v H2 Hf2 e2 r => k v H2 Hf2 (e.trans e2) r
variable {a b c : Expr} {fa fb fc : Rho → Option PyData} {pos : Pos}
theorem pf_bin {op : BOp} (ha : PE X a (tF X.K fa)) (hb : PE X b (tF X.K fb)) : PE X (.BinOp a (bopOp op) b pos) (tF X.K fun ρ => (fa ρ).bind fun x => (fb ρ).bind fun y => bop op x y) := by
  refine PEimp (pe_op (bop_ok op) ha hb) fun σ H Q ⟨Hf, ρ, d, er, hd, k⟩ => ?_
  obtain ⟨x, h1, hd⟩ := Option.bind_eq_some_iff.mp hd
  obtain ⟨y, h2, hd⟩ := Option.bind_eq_some_iff.mp hd
  exact two er h1 h2 fun u v H' Hf' e r1 r2 => ⟨Hf', x, y, d, e.sub, r1, r2, hd, k.ext e⟩
theorem pf_neg (ha : PE X a (tF X.K fa)) : PE X (.UnaryOp .USub a pos) (tF X.K fun ρ => (fa ρ).bind fun x => (intOf x).map fun i => .int (-i)) := by
  refine PEimp (pe_un un_neg ha) fun σ H Q ⟨Hf, ρ, d, er, hd, k⟩ => ?_
  obtain ⟨x, h1, hd⟩ := Option.bind_eq_some_iff.mp hd
  obtain ⟨i, h2, rfl⟩ := Option.map_eq_some_iff.mp hd
  have h3 : x = .int i := by cases x <;> first | (cases h2; rfl) | cases h2
  subst h3
  refine ⟨Hf, ρ, _, er, h1, fun v H' Hf' e r => ?_⟩
  cases r
  exact ⟨i, rfl, (k.ext e).here e.sub (.int _)⟩
theorem pf_not (ha : PE X a (tF X.K fa)) : PE X (.UnaryOp .Not a pos) (tF X.K fun ρ => (boolOf (fa ρ)).map fun b => .bool (!b)) := by
  refine PEimp (pe_not ha) fun σ H Q ⟨Hf, ρ, d, er, hd, k⟩ => ?_
  obtain ⟨i, h2, rfl⟩ := Option.map_eq_some_iff.mp hd
  refine ⟨Hf, ρ, _, er, boolOf_some h2, fun v H' Hf' e r => ?_⟩
  cases r
  exact ⟨i, rfl, (k.ext e).here e.sub (.bl _)⟩
theorem ptt_not (ha : PT X a (tT X.K fa)) : PT X (.UnaryOp .Not a pos) (tT X.K fun ρ => (boolOf (fa ρ)).map fun b => .bool (!b)) := by
  refine PTimp (pt_not ha) fun σ H Q ⟨Hf, ρ, b, er, hb, k⟩ => ?_
  have h1 := boolOf_some hb
  obtain ⟨i, h2, h3⟩ := Option.map_eq_some_iff.mp h1
  cases h3
  exact ⟨Hf, ρ, i, er, h2, k⟩
/-- and, or -/
abbrev fAnd (fa fb : Rho → Option PyData) : Rho → Option PyData := fun ρ => (boolOf (fa ρ)).bind fun x => if x then fb ρ else some (.bool false)
abbrev fOr (fa fb : Rho → Option PyData) : Rho → Option PyData := fun ρ => (boolOf (fa ρ)).bind fun x => if x then some (.bool true) else fb ρ
theorem pf_and {rest : List Expr} (ha : PE X a (tF X.K fa)) (hb : PE X (.BoolOp .And (b :: rest) pos) (tF X.K fb)) : PE X (.BoolOp .And (a :: b :: rest) pos) (tF X.K (fAnd fa fb)) := by
  refine PEimp (pe_and ha hb) fun σ H Q ⟨Hf, ρ, d, er, hd, k⟩ => ?_
  obtain ⟨x, h1, hd⟩ := Option.bind_eq_some_iff.mp hd
  refine ⟨Hf, ρ, _, er, boolOf_some h1, fun v H' Hf' e r => ?_⟩
  cases r
  refine ⟨x, rfl, ?_⟩
  cases x with
  | true => exact ⟨Hf', ρ, d, er.ext e, hd, k.ext e⟩
  | false => cases hd; exact (k.ext e).here e.sub (.bl _)
theorem pf_or {rest : List Expr} (ha : PE X a (tF X.K fa)) (hb : PE X (.BoolOp .Or (b :: rest) pos) (tF X.K fb)) : PE X (.BoolOp .Or (a :: b :: rest) pos) (tF X.K (fOr fa fb)) := by
  refine PEimp (pe_or ha hb) fun σ H Q ⟨Hf, ρ, d, er, hd, k⟩ => ?_
  obtain ⟨x, h1, hd⟩ := Option.bind_eq_some_iff.mp hd
  refine ⟨Hf, ρ, _, er, boolOf_some h1, fun v H' Hf' e r => ?_⟩
  cases r
  refine ⟨x, rfl, ?_⟩
  cases x with
  | false => exact ⟨Hf', ρ, d, er.ext e, hd, k.ext e⟩
  | true => cases hd; exact (k.ext e).here e.sub (.bl _)
theorem pw_andF {rest : List Expr} (ha : PT X a (tT X.K fa)) (hb : PW X (.BoolOp .And (b :: rest) pos) (tT X.K fb)) : PW X (.BoolOp .And (a :: b :: rest) pos) (tT X.K (fAnd fa fb)) := by
  refine PWimp (pw_and ha hb) fun σ H Q ⟨Hf, ρ, d, er, hd, k⟩ => ?_
  obtain ⟨x, h1, hd⟩ := Option.bind_eq_some_iff.mp (boolOf_some hd)
  refine ⟨Hf, ρ, x, er, h1, fun H' Hf' e => ?_⟩
  cases x with
  | true =>
    rw [if_pos rfl]
    exact ⟨Hf', ρ, d, er.ext e, by rw [show fb ρ = some (.bool d) from hd]; rfl, fun H2 Hf2 e2 => k H2 Hf2 (e.trans e2)⟩
  | false =>
    rw [if_neg Bool.false_ne_true]
    cases hd
    exact k H' Hf' e
theorem pw_orF {rest : List Expr} (ha : PT X a (tT X.K fa)) (hb : PW X (.BoolOp .Or (b :: rest) pos) (tT X.K fb)) : PW X (.BoolOp .Or (a :: b :: rest) pos) (tT X.K (fOr fa fb)) := by
  refine PWimp (pw_or ha hb) fun σ H Q ⟨Hf, ρ, d, er, hd, k⟩ => ?_
  obtain ⟨x, h1, hd⟩ := Option.bind_eq_some_iff.mp (boolOf_some hd)
  refine ⟨Hf, ρ, x, er, h1, fun H' Hf' e => ?_⟩
  cases x with
  | false =>
    rw [if_neg Bool.false_ne_true]
    exact ⟨Hf', ρ, d, er.ext e, by rw [show fb ρ = some (.bool d) from hd]; rfl, fun H2 Hf2 e2 => k H2 Hf2 (e.trans e2)⟩
  | true =>
    rw [if_pos rfl]
    cases hd
    exact k H' Hf' e
/-- comparisons -/
abbrev fCmp (op : COp) (fa fb : Rho → Option PyData) : Rho → Option PyData := fun ρ => (fa ρ).bind fun x => (fb ρ).bind fun y => (cop op x y).map .bool
theorem cmp_in {op : COp} {σ : L2.St} {H : Hp} {Q : VK} (h : tF X.K (fCmp op fa fb) σ H Q) : tOp (rCop X.K op) (tBm X.K fa) (tBm X.K fb) σ H Q := by
  obtain ⟨Hf, ρ, d, er, hd, k⟩ := h
  obtain ⟨x, h1, hd⟩ := Option.bind_eq_some_iff.mp hd
  obtain ⟨y, h2, hd⟩ := Option.bind_eq_some_iff.mp hd
  obtain ⟨c, h3, rfl⟩ := Option.map_eq_some_iff.mp hd
  exact twoB er h1 h2 fun u v H' Hf' e r1 r2 => ⟨x, y, c, r1.rp e.sub, r2.rp e.sub, h3, (k.ext e).here e.sub (.bl _)⟩
theorem pf_cmp {op : COp} (hu : X.A.units + 65 < cLine) (ha : PE X a (tBm X.K fa)) (hb : PE X b (tBm X.K fb)) (hm : behindInMarks (copOp op) b = false) : PE X (.Compare a [copOp op] [b] pos) (tF X.K (fCmp op fa fb)) :=
  PEimp (pe_cmpR (cop_ok hu op) ha hb hm) fun σ H Q h => cmp_in h
theorem ptt_cmp {op : COp} (hu : X.A.units + 65 < cLine) (ha : PE X a (tBm X.K fa)) (hb : PE X b (tBm X.K fb)) (hm : behindInMarks (copOp op) b = false) : PT X (.Compare a [copOp op] [b] pos) (tT X.K (fCmp op fa fb)) := by
  refine PTimp (pt_cmpR (cop_ok hu op) ha hb hm) fun σ H Q ⟨Hf, ρ, d, er, hd, k⟩ => ?_
  refine cmp_in ⟨Hf, ρ, _, er, boolOf_some hd, fun v H' Hf' e r => ?_⟩
  cases r
  exact ⟨d, rfl, k H' Hf' e⟩
/-- is None -/
theorem rb_none {K : PySem.W.Frag} {H Hf : Hp} {v : V} {d : PyData} (h : RB K H Hf v d) : decide (v = .non) = isNone d := by
  rcases h with h | ⟨p, vs, ds, rfl, rfl, _⟩
  · cases h <;> rfl
  · rfl
abbrev fIsN (ng : Bool) (fa : Rho → Option PyData) : Rho → Option PyData := fun ρ => (fa ρ).map fun x => .bool (xor ng (isNone x))
theorem pf_isN {ng : Bool} {j : Nat} {pos' : Pos} (ha : PE X a (tBm X.K fa)) : PE X (.Compare a [if ng then .IsNot else .Is] [.Constant .none j pos'] pos) (tF X.K (fIsN ng fa)) := by
  cases ng with
  | false =>
    refine PEimp (pe_cmp (pc_isN ha) rfl) fun σ H Q ⟨Hf, ρ, d, er, hd, k⟩ => ?_
    obtain ⟨x, h1, rfl⟩ := Option.map_eq_some_iff.mp hd
    refine ⟨Hf, ρ, x, er, h1, fun v H' Hf' e r => ?_⟩
    show Q (.bl (decide (v = .non))) H'
    rw [rb_none r]
    have := (k.ext e).here e.sub (.bl _)
    rwa [Bool.false_xor] at this
  | true =>
    refine PEimp (pe_cmp (pc_notN ha) rfl) fun σ H Q ⟨Hf, ρ, d, er, hd, k⟩ => ?_
    obtain ⟨x, h1, rfl⟩ := Option.map_eq_some_iff.mp hd
    refine ⟨Hf, ρ, x, er, h1, fun v H' Hf' e r => ?_⟩
    show Q (.bl (!decide (v = .non))) H'
    rw [rb_none r]
    have := (k.ext e).here e.sub (.bl _)
    rwa [Bool.true_xor] at this
theorem ptt_isN {ng : Bool} {j : Nat} {pos' : Pos} (ha : PE X a (tBm X.K fa)) : PT X (.Compare a [if ng then .IsNot else .Is] [.Constant .none j pos'] pos) (tT X.K (fIsN ng fa)) := by
  cases ng with
  | false =>
    refine PTimp (pt_cmp (pc_isN ha) rfl) fun σ H Q ⟨Hf, ρ, d, er, hd, k⟩ => ?_
    obtain ⟨x, h1, h2⟩ := Option.map_eq_some_iff.mp (boolOf_some hd)
    cases h2
    refine ⟨Hf, ρ, x, er, h1, fun v H' Hf' e r => ⟨_, rfl, ?_⟩⟩
    rw [rb_none r]
    have := k H' Hf' e
    rwa [Bool.false_xor] at this
  | true =>
    refine PTimp (pt_cmp (pc_notN ha) rfl) fun σ H Q ⟨Hf, ρ, d, er, hd, k⟩ => ?_
    obtain ⟨x, h1, h2⟩ := Option.map_eq_some_iff.mp (boolOf_some hd)
    cases h2
    refine ⟨Hf, ρ, x, er, h1, fun v H' Hf' e r => ⟨_, rfl, ?_⟩⟩
    rw [rb_none r]
    have := k H' Hf' e
    rwa [Bool.true_xor] at this
/-- is True -/
abbrev fIsTr (ng : Bool) (fa : Rho → Option PyData) : Rho → Option PyData := fun ρ => (fa ρ).bind (isTrD ng)
theorem isTrD_some {ng : Bool} {x d : PyData} (h : isTrD ng x = some d) : ∃ b, x = .bool b ∧ d = .bool (xor ng b) := by
  cases x <;> first | (cases h; exact ⟨_, rfl, rfl⟩) | cases h
theorem isTr_in {ng : Bool} {σ : L2.St} {H : Hp} {Q : VK} (h : tF X.K (fIsTr ng fa) σ H Q) : tOp (if ng then rNotB else rIsB) (tF X.K fa) (tC (.bl true)) σ H Q := by
  obtain ⟨Hf, ρ, d, er, hd, k⟩ := h
  obtain ⟨x, h1, hd⟩ := Option.bind_eq_some_iff.mp hd
  obtain ⟨b, rfl, rfl⟩ := isTrD_some hd
  refine ⟨Hf, ρ, .bool b, er, h1, fun v H' Hf' e r => ?_⟩
  cases r
  have q := (k.ext e).here e.sub (.bl _)
  cases ng with
  | false => exact ⟨b, true, rfl, rfl, by cases b <;> exact q⟩
  | true => exact ⟨b, true, rfl, rfl, by cases b <;> exact q⟩
theorem isTr_op {ng : Bool} : OpR X (compareOp (if ng then .IsNot else .Is)) (if ng then rNotB else rIsB) := by
  cases ng with
  | false => exact op_isBl
  | true => exact op_notBl
theorem isTr_mk {ng : Bool} {j : Nat} {pos' : Pos} : behindInMarks (if ng then .IsNot else .Is) (.Constant (.bool true) j pos') = false := by
  cases ng <;> first | rfl | exact nobehind _ (by decide) (by decide)
theorem pf_isTr {ng : Bool} {j : Nat} {pos' : Pos} (ha : PE X a (tF X.K fa)) : PE X (.Compare a [if ng then .IsNot else .Is] [.Constant (.bool true) j pos'] pos) (tF X.K (fIsTr ng fa)) :=
  PEimp (pe_cmpR isTr_op ha pe_bl isTr_mk) fun σ H Q h => isTr_in h
theorem ptt_isTr {ng : Bool} {j : Nat} {pos' : Pos} (ha : PE X a (tF X.K fa)) : PT X (.Compare a [if ng then .IsNot else .Is] [.Constant (.bool true) j pos'] pos) (tT X.K (fIsTr ng fa)) := by
  refine PTimp (pt_cmpR isTr_op ha pe_bl isTr_mk) fun σ H Q ⟨Hf, ρ, d, er, hd, k⟩ => ?_
  refine isTr_in ⟨Hf, ρ, _, er, boolOf_some hd, fun v H' Hf' e r => ?_⟩
  cases r
  exact ⟨d, rfl, k H' Hf' e⟩
/-- a < b < c -/
abbrev fChain (o1 o2 : COp) (fa fb fc : Rho → Option PyData) : Rho → Option PyData := fun ρ => (fa ρ).bind fun x => (fb ρ).bind fun y => (cop o1 x y).bind fun k => if k then (fc ρ).bind fun z => (cop o2 y z).map .bool else some (.bool false)
theorem chain_in {o1 o2 : COp} {σ : L2.St} {H : Hp} {Q : VK} (h : tF X.K (fChain o1 o2 fa fb fc) σ H Q) : tChain (rCop X.K o1) (rCop X.K o2) (tF X.K fa) (tF X.K fb) (tF X.K fc) σ H Q := by
  obtain ⟨Hf, ρ, d, er, hd, k⟩ := h
  obtain ⟨x, h1, hd⟩ := Option.bind_eq_some_iff.mp hd
  obtain ⟨y, h2, hd⟩ := Option.bind_eq_some_iff.mp hd
  obtain ⟨c, h3, hd⟩ := Option.bind_eq_some_iff.mp hd
  refine two er h1 h2 fun u v H' Hf' e r1 r2 => ⟨x, y, c, r1.mono e.sub _ _, r2.mono e.sub _ _, h3, c, rfl, ?_⟩
  cases c with
  | false =>
    rw [if_neg Bool.false_ne_true]
    cases hd
    exact (k.ext e).here e.sub (.bl _)
  | true =>
    rw [if_pos rfl]
    obtain ⟨z, h4, hd⟩ := Option.bind_eq_some_iff.mp hd
    obtain ⟨c2, h5, rfl⟩ := Option.map_eq_some_iff.mp hd
    exact ⟨Hf', ρ, z, er.ext e, h4, fun w H2 Hf2 e2 r3 => ⟨y, z, c2, r2.mono (e2.fr.trans e2.sub) _ _, r3.mono e2.sub _ _, h5, ((k.ext e).ext e2).here e2.sub (.bl _)⟩⟩
/-- a if c else b -/
theorem pf_ife (hc : PT X c (tT X.K fc)) (ha : PE X a (tF X.K fa)) (hb : PE X b (tF X.K fb)) : PE X (.IfExp c a b pos) (tF X.K fun ρ => (boolOf (fc ρ)).bind fun x => if x then fa ρ else fb ρ) := by
  refine PEimp (pe_ifExp hc ha hb) fun σ H Q ⟨Hf, ρ, d, er, hd, k⟩ => ?_
  obtain ⟨x, h1, hd⟩ := Option.bind_eq_some_iff.mp hd
  refine ⟨Hf, ρ, x, er, h1, fun H' Hf' e => ?_⟩
  cases x with
  | true => exact ⟨Hf', ρ, d, er.ext e, hd, k.ext e⟩
  | false => exact ⟨Hf', ρ, d, er.ext e, hd, k.ext e⟩
/-- argument lists -/
theorem pa_nilF : PA X [] (tAs X.K fun _ => some []) := PAimp pa_nil fun σ H Q ⟨Hf, ρ, ds, er, hd, k⟩ => by
  cases hd
  exact k [] H Hf (Ext.refl er.sub) .nil
theorem pa_consF {es : List Expr} {fs : Rho → Option (List PyData)} (ha : PE X a (tF X.K fa)) (hr : PA X es (tAs X.K fs)) (hs : starEach (a :: es) X.env = (false, eval a X.env) :: starEach es X.env) :
    PA X (a :: es) (tAs X.K fun ρ => (fa ρ).bind fun d => (fs ρ).map (d :: ·)) := by
  refine PAimp (pa_cons ha hr hs) fun σ H Q ⟨Hf, ρ, ds, er, hd, k⟩ => ?_
  obtain ⟨x, h1, hd⟩ := Option.bind_eq_some_iff.mp hd
  obtain ⟨xs, h2, rfl⟩ := Option.map_eq_some_iff.mp hd
  exact ⟨Hf, ρ, x, er, h1, fun v H1 Hf1 e1 r1 => ⟨Hf1, ρ, xs, er.ext e1, h2, fun vs H2 Hf2 e2 r2 => k (v :: vs) H2 Hf2 (e1.trans e2) (.cons (r1.mono e2.fr _ _) r2)⟩⟩
theorem pf_tup {es : List Expr} {x1 : Nat} {fs : Rho → Option (List PyData)} (h : PA X es (tAs X.K fs)) : PE X (.Tuple es x1 pos) (tF X.K fun ρ => (fs ρ).bind fun ds => if ds.length ≤ 1000 then some (.tuple ds) else none) := by
  refine PEimp (pe_tup h) fun σ H Q ⟨Hf, ρ, d, er, hd, k⟩ => ?_
  obtain ⟨ds, h1, hd⟩ := Option.bind_eq_some_iff.mp hd
  by_cases c : ds.length ≤ 1000
  · rw [if_pos c] at hd
    cases hd
    refine ⟨Hf, ρ, ds, er, h1, fun vs H' Hf' e r => ?_⟩
    have z : vs.length ≤ sizeLine := by rw [r.length, sizeLine_eq]; omega
    exact ⟨z, (k.ext e).newT e.sub z r⟩
  · rw [if_neg c] at hd; cases hd
/-- a new list, not yet frozen -/
def tO (K : PySem.W.Frag) (f : Rho → Option PyData) : TE := fun σ H Q => ∃ Hf ρ ds, ER K σ H Hf ρ ∧ f ρ = some (.list ds) ∧
  ∀ p vs H' Hf', Ext H Hf H' Hf' → H p = none → H' p = some (.lst vs) → Hf' p = none → vs.length ≤ sizeLine → RpAll K Hf' vs ds → Q (.ref p) H'
/-- frozen at once -/
theorem tO_F {K : PySem.W.Frag} {f : Rho → Option PyData} {σ : L2.St} {H : Hp} {Q : VK} (hl : ∀ ρ d, f ρ = some d → ∃ ds, d = .list ds) (h : tF K f σ H Q) : tO K f σ H Q := by
  obtain ⟨Hf, ρ, d, er, hd, k⟩ := h
  obtain ⟨ds, rfl⟩ := hl ρ d hd
  refine ⟨Hf, ρ, ds, er, hd, fun p vs H' Hf' e hp hp' hn z r => ?_⟩
  exact k (.ref p) H' (upd Hf' p (.lst vs)) (e.frz hp hn hp') (.lst (.of upd_same) z (r.mono (same_upd hn _) _ _))
theorem po_lst {es : List Expr} {fs : Rho → Option (List PyData)} (h : PA X es (tAs X.K fs)) : PE X (.List es pos) (tO X.K fun ρ => (fs ρ).bind fun ds => if ds.length ≤ 1000 then some (.list ds) else none) := by
  refine PEimp (pe_lst h) fun σ H Q ⟨Hf, ρ, d0, er, hd, k⟩ => ?_
  obtain ⟨ds, h1, hd⟩ := Option.bind_eq_some_iff.mp hd
  by_cases c : ds.length ≤ 1000
  · rw [if_pos c] at hd
    obtain rfl : ds = d0 := by injection hd with hd; injection hd
    refine ⟨Hf, ρ, ds, er, h1, fun vs H' Hf' e r => ?_⟩
    have z : vs.length ≤ sizeLine := by rw [r.length, sizeLine_eq]; omega
    refine ⟨z, fun p hp => ?_⟩
    exact k p vs _ Hf' (e.trans (Ext.allocO e.sub hp _)) (e.free hp) upd_same (sub_none e.sub hp) z r
  · rw [if_neg c] at hd; cases hd
/-- items, slices -/
theorem pf_ix (ha : PE X a (tBm X.K fa)) (hb : PE X b (tF X.K fb)) (hs : PlainIx b) : PE X (.Subscript a b pos) (tF X.K fun ρ => (fa ρ).bind fun x => (fb ρ).bind fun y => ixD x y) := by
  refine PEimp (pe_ix ixD_ok ha hb hs) fun σ H Q ⟨Hf, ρ, d, er, hd, k⟩ => ?_
  obtain ⟨x, h1, hd⟩ := Option.bind_eq_some_iff.mp hd
  obtain ⟨y, h2, hd⟩ := Option.bind_eq_some_iff.mp hd
  exact twoBF er h1 h2 fun u v H' Hf' e r1 r2 => ⟨Hf', x, y, d, e.sub, r1, r2, hd, k.ext e⟩
def tPO (K : PySem.W.Frag) (f : Rho → Option (Option Int)) : TO := fun σ H Q => ∃ Hf ρ o, ER K σ H Hf ρ ∧ f ρ = some o ∧ ∀ H' Hf', Ext H Hf H' Hf' → Q o H'
theorem POimp {e : Option Expr} {t t' : TO} (h : PO X e t) (i : ∀ σ H Q, t' σ H Q → t σ H Q) : PO X e t' := ⟨fun pins s σ H Q I q => h.run pins s σ H Q I (i _ _ _ q)⟩
theorem po_noneF : PO X none (tPO X.K fun _ => some none) := POimp po_none fun σ H Q ⟨Hf, ρ, o, er, hd, k⟩ => by
  cases hd
  exact k H Hf (Ext.refl er.sub)
theorem po_someF (ha : PE X a (tF X.K fa)) : PO X (some a) (tPO X.K fun ρ => (fa ρ).bind fun l => (intOf l).map some) := POimp (po_some ha) fun σ H Q ⟨Hf, ρ, o, er, hd, k⟩ => by
  obtain ⟨x, h1, hd⟩ := Option.bind_eq_some_iff.mp hd
  obtain ⟨i, h2, rfl⟩ := Option.map_eq_some_iff.mp hd
  have h3 : x = .int i := by cases x <;> first | (cases h2; rfl) | cases h2
  subst h3
  refine ⟨Hf, ρ, _, er, h1, fun v H' Hf' e r => ?_⟩
  cases r
  exact ⟨i, rfl, k H' Hf' e⟩
theorem pf_slc {lo hi : Option Expr} {p2 : Pos} {fl fh : Rho → Option (Option Int)} (ha : PE X a (tBm X.K fa)) (hl : PO X lo (tPO X.K fl)) (hh : PO X hi (tPO X.K fh)) :
    PE X (.Subscript a (.Slice lo hi none p2) pos) (tF X.K fun ρ => (fa ρ).bind fun x => (fl ρ).bind fun l => (fh ρ).bind fun h => slD x l h) := by
  refine PEimp (pe_slice slD_ok ha hl hh) fun σ H Q ⟨Hf, ρ, d, er, hd, k⟩ => ?_
  obtain ⟨x, h1, hd⟩ := Option.bind_eq_some_iff.mp hd
  obtain ⟨l, h2, hd⟩ := Option.bind_eq_some_iff.mp hd
  obtain ⟨h, h3, hd⟩ := Option.bind_eq_some_iff.mp hd
  exact ⟨Hf, ρ, x, er, h1, fun v H1 Hf1 e1 r1 => ⟨Hf1, ρ, l, er.ext e1, h2, fun H2 Hf2 e2 => ⟨Hf2, ρ, h, (er.ext e1).ext e2, h3, fun H3 Hf3 e3 =>
    ⟨Hf3, x, d, e3.sub, (r1.ext e2).ext e3, hd, ((k.ext e1).ext e2).ext e3⟩⟩⟩⟩
theorem pf_rev {k : Nat} {p1 p2 p3 : Pos} (ha : PE X a (tBm X.K fa)) (hl : ∀ ρ d, fa ρ = some d → ∃ ds, d = .list ds) : PE X (.Subscript a (.Slice none none (some (.UnaryOp .USub (.Constant (.int 1) k p1) p2)) p3) pos) (tF X.K fun ρ => (fa ρ).bind revD) := by
  refine PEimp (pe_revL ha) fun σ H Q ⟨Hf, ρ, d, er, hd, k⟩ => ?_
  obtain ⟨x, h1, hd⟩ := Option.bind_eq_some_iff.mp hd
  obtain ⟨ds, rfl⟩ := hl ρ x h1
  cases hd
  refine ⟨Hf, ρ, _, er, h1, fun v H' Hf' e r => ?_⟩
  obtain ⟨p, vs, rfl, s1, z, rr⟩ := r.list e.sub
  exact ⟨p, vs, rfl, s1, (k.ext e).newL e.sub (by rw [List.length_reverse]; exact z) rr.reverse⟩
/-- a built-in of one argument -/
def tB1 (K : PySem.W.Frag) (f : Rho → Option PyData) : TA := fun σ H Q => ∃ Hf ρ d, ER K σ H Hf ρ ∧ f ρ = some d ∧ ∀ v H' Hf', Ext H Hf H' Hf' → RB K H' Hf' v d → Q [v] H'
theorem pa_one (ha : PE X a (tBm X.K fa)) (hs : starEach [a] X.env = (false, eval a X.env) :: starEach [] X.env) : PA X [a] (tB1 X.K fa) := by
  refine PAimp (pa_cons ha pa_nil hs) fun σ H Q ⟨Hf, ρ, ds, er, hd, k⟩ => ?_
  exact ⟨Hf, ρ, ds, er, hd, fun v H' Hf' e r => k v H' Hf' e r⟩
theorem blt_in {bl : Blt} {σ : L2.St} {H : Hp} {Q : VK} (h : tF X.K (fun ρ => (fa ρ).bind fun x => blt bl x) σ H Q) : tCB (rBlt X.K bl) (tB1 X.K fa) σ H Q := by
  obtain ⟨Hf, ρ, d, er, hd, k⟩ := h
  obtain ⟨x, h1, hd⟩ := Option.bind_eq_some_iff.mp hd
  exact ⟨Hf, ρ, x, er, h1, fun v H' Hf' e r => ⟨v, Hf', x, d, rfl, e.sub, r, hd, k.ext e⟩⟩
/-- isinstance -/
theorem pf_isI {t : Ty} {p q pos : Pos} (hg : Gl X "isinstance") (hm : X.mg "isinstance" = none) (hg2 : Gl X (tyStr t)) (hm2 : X.mg (tyStr t) = none) (ha : PE X a (tBm X.K fa)) (hs : ∀ es, starEach (a :: es) X.env = (false, eval a X.env) :: starEach es X.env) :
    PE X (.Call (.Name "isinstance" p) [a, .Name (tyStr t) q] [] pos) (tF X.K fun ρ => (fa ρ).map fun x => .bool (isTy t x)) := by
  have hty : PE X (.Name (tyStr t) q) (tC (.ty (tyName t))) := by
    cases t with
    | int => exact pe_bltn (v := .ty "int") hg2 hm2 PyProof.Rows.boot_int rfl (by decide) (by decide)
    | str => exact pe_bltn (v := .ty "str") hg2 hm2 PyProof.Rows.boot_str rfl (by decide) (by decide)
    | bool => exact pe_bltn (v := .ty "bool") hg2 hm2 PyProof.Rows.boot_bool rfl (by decide) (by decide)
    | tuple => exact pe_bltn (v := .ty "tuple") hg2 hm2 PyProof.Rows.boot_tuple rfl (by decide) (by decide)
    | list => exact pe_bltn (v := .ty "list") hg2 hm2 PyProof.Rows.boot_list rfl (by decide) (by decide)
  refine PEimp (pe_callB (isi_ok t) hg hm PyProof.Rows.boot_isinstance (pa_cons ha (pa_cons hty pa_nil) (hs _)) (by decide) (by decide) (hs _) rfl) fun σ H Q ⟨Hf, ρ, d, er, hd, k⟩ => ?_
  obtain ⟨y, h1, rfl⟩ := Option.map_eq_some_iff.mp hd
  exact ⟨Hf, ρ, y, er, h1, fun v H' Hf' e r => ⟨v, y, rfl, r.rp e.sub, (k.ext e).here e.sub (.bl _)⟩⟩
end
end Ev

/-! EvF: what is walked, comprehensions, calls. -/
namespace Ev
variable [Memo]
open PySem PySem.Spec PyProof.Rows L2

theorem Ext.keepNone {H Hf H' Hf' : Hp} {p : Addr} {o : HO} (e : Ext H Hf H' Hf') (hn : Hf p = none) (hp : H p = some o) : Hf' p = none := by
  cases q : Hf' p with
  | none => rfl
  | some u =>
    rcases e.new p u q with z | z
    · rw [hn] at z; cases z
    · rw [hp] at z; cases z
/-! ### what is walked -/
def GI (K : PySem.W.Frag) (J : It) (ds : List PyData) (Hf1 G : Hp) : Prop := ∀ (i : Nat) (H Hf : Hp), Same Hf1 Hf → Sub H Hf → HardS G H →
  (i = ds.length → J.stop i H) ∧ (∀ d, ds[i]? = some d → J.go i H ∧ ∀ x H', J.yld i H x H' → ∃ Hf', Ext H Hf H' Hf' ∧ Rp K Hf' x d)
def tI (K : PySem.W.Frag) (b : Bool) (f : Rho → Option (List PyData)) : TI := fun σ H R => ∃ Hf ρ ds, ER K σ H Hf ρ ∧ f ρ = some ds ∧
  ∀ J H' Hf', Ext H Hf H' Hf' → ds.length ≤ sizeLine → GI K J ds Hf' (if b then H' else Hf') → R J H'
section
variable {K : PySem.W.Frag} {ds es : List PyData} {vs ws : List V} {a b : Addr} {Hf1 G : Hp}
theorem gi_list (hs : SqL K G a vs) (r : RpAll K Hf1 vs ds) : GI K (Itl K a) ds Hf1 G := fun i H Hf s1 s2 s3 => by
  have hs' := s3.seq hs
  refine ⟨fun e => ⟨vs, hs', by rw [r.length, e]; exact Nat.le_refl _⟩, fun d hd => ?_⟩
  obtain ⟨v, h1, h2⟩ := r.get hd
  refine ⟨⟨vs, v, hs', h1⟩, fun x H' ⟨e, y⟩ => ?_⟩
  subst e
  have := y vs hs'
  rw [h1] at this
  cases this
  exact ⟨Hf, Ext.refl s2, h2.mono s1 _ _⟩
theorem gi_tup (hs : SqT K G a vs) (r : RpAll K Hf1 vs ds) : GI K (Itt K a) ds Hf1 G := fun i H Hf s1 s2 s3 => by
  have hs' := s3.sqT hs
  refine ⟨fun e => ⟨vs, hs', by rw [r.length, e]; exact Nat.le_refl _⟩, fun d hd => ?_⟩
  obtain ⟨v, h1, h2⟩ := r.get hd
  refine ⟨⟨vs, v, hs', h1⟩, fun x H' ⟨e, y⟩ => ?_⟩
  subst e
  have := y vs hs'
  rw [h1] at this
  cases this
  exact ⟨Hf, Ext.refl s2, h2.mono s1 _ _⟩
theorem gi_rng {lo : Int} {n : Nat} : GI K (Itr lo n) ((List.range n).map fun (i : Nat) => PyData.int (lo + (i : Int))) Hf1 G := fun i H Hf s1 s2 s3 => by
  refine ⟨fun e => by simp at e; exact Nat.le_of_eq e.symm, fun d hd => ?_⟩
  rw [List.getElem?_map] at hd
  obtain ⟨j, h1, rfl⟩ := Option.map_eq_some_iff.mp hd
  obtain ⟨h2, h3⟩ := List.getElem?_eq_some_iff.mp h1
  simp at h2 h3
  subst h3
  refine ⟨h2, fun x H' ⟨e, y⟩ => ?_⟩
  subst e y
  exact ⟨Hf, Ext.refl s2, .int _⟩
theorem zipD_get : ∀ {ds es : List PyData} {i : Nat} {d : PyData}, (zipD ds es)[i]? = some d → ∃ x y, ds[i]? = some x ∧ es[i]? = some y ∧ d = .tuple [x, y]
  | [], _, _, _, h => by simp [zipD] at h
  | _ :: _, [], _, _, h => by simp [zipD] at h
  | a :: r, b :: s, 0, d, h => ⟨a, b, rfl, rfl, (Option.some.inj (show some (PyData.tuple [a, b]) = some d by simpa [zipD] using h)).symm⟩
  | a :: r, b :: s, i + 1, d, h => by
    obtain ⟨x, y, h1, h2, h3⟩ := zipD_get (ds := r) (es := s) (i := i) (d := d) (by simpa [zipD] using h)
    exact ⟨x, y, by simpa using h1, by simpa using h2, h3⟩
theorem zipD_length : ∀ {ds es : List PyData}, ds.length = es.length → (zipD ds es).length = ds.length
  | [], _, _ => by simp [zipD]
  | _ :: _, [], h => by simp at h
  | _ :: r, _ :: s, h => by
    have := zipD_length (ds := r) (es := s) (by simpa using h)
    simp [zipD, this]
theorem pair_new {H Hf : Hp} {T : Addr} {x y : V} {d e : PyData} (s : Sub H Hf) (hT : H T = none) (r1 : Rp K Hf x d) (r2 : Rp K Hf y e) : ∃ Hf', Ext H Hf (upd H T (.tup [x, y])) Hf' ∧ Rp K Hf' (.ref T) (.tuple [d, e]) :=
  ⟨_, Ext.alloc s hT _, .tup (.of upd_same) (by show 2 ≤ sizeLine; decide) (.cons (r1.mono (same_upd (sub_none s hT) _) _ _) (.cons (r2.mono (same_upd (sub_none s hT) _) _ _) .nil))⟩
theorem gi_zipL (hl : ds.length = es.length) (hs : SqL K G a vs) (ht : SqL K G b ws) (r : RpAll K Hf1 vs ds) (q : RpAll K Hf1 ws es) : GI K (Itz K a b) (zipD ds es) Hf1 G := fun i H Hf s1 s2 s3 => by
  have hs' := s3.seq hs
  have ht' := s3.seq ht
  refine ⟨fun e => ⟨vs, ws, hs', ht', .inl (by rw [r.length, e, zipD_length hl]; exact Nat.le_refl _)⟩, fun d hd => ?_⟩
  obtain ⟨x, y, h1, h2, rfl⟩ := zipD_get hd
  obtain ⟨v, g1, g2⟩ := r.get h1
  obtain ⟨w, g3, g4⟩ := q.get h2
  refine ⟨⟨vs, ws, v, w, hs', ht', g1, g3⟩, fun z H' ⟨T, x', y', e1, hT, e2, k1, k2⟩ => ?_⟩
  subst e1 e2
  have z1 := k1 vs hs'
  have z2 := k2 ws ht'
  rw [g1] at z1; cases z1
  rw [g3] at z2; cases z2
  exact pair_new s2 hT (g2.mono s1 _ _) (g4.mono s1 _ _)
theorem gi_zipT (hl : ds.length = es.length) (hs : SqT K G a vs) (ht : SqT K G b ws) (r : RpAll K Hf1 vs ds) (q : RpAll K Hf1 ws es) : GI K (RZ.ItzT K a b) (zipD ds es) Hf1 G := fun i H Hf s1 s2 s3 => by
  have hs' := s3.sqT hs
  have ht' := s3.sqT ht
  refine ⟨fun e => ⟨vs, ws, hs', ht', .inl (by rw [r.length, e, zipD_length hl]; exact Nat.le_refl _)⟩, fun d hd => ?_⟩
  obtain ⟨x, y, h1, h2, rfl⟩ := zipD_get hd
  obtain ⟨v, g1, g2⟩ := r.get h1
  obtain ⟨w, g3, g4⟩ := q.get h2
  refine ⟨⟨vs, ws, v, w, hs', ht', g1, g3⟩, fun z H' ⟨T, x', y', e1, hT, e2, k1, k2⟩ => ?_⟩
  subst e1 e2
  have z1 := k1 vs hs'
  have z2 := k2 ws ht'
  rw [g1] at z1; cases z1
  rw [g3] at z2; cases z2
  exact pair_new s2 hT (g2.mono s1 _ _) (g4.mono s1 _ _)
end
section
variable {X : Cx} {tg e e2 : Expr} {fa fb : Rho → Option PyData}
theorem PIimp {wi wi' : TI} (h : PI X tg e wi) (i : ∀ σ H R, wi' σ H R → wi σ H R) : PI X tg e wi' := ⟨fun pins s σ H R I q => h.run pins s σ H R I (i _ _ _ q)⟩
/-- a list or a tuple -/
theorem pi_seq {tl : TE} (hl : PE X e tl) : PI X tg e (fun σ H R => tl σ H fun x H1 => ∃ a, x = .ref a ∧ (((∃ xs, SqL X.K H1 a xs) ∧ R (Itl X.K a) H1) ∨ ((∃ xs, SqT X.K H1 a xs) ∧ R (Itt X.K a) H1))) := by
  refine ⟨fun pins s σ H R I h => ?_⟩
  refine thn (hl.run pins s σ H _ I h) fun v s1 ⟨x, H1, I1, r1, q1⟩ => ?_
  obtain ⟨a, e, q⟩ := q1
  subst e
  cases r1
  rcases q with ⟨⟨xs, hq⟩, q⟩ | ⟨⟨xs, hq⟩, q⟩
  · obtain ⟨its, rv, p, hz⟩ := I1.list hq
    refine wpAny_pyIter_list p.isList ?_
    refine ⟨s1.heap.objs.size, [s1.heap.objs.size], _, _, H1, rfl, I1.kept (t' := s1.toks) fun b o e => Heap.get?_push_of_some _ e, turn_list a _, ⟨_, Heap.get?_push_size _ rfl, rfl, rfl⟩, fun b hb => ?_, q⟩
    have e : b = s1.heap.objs.size := by simpa using hb
    subst e
    exact I1.fpOk (Nat.le_refl _) (I1.hok.fresh (Nat.le_refl _))
  · obtain ⟨its, rv, p, hz⟩ := I1.tuple hq
    refine wpAny_pyIter_tuple (show s1.heap.IsTuple a its.toArray from p) ?_
    refine ⟨s1.heap.objs.size, [s1.heap.objs.size], _, _, H1, rfl, I1.kept (t' := s1.toks) fun b o e => Heap.get?_push_of_some _ e, turn_tuple a _, ⟨_, Heap.get?_push_size _ rfl, rfl, rfl⟩, fun b hb => ?_, q⟩
    have e : b = s1.heap.objs.size := by simpa using hb
    subst e
    exact I1.fpOk (Nat.le_refl _) (I1.hok.fresh (Nat.le_refl _))
theorem pi_seqB (ha : PE X e (tBm X.K fa)) : PI X tg e (tI X.K true fun ρ => (fa ρ).bind seqD) := by
  refine PIimp (pi_seq ha) fun σ H R ⟨Hf, ρ, ds, er, hd, k⟩ => ?_
  obtain ⟨d, h1, hd⟩ := Option.bind_eq_some_iff.mp hd
  refine ⟨Hf, ρ, d, er, h1, fun v H' Hf' e r => ?_⟩
  cases d with
  | list es =>
    cases hd
    obtain ⟨p, vs, rfl, s1, z, rr⟩ := r.list e.sub
    exact ⟨p, rfl, .inl ⟨⟨vs, s1⟩, k _ _ Hf' e (by rw [← rr.length]; exact z) (gi_list s1 rr)⟩⟩
  | tuple es =>
    cases hd
    obtain ⟨p, vs, rfl, s1, z, rr⟩ := r.tuple
    exact ⟨p, rfl, .inr ⟨⟨vs, sqT_mono e.sub.same s1⟩, k _ _ Hf' e (by rw [← rr.length]; exact z) (gi_tup (sqT_mono e.sub.same s1) rr)⟩⟩
  | _ => exact nomatch hd
theorem pi_seqF (ha : PE X e (tF X.K fa)) : PI X tg e (tI X.K false fun ρ => (fa ρ).bind seqD) := by
  refine PIimp (pi_seq ha) fun σ H R ⟨Hf, ρ, ds, er, hd, k⟩ => ?_
  obtain ⟨d, h1, hd⟩ := Option.bind_eq_some_iff.mp hd
  refine ⟨Hf, ρ, d, er, h1, fun v H' Hf' e r => ?_⟩
  cases r with
  | lst s1 z rr =>
    cases hd
    exact ⟨_, rfl, .inl ⟨⟨_, sqL_sub e.sub.same s1⟩, k _ _ Hf' e (by rw [← rr.length]; exact z) (gi_list s1 rr)⟩⟩
  | tup s1 z rr =>
    cases hd
    exact ⟨_, rfl, .inr ⟨⟨_, sqT_mono e.sub.same s1⟩, k _ _ Hf' e (by rw [← rr.length]; exact z) (gi_tup s1 rr)⟩⟩
  | _ => exact nomatch hd
theorem intOf_some {d : PyData} {i : Int} (h : intOf d = some i) : d = .int i := by cases d <;> first | (cases h; rfl) | cases h
theorem rngOk_some {n : Int} (h : rngOk n = true) : -(2 ^ 62) ≤ n ∧ n < 2 ^ 62 ∧ n ≤ 16777216 := by
  rw [rngOk_iff] at h
  omega
theorem pi_rng1 {p pos : Pos} {b : Bool} (hg : Gl X "range") (hm : X.mg "range" = none) (ha : PE X e (tF X.K fa)) (hs : ∀ es, starEach (e :: es) X.env = (false, eval e X.env) :: starEach es X.env) :
    PI X tg (.Call (.Name "range" p) [e] [] pos) (tI X.K b fun ρ => (fa ρ).bind fun x => (intOf x).bind fun n => if rngOk n then some (rgD n) else none) := by
  refine PIimp (pi_range1 hg hm (pa_cons ha pa_nil (hs _)) (hs _)) fun σ H R ⟨Hf, ρ, ds, er, hd, k⟩ => ?_
  obtain ⟨x, h1, hd⟩ := Option.bind_eq_some_iff.mp hd
  obtain ⟨n, h2, hd⟩ := Option.bind_eq_some_iff.mp hd
  obtain ⟨h3, rfl⟩ := ite_some hd
  obtain ⟨b1, b2, b3⟩ := rngOk_some h3
  have := intOf_some h2
  subst this
  refine ⟨Hf, ρ, _, er, h1, fun v H' Hf' e r => ?_⟩
  cases r
  refine ⟨n, rfl, b1, b2, k _ _ Hf' e ?_ ?_⟩
  · unfold rgD; rw [List.length_map, List.length_range, sizeLine_eq]; omega
  · have e2 : rgD n = (List.range n.toNat).map fun (i : Nat) => PyData.int ((0 : Int) + (i : Int)) := by
      unfold rgD
      exact List.map_congr_left fun i _ => by rw [Int.zero_add]
    rw [e2]
    exact gi_rng
theorem pi_rng2 {p pos : Pos} {b : Bool} (hg : Gl X "range") (hm : X.mg "range" = none) (ha : PE X e (tF X.K fa)) (hb : PE X e2 (tF X.K fb)) (hs : ∀ es, starEach (e :: es) X.env = (false, eval e X.env) :: starEach es X.env) (hs2 : ∀ es, starEach (e2 :: es) X.env = (false, eval e2 X.env) :: starEach es X.env) :
    PI X tg (.Call (.Name "range" p) [e, e2] [] pos) (tI X.K b fun ρ => (fa ρ).bind fun x => (fb ρ).bind fun y => (intOf x).bind fun n => (intOf y).bind fun m => if rngOk n && rngOk m && rngOk (m - n) then some (rg2 n m) else none) := by
  refine PIimp (pi_range2 hg hm (pa_cons ha (pa_cons hb pa_nil (hs2 _)) (hs _)) (by rw [hs, hs2]; rfl) (by rw [hs2]; rfl)) fun σ H R ⟨Hf, ρ, ds, er, hd, k⟩ => ?_
  obtain ⟨x, h1, hd⟩ := Option.bind_eq_some_iff.mp hd
  obtain ⟨y, h1', hd⟩ := Option.bind_eq_some_iff.mp hd
  obtain ⟨n, h2, hd⟩ := Option.bind_eq_some_iff.mp hd
  obtain ⟨m, h2', hd⟩ := Option.bind_eq_some_iff.mp hd
  obtain ⟨h3, rfl⟩ := ite_some hd
  simp only [Bool.and_eq_true] at h3
  obtain ⟨b1, b2, b3⟩ := rngOk_some h3.1.1
  obtain ⟨c1, c2, c3⟩ := rngOk_some h3.1.2
  obtain ⟨d1, d2, d3⟩ := rngOk_some h3.2
  have := intOf_some h2
  subst this
  have := intOf_some h2'
  subst this
  refine two er h1 h1' fun v w H' Hf' e r1 r2 => ?_
  cases r1
  cases r2
  refine ⟨n, m, rfl, ⟨b1, b2, c1, c2⟩, k _ _ Hf' e ?_ ?_⟩
  · unfold rg2; rw [List.length_map, List.length_range, sizeLine_eq]; omega
  · exact gi_rng
theorem pi_zipF {p pos tpos : Pos} {elts : List Expr} {kk : Nat} {b : Bool} (hg : Gl X "zip") (hm : X.mg "zip" = none) (ha : PE X e (tF X.K fa)) (hb : PE X e2 (tF X.K fb)) (hs : ∀ es, starEach (e :: es) X.env = (false, eval e X.env) :: starEach es X.env) (hs2 : ∀ es, starEach (e2 :: es) X.env = (false, eval e2 X.env) :: starEach es X.env) :
    PI X (.Tuple elts kk tpos) (.Call (.Name "zip" p) [e, e2] [] pos) (tI X.K b fun ρ => (fa ρ).bind fun x => (fb ρ).bind fun y => zipDD x y) := by
  refine PIimp (RZ.pi_zipA hg hm (pa_cons ha (pa_cons hb pa_nil (hs2 _)) (hs _)) (hs _) (by rw [hs2]; rfl)) fun σ H R ⟨Hf, ρ, ds, er, hd, k⟩ => ?_
  obtain ⟨x, h1, hd⟩ := Option.bind_eq_some_iff.mp hd
  obtain ⟨y, h1', hd⟩ := Option.bind_eq_some_iff.mp hd
  refine two er h1 h1' fun v w H' Hf' e r1 r2 => ?_
  cases r1 with
  | @tup a vs as s1 z1 q1 =>
    cases r2 with
    | @tup c us bs s2 z2 q2 =>
      have hd' : (if as.length = bs.length then some (zipD as bs) else none) = some ds := hd
      by_cases cc : as.length = bs.length
      · rw [if_pos cc] at hd'
        cases hd'
        have G : GI X.K (RZ.ItzT X.K a c) (zipD as bs) Hf' (if b then H' else Hf') := by
          cases b with
          | true => exact gi_zipT cc (sqT_mono e.sub.same s1) (sqT_mono e.sub.same s2) q1 q2
          | false => exact gi_zipT cc s1 s2 q1 q2
        exact ⟨a, c, vs, us, rfl, .inr ⟨sqT_mono e.sub.same s1, sqT_mono e.sub.same s2, k _ _ Hf' e (by rw [zipD_length cc, ← q1.length]; exact z1) G⟩⟩
      · rw [if_neg cc] at hd'; cases hd'
    | _ => exact nomatch hd
  | @lst a vs as s1 z1 q1 =>
    cases r2 with
    | @lst c us bs s2 z2 q2 =>
      have hd' : (if as.length = bs.length then some (zipD as bs) else none) = some ds := hd
      by_cases cc : as.length = bs.length
      · rw [if_pos cc] at hd'
        cases hd'
        have G : GI X.K (Itz X.K a c) (zipD as bs) Hf' (if b then H' else Hf') := by
          cases b with
          | true => exact gi_zipL cc (sqL_sub e.sub.same s1) (sqL_sub e.sub.same s2) q1 q2
          | false => exact gi_zipL cc s1 s2 q1 q2
        exact ⟨a, c, vs, us, rfl, .inl ⟨sqL_sub e.sub.same s1, sqL_sub e.sub.same s2, k _ _ Hf' e (by rw [zipD_length cc, ← q1.length]; exact z1) G⟩⟩
      · rw [if_neg cc] at hd'; cases hd'
    | _ => exact nomatch hd
  | _ => cases r2 <;> exact nomatch hd
end

/-! ### targets -/
def gAll : List Nat → TGs
  | [] => gNil
  | i :: is => gCons (gName i) (gAll is)
def tgG (K : PySem.W.Frag) : Tg → TG
  | .nm i => gName i
  | .tp is => gTup K is.length (gAll is)
def tgIds : Tg → List Nat
  | .nm i => [i]
  | .tp is => is
/-- the same but at some places -/
def Upto (l : List Nat) (σ σ' : L2.St) : Prop := σ'.length = σ.length ∧ ∀ j, j ∉ l → σ'[j]? = σ[j]?
section
variable {K : PySem.W.Frag} {H Hf : Hp}
/-- stores keep it -/
def Sets (K : PySem.W.Frag) (Hf : Hp) (P : L2.St → Rho → Prop) : Prop := ∀ (σ : L2.St) ρ i v d, Rp K Hf v d → P σ ρ → P (σ.set i (some v)) (ρ.set i (.val d))
theorem gAll_ok {P : L2.St → Rho → Prop} (hP : Sets K Hf P) : ∀ {is : List Nat} {vs : List V} {ds : List PyData} {σ : L2.St} {ρ : Rho} {Q : L2.St → Hp → Prop}, RpAll K Hf vs ds → is.length = ds.length → P σ ρ →
    (∀ σ', P σ' (setAll is ds ρ) → Upto is σ σ' → Q σ' H) → gAll is vs σ H Q
  | [], vs, ds, σ, ρ, Q, r, hl, p, k => by
    have : ds = [] := List.eq_nil_of_length_eq_zero hl.symm
    subst this
    cases r
    exact ⟨rfl, k σ p ⟨rfl, fun _ _ => rfl⟩⟩
  | i :: is, vs, ds, σ, ρ, Q, r, hl, p, k => by
    cases r with
    | nil => simp at hl
    | @cons v vs d ds r1 r2 =>
      refine ⟨v, vs, rfl, ?_⟩
      show gAll is vs (σ.set i (some v)) H Q
      refine gAll_ok hP r2 (by simpa using hl) (hP σ ρ i v d r1 p) fun σ' p' u => k σ' p' ⟨by rw [u.1, List.length_set], fun j hj => ?_⟩
      simp only [List.mem_cons, not_or] at hj
      rw [u.2 j hj.2, List.getElem?_set_ne (Ne.symm hj.1)]
theorem tgG_ok {P : L2.St → Rho → Prop} (hP : Sets K Hf P) (sub : Sub H Hf) {tg : Tg} {v : V} {d : PyData} {σ : L2.St} {ρ ρ' : Rho} {Q : L2.St → Hp → Prop} (r : Rp K Hf v d) (p : P σ ρ) (h : asg tg d ρ = some ρ')
    (k : ∀ σ', P σ' ρ' → Upto (tgIds tg) σ σ' → Q σ' H) : tgG K tg v σ H Q := by
  cases tg with
  | nm i =>
    cases h
    refine k _ (hP _ _ _ _ _ r p) ⟨List.length_set, fun j hj => ?_⟩
    simp only [tgIds, List.mem_singleton] at hj
    rw [List.getElem?_set_ne (Ne.symm hj)]
  | tp is =>
    cases r with
    | @tup a vs ds s1 z rr =>
      have h' : (if is.length = ds.length then some (setAll is ds ρ) else none) = some ρ' := h
      by_cases c : is.length = ds.length
      · rw [if_pos c] at h'
        cases h'
        exact ⟨a, vs, rfl, sqT_mono sub s1, by rw [rr.length, c], gAll_ok hP rr c p k⟩
      · rw [if_neg c] at h'; cases h'
    | _ => exact nomatch h
end
theorem sets_er {K : PySem.W.Frag} {H Hf : Hp} : Sets K Hf fun σ ρ => ER K σ H Hf ρ := fun _ _ _ _ _ hv r => r.set hv
theorem sets_sr {K : PySem.W.Frag} {u : V} {H0 Hf0 H Hf : Hp} : Sets K Hf fun σ ρ => SR K u H0 Hf0 σ H Hf ρ := fun _ _ _ _ _ hv r => r.set hv
theorem wipe_in {σ : L2.St} {i : Nat} : ∀ {vs : List Nat}, i ∈ vs → i < σ.length → (L2.wipe σ vs)[i]? = some none
  | v :: vs, h, hl => by
    show ((L2.wipe σ vs).set v none)[i]? = some none
    by_cases e : v = i
    · subst e
      rw [List.getElem?_set_self (by rw [wipe_length]; exact hl)]
    · rw [List.getElem?_set_ne e]
      exact wipe_in ((List.mem_cons.mp h).resolve_left (Ne.symm e)) hl
theorem wipe_upto {σ σ' : L2.St} {l vs : List Nat} (hs : ∀ i ∈ l, i ∈ vs) (u : Upto l (L2.wipe σ vs) σ') : L2.wipe σ' vs = L2.wipe σ vs := by
  have hl : σ'.length = σ.length := by rw [u.1, wipe_length]
  apply List.ext_getElem?
  intro j
  by_cases hj : j ∈ vs
  · by_cases hjl : j < σ.length
    · rw [wipe_in hj hjl, wipe_in hj (by omega)]
    · rw [List.getElem?_eq_none (by rw [wipe_length]; omega), List.getElem?_eq_none (by rw [wipe_length]; omega)]
  · rw [wipe_out hj, wipe_out hj, u.2 j fun z => hj (hs j z), wipe_out hj]

/-! ### comprehensions -/
theorem compR_cons {tg : Tg} {c : Rho → Option Bool} {e : Rho → Option PyData} {ρ : Rho} {d : PyData} {ds out : List PyData} (h : compR tg c e ρ (d :: ds) = some out) :
    ∃ ρ1 b, asg tg d ρ = some ρ1 ∧ c ρ1 = some b ∧ ((b = true ∧ ∃ y r, e ρ1 = some y ∧ compR tg c e ρ ds = some r ∧ out = y :: r) ∨ (b = false ∧ compR tg c e ρ ds = some out)) := by
  have h' : ((asg tg d ρ).bind fun ρ1 => (c ρ1).bind fun b => if b then (e ρ1).bind fun y => (compR tg c e ρ ds).map (y :: ·) else compR tg c e ρ ds) = some out := h
  obtain ⟨ρ1, h1, h'⟩ := Option.bind_eq_some_iff.mp h'
  obtain ⟨b, h2, h'⟩ := Option.bind_eq_some_iff.mp h'
  refine ⟨ρ1, b, h1, h2, ?_⟩
  cases b with
  | true =>
    rw [if_pos rfl] at h'
    obtain ⟨y, h3, h'⟩ := Option.bind_eq_some_iff.mp h'
    obtain ⟨r, h4, rfl⟩ := Option.map_eq_some_iff.mp h'
    exact .inl ⟨rfl, y, r, h3, h4, rfl⟩
  | false =>
    rw [if_neg Bool.false_ne_true] at h'
    exact .inr ⟨rfl, h'⟩
theorem lc_in {K : PySem.W.Frag} {fi : Rho → Option (List PyData)} {tg : Tg} {fc fe : Rho → Option PyData} {ws : List Nat} {σ : L2.St} {H : Hp} {Q : VK} (hw : ∀ i ∈ tgIds tg, i ∈ ws)
    (h : tO K (fun ρ => (fi ρ).bind fun ds => (compR tg (fun ρ1 => boolOf (fc ρ1)) fe (wipeR ρ ws) ds).map .list) σ H Q) : tLc (tI K true fi) (tgG K tg) (tT K fc) (tF K fe) ws σ H Q := by
  obtain ⟨Hf, ρ, out, er, hd, k⟩ := h
  obtain ⟨ds, h1, hd⟩ := Option.bind_eq_some_iff.mp hd
  obtain ⟨out', h2, h3⟩ := Option.map_eq_some_iff.mp hd
  cases h3
  refine ⟨Hf, ρ, ds, er, h1, fun J H1 Hf1 e1 hz gi D hD => ?_⟩
  have gi : GI K J ds Hf1 H1 := gi
  have er1 := er.ext e1
  let Pv : Nat → Hp → Prop := fun i H2 => ∃ Hf2 vs acc r, Ext H1 Hf1 H2 Hf2 ∧ H2 D = some (.lst vs) ∧ Hf2 D = none ∧ vs.length ≤ i ∧ RpAll K Hf2 vs acc ∧ compR tg (fun ρ1 => boolOf (fc ρ1)) fe (wipeR ρ ws) (ds.drop i) = some r ∧ out = acc ++ r
  refine ⟨fun i m H2 => m = ds.length - i ∧ i ≤ ds.length ∧ Pv i H2, ⟨ds.length, by simp, Nat.zero_le _, Hf1, [], [], out, Ext.allocO e1.sub hD _, upd_same, sub_none e1.sub hD, Nat.le_refl _, .nil, by simpa using h2, by simp⟩, ?_⟩
  rintro i m H2 ⟨rfl, hi, Hf2, vs, acc, r, e2, hD2, hn2, hl2, rr, hr, ho⟩
  obtain ⟨g1, g2⟩ := gi i H2 Hf2 e2.fr e2.sub e2.hs
  by_cases hlt : i < ds.length
  · refine .inr ?_
    have hx : ds[i]? = some ds[i] := List.getElem?_eq_getElem hlt
    obtain ⟨go, yld⟩ := g2 _ hx
    rw [List.drop_eq_getElem_cons hlt] at hr
    obtain ⟨ρ1, b, q1, q2, q3⟩ := compR_cons hr
    refine ⟨go, Pv (i + 1), fun H' p' => ⟨ds.length - (i + 1), by omega, rfl, hlt, p'⟩, fun x H3 y3 => ?_⟩
    obtain ⟨Hf3, e3, rx⟩ := yld x H3 y3
    have er3 : ER K (L2.wipe σ ws) H3 Hf3 (wipeR ρ ws) := ((er1.ext e2).ext e3).wipe ws
    refine tgG_ok (P := fun σ ρ => ER K σ H3 Hf3 ρ) sets_er e3.sub rx er3 q1 fun σ4 er4 u4 => ⟨wipe_upto hw u4, Hf3, ρ1, b, er4, q2, fun H5 Hf5 e5 => ?_⟩
    have hD3 := e3.lst hD2
    have hn3 := e3.keepNone hn2 hD2
    have hD5 := e5.lst hD3
    have hn5 := e5.keepNone hn3 hD3
    rcases q3 with ⟨rfl, y, r', q4, q5, rfl⟩ | ⟨rfl, q4⟩
    · refine iteT ?_
      refine ⟨Hf5, ρ1, y, er4.ext e5, q4, fun v H6 Hf6 e6 rv => ?_⟩
      have hD6 := e6.lst hD5
      have hn6 := e6.keepNone hn5 hD5
      refine ⟨vs, hD6, by omega, Hf6, vs ++ [v], acc ++ [y], r', Ext.poke _ ((e2.trans e3).trans (e5.trans e6)) hD hn6 hD6, upd_same, hn6, ?_, ?_, q5, by rw [ho, List.append_assoc]; rfl⟩
      · rw [List.length_append, List.length_singleton]; omega
      · exact ((rr.mono (e3.trans (e5.trans e6)).fr _ _)).append (.cons rv .nil)
    · refine iteF ?_
      exact ⟨Hf5, vs, acc, r, (e2.trans e3).trans e5, hD5, hn5, by omega, rr.mono (e3.trans e5).fr _ _, q4, ho⟩
  · have ei : i = ds.length := by omega
    subst ei
    rw [List.drop_length] at hr
    cases hr
    rw [List.append_nil] at ho
    subst ho
    exact .inl ⟨g1 rfl, k D vs H2 Hf2 (e1.trans e2) (e1.free hD) hD2 hn2 (by omega) rr⟩

/-! ### calls -/
/-- what a pure def promises -/
def spD (K : PySem.W.Frag) (f : List PyData → Option PyData) : Sp := fun vs H Q _ => ∃ Hf ds d, Sub H Hf ∧ RpAll K Hf vs ds ∧ f ds = some d ∧ KF K H Hf d Q
theorem call_in {K : PySem.W.Frag} {f : List PyData → Option PyData} {fs : Rho → Option (List PyData)} {E : XK} {σ : L2.St} {H : Hp} {Q : VK} (h : tF K (fun ρ => (fs ρ).bind f) σ H Q) : tCall (spD K f) [] E (tAs K fs) σ H Q := by
  obtain ⟨Hf, ρ, d, er, hd, k⟩ := h
  obtain ⟨ds, h1, hd⟩ := Option.bind_eq_some_iff.mp hd
  refine ⟨Hf, ρ, ds, er, h1, fun vs H' Hf' e r => ?_⟩
  show spD K f (vs ++ []) H' Q E
  rw [List.append_nil]
  exact ⟨Hf', ds, d, e.sub, r, hd, k.ext e⟩
end Ev

/-! EvK: enumerate over a list or a tuple, as a walk of the small language. -/
namespace Ev
variable [Memo]
open PySem PySem.Spec PyProof.Rows L2
open Sem (wp)
open PySem.Calls

theorem meets_enumT (t : Addr) (items : Array Value) :
    Meets (Builtin.«enumerate.__new__» ⟨[.type "enumerate", .ref t], []⟩) (fun _ R s => s.heap.IsTuple t items ∧
      R (.ok (.ret (.ref (s.heap.push { cls := .type "tuple_iterator", data := .fields #[.ref t, .int 0 0] }).objs.size)))
        { s with heap := (s.heap.push { cls := .type "tuple_iterator", data := .fields #[.ref t, .int 0 0] }).push { cls := .type "enumerate", data := .fields #[.none, .bool false, .ref s.heap.objs.size, rawInt 0, .none, .none] } }) :=
  .of_wp fun prog w A R s h => by
    obtain ⟨hp, g, d, tk, os⟩ := s; obtain ⟨h1, h⟩ := h
    have hsub := sub_enumerate
    have q1 : ∀ {A' : Around} {E : Value → Shared → Prop} {Q : Value → Shared → Prop}, Q (.ref hp.objs.size) ⟨hp.push { cls := .type "tuple_iterator", data := .fields #[.ref t, .int 0 0] }, g, d, tk, os⟩ → wpAny (model prog w) A' (pyIter (.ref t)) Q E ⟨hp, g, d, tk, os⟩ :=
      fun q => (begins_tuple t items).iter prog w _ _ ⟨hp, g, d, tk, os⟩ _ h1 q
    wp_walk using q1
    refine wpAny_stack_any fun st => wpAny_pure ?_
    split
    · rename_i c _ _ _ _ _
      cases (c == Value.type "enumerate")
      · wp_walk using q1
        exact ⟨_, rfl, h⟩
      · wp_walk using q1
        exact ⟨_, rfl, h⟩
    · wp_walk using q1
      exact ⟨_, rfl, h⟩
theorem call_enumT {prog : Program} {w : World} {A : Around} {E : Value → Shared → Prop} {s : Shared} {t : Addr} {items : Array Value} {Q : Value → Shared → Prop} (hT : s.heap.IsTuple t items)
    (h : ∀ h', IsEnum h' (s.heap.objs.size + 1) s.heap.objs.size 0 .none → h'.IsTupleIter s.heap.objs.size t 0 → h'.objs.size = s.heap.objs.size + 2 →
      (∀ b o, s.heap.get? b = some o → h'.get? b = some o) → Q (.ref (s.heap.objs.size + 1)) { s with heap := h' }) :
    wpAny (model prog w) A (call (.type "enumerate") [.ref t]) Q E s := by
  refine callType_new F.called_enumerate (by decide) (F.typeCall_enumerate_1 _) (F.newCall_enumerate_1 _) (fun obj => F.args_object_init_2 obj _) F.entry_enumerate_new
    (meets_enumT t items) ⟨hT, ?_⟩
  have hz : (s.heap.push { cls := .type "tuple_iterator", data := .fields #[.ref t, .int 0 0] }).objs.size = s.heap.objs.size + 1 := Heap.size_push ..
  show _ ∧ _
  rw [hz]
  have he : IsEnum ((s.heap.push { cls := .type "tuple_iterator", data := .fields #[.ref t, .int 0 0] }).push { cls := .type "enumerate", data := .fields #[.none, .bool false, .ref s.heap.objs.size, rawInt 0, .none, .none] }) (s.heap.objs.size + 1) s.heap.objs.size 0 .none := by
    have := Heap.get?_push_size (s.heap.push { cls := .type "tuple_iterator", data := .fields #[.ref t, .int 0 0] }) (o := { cls := .type "enumerate", data := .fields #[.none, .bool false, .ref s.heap.objs.size, rawInt 0, .none, .none] }) rfl
    rw [hz] at this; exact this
  refine ⟨⟨_, he, rfl⟩, h _ he ⟨_, Heap.get?_push_of_some _ (Heap.get?_push_size _ rfl), rfl, rfl⟩ (by rw [Heap.size_push, hz]) fun b o x => Heap.get?_push_of_some _ (Heap.get?_push_of_some _ x)⟩

theorem wpAny_pyNext_enum_endD' {prog : Program} {w : World} {A : Around} {E : Value → Shared → Prop} {s : Shared} {e it t : Addr} {i : Nat} {items : Array Value} {c : Int} {old : Value} {Q : Option Value → Shared → Prop}
    (hh : A.handled = none) (he : IsEnum s.heap e it c old) (hit : s.heap.IsTupleIter it t i) (ht : s.heap.IsTuple t items) (hx : items[i]? = none)
    (hQ : ∀ h', Heap.ExtBut it s.heap h' → Q none { s with heap := h' }) : wpAny (model prog w) A (pyNext (.ref e)) Q E s := by
  have hT : s.TypeIs (.ref e) "enumerate" := ⟨_, he, rfl⟩
  unfold pyNext
  refine wpAny_bind (wpAny_attempt (wpAny_callSpecial?_slot (name := Str.ofString "__next__") hT F.slot_enumerate_next
    (wpAny_call_entry F.slot_enumerate_next hT F.entry_enumerate_next ?_ (F.args_enumerate_next_1 _))))
  show wpAny _ _ (field (.ref e) 2 >>= _) _ _ _
  refine wpAny_bind (wpAny_field he rfl (x := .ref it) rfl ?_)
  refine wpAny_bind (wpAny_nextOf_tuple_end (A := A.in1) (by first | exact hh | simpa using hh) hit ht hx fun h' x he' hx' => ?_)
  obtain ⟨o, ho, hc⟩ := hx'
  refine wpAny_bind (wpAny_isInstance (T := "StopIteration") (b := true) ⟨o, ho, hc⟩ isSubtype_stop ?_)
  exact wpAny_pure (hQ _ he')

/-- the tuple at a, each item in a new pair with its place -/
def IteT (K : PySem.W.Frag) (a : Addr) : It :=
  ⟨fun i H => ∃ (xs : List V) (x : V), SqT K H a xs ∧ xs[i]? = some x, fun i H v H' => ∃ T x, v = .ref T ∧ H T = none ∧ H' = upd H T (.tup [.int (i : Nat), x]) ∧ ∀ xs, SqT K H a xs → xs[i]? = some x, fun i H => ∃ xs : List V, SqT K H a xs ∧ xs.length ≤ i⟩
theorem turn_enumT {P : Program} {w : World} {K : PySem.W.Frag} {elts : List Expr} {kk : Nat} {tpos : Pos} (a e it : Addr) :
    Turn P w K (.Tuple elts kk tpos) (IteT K a) [e, it] e (fun i h => (∃ old, IsEnum h e it ((i : Nat) : Int) old) ∧ h.IsTupleIter it a i ∧ e ≠ it ∧ a ≠ it ∧ a ≠ e) where
  mem := by simp
  obj := fun i h st b hb => by
    obtain ⟨⟨old, he⟩, ⟨o, ho, hc, hd⟩, _⟩ := st
    have e' : b = e ∨ b = it := by simpa using hb
    rcases e' with z | z
    · rw [z]; exact ⟨_, he, fun v q => nomatch q⟩
    · rw [z]; exact ⟨o, ho, fun v q => by rw [hd] at q; cases q⟩
  keep := fun i h h' st k => let ⟨⟨old, he⟩, hi, hne, ha⟩ := st; ⟨⟨old, k e (by simp) _ he⟩, hi.at fun o q => k it (by simp) o q, hne, ha⟩
  item := by
    intro X hP hw hK hc i pins s σ H E I hf st hg
    subst hP hw hK
    obtain ⟨⟨old, he⟩, hit, hne, ha, ha2⟩ := st
    obtain ⟨xs, x, hq, hx⟩ := hg
    obtain ⟨its, rv, p, hz⟩ := I.tuple hq
    obtain ⟨u, hu, ru⟩ := rv.get hx
    have hel : e < s.heap.objs.size := Heap.lt_size he
    have hil : it < s.heap.objs.size := by obtain ⟨_, q, _⟩ := hit; exact Heap.lt_size q
    have hu' : its.toArray[i]? = some u := by simpa using hu
    have hlt : i < its.toArray.size := by
      rcases Nat.lt_or_ge i its.toArray.size with z | z
      · exact z
      · rw [Array.getElem?_eq_none z] at hu'; cases hu'
    refine wpAny_pyNext_enum_itemD (Draws.tuple (A := X.A.in1) (I.ok.hd hc) it a ha its.toArray) he ⟨hit, p⟩ hlt hne (by simp; exact ⟨hne, Ne.symm ha2⟩) fun x' h' tk hx' ho hit' hT hsz hk => ?_
    have hx2 : x' = u := by rw [hu'] at hx'; exact (Option.some.inj hx').symm
    subst hx2
    refine ⟨_, rfl, wpAny_letOwnedTupleGo_enum (s := { s with heap := h', toks := tk + 1 }) ho fun h'' he' sb => ?_⟩
    have hT2 : h''.get? s.heap.objs.size = some { cls := .type "tuple", data := .seq #[.int i tk, x'] } := (sb.2 _ (Nat.ne_of_gt hel)).trans hT
    have new : ObjOk X.prog X.w (upd H s.heap.objs.size (.tup [.int (i : Nat), x])) h'' s.heap.objs.size (.tup [.int (i : Nat), x]) :=
      ⟨by show 2 ≤ sizeLine; decide, [.int i tk, x'], .cons ⟨_, rfl⟩ (.cons ru .nil), ⟨_, hT2, rfl, _, rfl⟩⟩
    have I1 : Inv X pins σ (upd H s.heap.objs.size (.tup [.int (i : Nat), x])) { s with heap := h'', toks := tk + 1 } :=
      I.turnedNew (ch := [e, it]) (fun b ob hb q => (sb.2 b (fun z => hb (by simp [z]))).trans (hk b ob (fun z => hb (by simp [z])) (fun z => hb (by simp [z])) q)) hf (Nat.le_refl _) new
    refine ⟨.ref s.heap.objs.size, _, I1, rfl, ⟨_, x, rfl, I.hok.fresh (Nat.le_refl _), rfl, fun ys hy => by rw [I.tuple_inj hy hq]; exact hx⟩, ⟨⟨x', ?_⟩, hit'.1.at fun o q => (sb.2 it (Ne.symm hne)).trans q, hne, ha, ha2⟩, fun b hb => ?_⟩
    · have e1 : ((i + 1 : Nat) : Int) = (i : Int) + 1 := by omega
      rw [e1]; exact he'
    · have hb' : b < s.heap.objs.size := by
        have e' : b = e ∨ b = it := by simpa using hb
        rcases e' with z | z
        · rw [z]; exact hel
        · rw [z]; exact hil
      rw [upd_ne (Nat.ne_of_lt hb')]
      exact (hf b hb).1
  done := by
    intro X hP hw hK hc i pins s σ H E I hf st hg
    subst hP hw hK
    obtain ⟨⟨old, he⟩, hit, hne, ha, ha2⟩ := st
    obtain ⟨xs, hq, hx⟩ := hg
    obtain ⟨its, rv, p, hz⟩ := I.tuple hq
    obtain ⟨f0, f1, f2, f3, f4, f5⟩ := hf it (by simp)
    have hl := rv.length
    refine wpAny_pyNext_enum_endD' (I.ok.hd hc) he hit p (by simp; omega) fun h' eb => ⟨rfl, I.turned (t' := s.toks) (fun b o hb q => eb b o hb q) f0 f1 f3 f4 f5⟩
  self := fun A i s Q E st h => let ⟨⟨_, he⟩, _⟩ := st; wpAny_pyIter_enum he h
def iEnumA (K : PySem.W.Frag) (ta : TA) : TI := fun σ H R => ta σ H fun vs H1 => ∃ a xs, vs = [.ref a] ∧ ((SqL K H1 a xs ∧ R (Ite K a) H1) ∨ (SqT K H1 a xs ∧ R (IteT K a) H1))
theorem pi_enumA {X : Cx} {e : Expr} {ta : TA} {p pos tpos : Pos} {elts : List Expr} {kk : Nat} (hg : Gl X "enumerate") (hm : X.mg "enumerate" = none) (ha : PA X [e] ta) (hs : starEach [e] X.env = [(false, eval e X.env)] := by rfl) :
    PI X (.Tuple elts kk tpos) (.Call (.Name "enumerate" p) [e] [] pos) (iEnumA X.K ta) := by
  refine ⟨fun pins s σ H R I h => ?_⟩
  refine Call_ (ld_blt I hg hm boot_enumerate (PyProof.Rows.callWith_type1 (thn (ha.run pos pins s σ H _ I h) fun us s1 ⟨vs, H1, I1, r1, q1⟩ => ?_) hs rfl))
  obtain ⟨a, xs, ex, q1⟩ := q1
  subst ex
  cases r1 with
  | cons r rr =>
    cases rr
    cases r
    have fresh : ∀ b ∈ [s1.heap.objs.size + 1, s1.heap.objs.size], FpOk X pins H1 b := fun b hb => by
      have e' : b = s1.heap.objs.size + 1 ∨ b = s1.heap.objs.size := by simpa using hb
      have hle : s1.heap.objs.size ≤ b := by
        rcases e' with z | z
        · rw [z]; exact Nat.le_add_right _ _
        · rw [z]; exact Nat.le_refl _
      exact I1.fpOk hle (I1.hok.fresh hle)
    rcases q1 with ⟨hq, q⟩ | ⟨hq, q⟩
    · obtain ⟨its, rv, p', hz⟩ := I1.list hq
      refine call_enumerate_list p'.isList fun h' he hit hsz hk => wpAny_pyIter_enum he ?_
      have I2 : Inv X pins σ H1 { s1 with heap := h' } := I1.kept (t' := s1.toks) hk
      exact ⟨s1.heap.objs.size + 1, [s1.heap.objs.size + 1, s1.heap.objs.size], _, _, H1, rfl, I2, turn_enum a (s1.heap.objs.size + 1) s1.heap.objs.size, ⟨⟨.none, he⟩, hit, Nat.succ_ne_self _⟩, fresh, q⟩
    · obtain ⟨its, rv, p', hz⟩ := I1.tuple hq
      obtain ⟨oo, hoo, _⟩ := id p'
      have hlt : a < s1.heap.objs.size := Heap.lt_size hoo
      refine call_enumT (show s1.heap.IsTuple a its.toArray from p') fun h' he hit hsz hk => wpAny_pyIter_enum he ?_
      have I2 : Inv X pins σ H1 { s1 with heap := h' } := I1.kept (t' := s1.toks) hk
      exact ⟨s1.heap.objs.size + 1, [s1.heap.objs.size + 1, s1.heap.objs.size], _, _, H1, rfl, I2, turn_enumT a (s1.heap.objs.size + 1) s1.heap.objs.size, ⟨⟨.none, he⟩, hit, Nat.succ_ne_self _, Nat.ne_of_lt hlt, Nat.ne_of_lt (Nat.lt_succ_of_lt hlt)⟩, fresh, q⟩
section
variable {K : PySem.W.Frag} {Hf1 G : Hp} {a : Addr} {vs : List V} {ds : List PyData}
theorem enumD_get : ∀ {ds : List PyData} {i k : Nat} {d : PyData}, (enumD k ds)[i]? = some d → ∃ x, ds[i]? = some x ∧ d = .tuple [.int ((k + i : Nat) : Int), x]
  | [], _, _, _, h => by simp [enumD] at h
  | a :: r, 0, k, d, h => ⟨a, rfl, (Option.some.inj (show some (PyData.tuple [.int ((k : Nat) : Int), a]) = some d by simpa [enumD] using h)).symm⟩
  | a :: r, i + 1, k, d, h => by
    obtain ⟨x, h1, h2⟩ := enumD_get (ds := r) (i := i) (k := k + 1) (d := d) (by simpa [enumD] using h)
    exact ⟨x, by simpa using h1, by rw [h2, show k + 1 + i = k + (i + 1) by omega]⟩
theorem enumD_length : ∀ {ds : List PyData} {k : Nat}, (enumD k ds).length = ds.length
  | [], _ => rfl
  | a :: r, k => by rw [enumD, List.length_cons, enumD_length, List.length_cons]
theorem gi_enumL (hs : SqL K G a vs) (r : RpAll K Hf1 vs ds) : GI K (Ite K a) (enumD 0 ds) Hf1 G := fun i H Hf s1 s2 s3 => by
  have hs' := s3.seq hs
  refine ⟨fun e => ⟨vs, hs', by rw [r.length, e, enumD_length]; exact Nat.le_refl _⟩, fun d hd => ?_⟩
  obtain ⟨x, h1, rfl⟩ := enumD_get hd
  obtain ⟨v, g1, g2⟩ := r.get h1
  refine ⟨⟨vs, v, hs', g1⟩, fun z H' ⟨T, x', e1, hT, e2, k1⟩ => ?_⟩
  subst e1 e2
  have z1 := k1 vs hs'
  rw [g1] at z1; cases z1
  exact pair_new s2 hT (by rw [Nat.zero_add]; exact .int _) (g2.mono s1 _ _)
theorem gi_enumT (hs : SqT K G a vs) (r : RpAll K Hf1 vs ds) : GI K (IteT K a) (enumD 0 ds) Hf1 G := fun i H Hf s1 s2 s3 => by
  have hs' := s3.sqT hs
  refine ⟨fun e => ⟨vs, hs', by rw [r.length, e, enumD_length]; exact Nat.le_refl _⟩, fun d hd => ?_⟩
  obtain ⟨x, h1, rfl⟩ := enumD_get hd
  obtain ⟨v, g1, g2⟩ := r.get h1
  refine ⟨⟨vs, v, hs', g1⟩, fun z H' ⟨T, x', e1, hT, e2, k1⟩ => ?_⟩
  subst e1 e2
  have z1 := k1 vs hs'
  rw [g1] at z1; cases z1
  exact pair_new s2 hT (by rw [Nat.zero_add]; exact .int _) (g2.mono s1 _ _)
end
section
variable {X : Cx} {e : Expr} {fa : Rho → Option PyData}
theorem pi_enumB {p pos tpos : Pos} {elts : List Expr} {kk : Nat} (hg : Gl X "enumerate") (hm : X.mg "enumerate" = none) (ha : PE X e (tBm X.K fa)) (hs : starEach [e] X.env = [(false, eval e X.env)]) :
    PI X (.Tuple elts kk tpos) (.Call (.Name "enumerate" p) [e] [] pos) (tI X.K true fun ρ => (fa ρ).bind fun x => (seqD x).map (enumD 0)) := by
  refine PIimp (pi_enumA hg hm (pa_one ha (by rw [hs]; rfl)) hs) fun σ H R ⟨Hf, ρ, ds, er, hd, k⟩ => ?_
  obtain ⟨d, h1, hd⟩ := Option.bind_eq_some_iff.mp hd
  refine ⟨Hf, ρ, d, er, h1, fun v H' Hf' e r => ?_⟩
  cases d with
  | list es =>
    cases hd
    obtain ⟨p, vs, rfl, s1, z, rr⟩ := r.list e.sub
    exact ⟨p, vs, rfl, .inl ⟨s1, k _ _ Hf' e (by rw [enumD_length, ← rr.length]; exact z) (gi_enumL s1 rr)⟩⟩
  | tuple es =>
    cases hd
    obtain ⟨p, vs, rfl, s1, z, rr⟩ := r.tuple
    exact ⟨p, vs, rfl, .inr ⟨sqT_mono e.sub.same s1, k _ _ Hf' e (by rw [enumD_length, ← rr.length]; exact z) (gi_enumT (sqT_mono e.sub.same s1) rr)⟩⟩
  | _ => exact nomatch hd
theorem pi_enumF {p pos tpos : Pos} {elts : List Expr} {kk : Nat} (hg : Gl X "enumerate") (hm : X.mg "enumerate" = none) (ha : PE X e (tF X.K fa)) (hs : starEach [e] X.env = [(false, eval e X.env)]) :
    PI X (.Tuple elts kk tpos) (.Call (.Name "enumerate" p) [e] [] pos) (tI X.K false fun ρ => (fa ρ).bind fun x => (seqD x).map (enumD 0)) := by
  refine PIimp (pi_enumA hg hm (pa_cons ha pa_nil (by rw [hs]; rfl)) hs) fun σ H R ⟨Hf, ρ, ds, er, hd, k⟩ => ?_
  obtain ⟨d, h1, hd⟩ := Option.bind_eq_some_iff.mp hd
  refine ⟨Hf, ρ, d, er, h1, fun v H' Hf' e r => ?_⟩
  cases r with
  | lst s1 z rr =>
    cases hd
    exact ⟨_, _, rfl, .inl ⟨sqL_sub e.sub.same s1, k _ _ Hf' e (by rw [enumD_length, ← rr.length]; exact z) (gi_enumL s1 rr)⟩⟩
  | tup s1 z rr =>
    cases hd
    exact ⟨_, _, rfl, .inr ⟨sqT_mono e.sub.same s1, k _ _ Hf' e (by rw [enumD_length, ← rr.length]; exact z) (gi_enumT s1 rr)⟩⟩
  | _ => exact nomatch hd
end
/-! ### dicts with written texts as keys -/
section
variable {K : PySem.W.Frag} {H : Hp}
theorem valV_no {kvs : List (L2.Key × V)} {k : L2.Key} (h : k ∉ kvs.map (·.1)) : valV kvs k = none := by
  induction kvs with
  | nil => rfl
  | cons p r ih =>
    rw [List.map_cons, List.mem_cons, not_or] at h
    rw [valV_neg (fun e => h.1 e.symm)]
    exact ih h.2
theorem mergeK_nd : ∀ (more acc : List (L2.Key × V)), (acc.map (·.1) ++ more.map (·.1)).Nodup → mergeK acc more = acc ++ more
  | [], acc, _ => by rw [List.append_nil]; rfl
  | p :: r, acc, h => by
    have hn : p.1 ∉ acc.map (·.1) := fun q => (List.nodup_append.mp h).2.2 _ q _ (by simp) rfl
    have e : putK acc p.1 p.2 = acc ++ [p] := putK_new _ (valV_no hn)
    show mergeK (putK acc p.1 p.2) r = _
    rw [e, mergeK_nd r (acc ++ [p]) (by rw [List.map_append, List.append_assoc]; exact h), List.append_assoc]
    rfl
theorem kvOf_keys : ∀ (ks : List Str) (vs : List V), ∀ k ∈ (kvOf ks vs).map (·.1), ∃ x ∈ ks, k = .inr x
  | [], _, k, h => by simp [kvOf] at h
  | _ :: _, [], k, h => by simp [kvOf] at h
  | x :: ks, v :: vs, k, h => by
    rw [kvOf, List.map_cons, List.mem_cons] at h
    rcases h with rfl | h
    · exact ⟨x, by simp, rfl⟩
    · obtain ⟨y, h1, h2⟩ := kvOf_keys ks vs k h
      exact ⟨y, List.mem_cons_of_mem _ h1, h2⟩
theorem kvOf_nd : ∀ {ks : List Str} {vs : List V}, ks.Nodup → ((kvOf ks vs).map (·.1)).Nodup
  | [], _, _ => by simp [kvOf]
  | _ :: _, [], _ => by simp [kvOf]
  | x :: ks, v :: vs, h => by
    rw [kvOf, List.map_cons, List.nodup_cons]
    rw [List.nodup_cons] at h
    refine ⟨fun q => ?_, kvOf_nd h.2⟩
    obtain ⟨y, h1, h2⟩ := kvOf_keys ks vs _ q
    cases h2
    exact h.1 h1
theorem kvOf_len : ∀ (ks : List Str) (vs : List V), (kvOf ks vs).length ≤ ks.length
  | [], _ => by simp [kvOf]
  | _ :: _, [] => by simp [kvOf]
  | x :: ks, v :: vs => by rw [kvOf, List.length_cons, List.length_cons]; have := kvOf_len ks vs; omega
theorem kv_pick : ∀ {ks : List Str} {vs : List V} {ds : List PyData} (x : Str), RpAll K H vs ds → (∀ d, pickD ks ds x = some d → ∃ v, valV (kvOf ks vs) (.inr x) = some v ∧ Rp K H v d) ∧ (pickD ks ds x = none → valV (kvOf ks vs) (.inr x) = none)
  | [], vs, ds, x, _ => ⟨fun d h => by cases ds <;> simp [pickD] at h, fun _ => by simp [kvOf, valV_nil]⟩
  | k :: ks, _, [], x, r => by cases r; exact ⟨fun d h => by simp [pickD] at h, fun _ => by simp [kvOf, valV_nil]⟩
  | k :: ks, _, d0 :: ds, x, r => by
    cases r with
    | @cons v vs _ _ a b =>
      obtain ⟨i1, i2⟩ := kv_pick (ks := ks) x b
      by_cases e : k = x
      · subst e
        rw [kvOf, valV_pos rfl]
        exact ⟨fun d h => by rw [pickD, if_pos rfl] at h; cases h; exact ⟨_, rfl, a⟩, fun h => by rw [pickD, if_pos rfl] at h; cases h⟩
      · rw [kvOf, valV_neg (by simpa using e)]
        exact ⟨fun d h => by rw [pickD, if_neg e] at h; exact i1 d h, fun h => by rw [pickD, if_neg e] at h; exact i2 h⟩
end
def kvV (kvs : List (L2.Key × V)) : List (V × V) := kvs.map fun kv => (kV kv.1, kv.2)
def PrOk (K : PySem.W.Frag) (trs : List (TE × TE)) (ks : List Str) (fs : Rho → Option (List PyData)) : Prop := ∀ (σ : L2.St) (H Hf : Hp) (ρ : Rho) (ds : List PyData) (R : List (V × V) → Hp → Prop), ER K σ H Hf ρ → fs ρ = some ds →
  (∀ vs H' Hf', Ext H Hf H' Hf' → RpAll K Hf' vs ds → R (kvV (kvOf ks vs)) H') → tPairs trs σ H R
theorem pr_nil {K : PySem.W.Frag} : PrOk K [] [] (fun _ => some []) := fun σ H Hf ρ ds R er hd k => by
  cases hd
  exact k [] H Hf (Ext.refl er.sub) .nil
theorem pr_cons {K : PySem.W.Frag} {trs : List (TE × TE)} {k : Str} {ks : List Str} {f : Rho → Option PyData} {fs : Rho → Option (List PyData)} (h : PrOk K trs ks fs) : PrOk K ((tC (.str k), tF K f) :: trs) (k :: ks) (fun ρ => (f ρ).bind fun d => (fs ρ).map (d :: ·)) :=
  fun σ H Hf ρ ds R er hd q => by
    obtain ⟨d, h1, hd⟩ := Option.bind_eq_some_iff.mp hd
    obtain ⟨ds', h2, rfl⟩ := Option.map_eq_some_iff.mp hd
    show tF K f σ H fun y H2 => tPairs trs σ H2 fun ps H3 => R ((V.str k, y) :: ps) H3
    refine ⟨Hf, ρ, d, er, h1, fun v H1 Hf1 e1 r1 => h σ H1 Hf1 ρ ds' _ (er.ext e1) h2 fun vs H2 Hf2 e2 r2 => ?_⟩
    exact q (v :: vs) H2 Hf2 (e1.trans e2) (.cons (r1.mono e2.fr _ _) r2)
section
variable {X : Cx}
def tDc (K : PySem.W.Frag) (ks : List Str) (fs : Rho → Option (List PyData)) : TE := fun σ H Q => ∃ Hf ρ ds, ER K σ H Hf ρ ∧ fs ρ = some ds ∧ ∀ v H' Hf', Ext H Hf H' Hf' → DicAt K Hf' v ks ds → Q v H'
theorem pd_disp {pos : Pos} {keys : List (Option Expr)} {values : List Expr} {trs : List (TE × TE)} {ks : List Str} {fs : Rho → Option (List PyData)} (h : PPs X pos keys values trs) (ok : PrOk X.K trs ks fs) (nd : ks.Nodup) (hall : keys.all (·.isSome) = true) (hl : keys.length = values.length) (h0 : keys ≠ [])
    (h15 : keys.length ≤ 15) (hk : ks.length ≤ 15) : PE X (.Dict keys values pos) (tDc X.K ks fs) := by
  refine PEimp (pe_disp h hall hl h0 h15) fun σ H Q ⟨Hf, ρ, ds, er, hd, k⟩ => ?_
  intro p hp
  have e0 := Ext.allocO er.sub hp (.dK [])
  have hfp : Hf p = none := sub_none er.sub hp
  refine ok σ _ Hf ρ ds _ (er.ext e0) hd fun vs H' Hf' e r => ?_
  have gp : H' p = some (.dK []) := e.hs _ _ trivial upd_same
  have np : Hf' p = none := e.keepNone hfp upd_same
  refine ⟨gp, kvOf ks vs, rfl, Nat.le_trans (kvOf_len _ _) hk, ?_⟩
  rw [mergeK_nd (kvOf ks vs) [] (by simpa using kvOf_nd nd), List.nil_append]
  have e1 : Ext H Hf (upd H' p (.dK (kvOf ks vs))) (upd Hf' p (.dK (kvOf ks vs))) := ((e0.trans e).poke (.dK (kvOf ks vs)) hp np gp).frz hp np upd_same
  exact k _ _ _ e1 ⟨p, vs, rfl, upd_same, r.mono (same_upd np _) _ _⟩
variable {o r d : Expr} {fr fd : Rho → Option PyData} {fs : Rho → Option (List PyData)} {ks : List Str} {pos : Pos}
theorem pf_pick (hu : X.A.units + 65 < cLine) (ho : PE X o (tDc X.K ks fs)) (hr : PE X r (tF X.K fr)) (hs : NoSl r) : PE X (.Subscript o r pos) (tF X.K fun ρ => (fs ρ).bind fun ds => (fr ρ).bind fun x => pickX ks ds x) := by
  refine PEimp (pe_dget (by omega) ho hr hs) fun σ H Q ⟨Hf, ρ, y, er, hd, k⟩ => ?_
  obtain ⟨ds, h1, hd⟩ := Option.bind_eq_some_iff.mp hd
  obtain ⟨x, h2, hd⟩ := Option.bind_eq_some_iff.mp hd
  refine ⟨Hf, ρ, ds, er, h1, fun v H1 Hf1 e1 D => ⟨Hf1, ρ, x, er.ext e1, h2, fun u H2 Hf2 e2 r2 => ?_⟩⟩
  obtain ⟨p, vs, rfl, D1, D2⟩ := D.mono e2.fr
  cases x with
  | str x =>
    cases r2
    obtain ⟨w, h3, h4⟩ := (kv_pick x D2).1 y hd
    exact ⟨p, w, rfl, by have := DGet.k (k := .inr x) (e2.sub.same _ _ D1); rw [h3] at this; exact this, (k.ext (e1.trans e2)).here e2.sub h4⟩
  | _ => exact nomatch hd
theorem pf_getd {apos : Pos} (hu : X.A.units + 65 < cLine) (ho : PE X o (tDc X.K ks fs)) (hr : PE X r (tF X.K fr)) (hd : PE X d (tF X.K fd)) (m : M2 X o "get" apos r d pos) :
    PE X (.Call (.Attribute o "get" apos) [r, d] [] pos) (tF X.K fun ρ => (fs ρ).bind fun ds => (fr ρ).bind fun x => (fd ρ).bind fun y => getX ks ds x y) := by
  refine PEimp (pe_dget2 (by omega) ho hr hd m) fun σ H Q ⟨Hf, ρ, z, er, hz, k⟩ => ?_
  obtain ⟨ds, h1, hz⟩ := Option.bind_eq_some_iff.mp hz
  obtain ⟨x, h2, hz⟩ := Option.bind_eq_some_iff.mp hz
  obtain ⟨y, h3, hz⟩ := Option.bind_eq_some_iff.mp hz
  refine ⟨Hf, ρ, ds, er, h1, fun v H1 Hf1 e1 D => ?_⟩
  obtain ⟨p, vs, rfl, D1, D2⟩ := id D
  refine ⟨p, rfl, .inl ⟨_, .inl (e1.sub.same _ _ D1)⟩, Hf1, ρ, x, er.ext e1, h2, fun u H2 Hf2 e2 r2 => ⟨Hf2, ρ, y, (er.ext e1).ext e2, h3, fun w H3 Hf3 e3 r3 => ?_⟩⟩
  cases x with
  | str x =>
    cases r2
    have D1' : H3 p = some (.dK (kvOf ks vs)) := e3.sub.same _ _ (e3.fr _ _ (e2.fr _ _ D1))
    have D2' := (D2.mono e2.fr _ _).mono e3.fr _ _
    have g := DGet.k (k := .inr x) D1'
    have hz : some ((pickD ks ds x).getD y) = some z := hz
    cases q : pickD ks ds x with
    | none =>
      rw [q] at hz
      cases hz
      refine ⟨_, g, ?_⟩
      rw [(kv_pick x D2').2 q]
      exact (((k.ext e1).ext e2).ext e3).here e3.sub r3
    | some c =>
      rw [q] at hz
      cases hz
      obtain ⟨w', h3, h4⟩ := (kv_pick x D2').1 _ q
      refine ⟨_, g, ?_⟩
      rw [h3]
      exact (((k.ext e1).ext e2).ext e3).here e3.sub h4
  | _ => exact nomatch hz
/-- a local name that holds a dict -/
theorem pd_var {i : Nat} (h : PE X o (tVar i)) (hu : X.A.units + 65 < cLine) (hr : PE X r (tF X.K fr)) (hs : NoSl r) : PE X (.Subscript o r pos) (tF X.K fun ρ => (fr ρ).bind fun x => pickS ρ i x) := by
  refine PEimp (pe_dget (by omega) h hr hs) fun σ H Q ⟨Hf, ρ, y, er, hd, k⟩ => ?_
  obtain ⟨x, h2, hd⟩ := Option.bind_eq_some_iff.mp hd
  cases q : ρ[i]? with
  | none => simp only [pickS, q] at hd; cases hd
  | some s =>
    cases s with
    | dic ks ds =>
      simp only [pickS, q] at hd
      obtain ⟨v, g1, D⟩ := er.dic i ks ds q
      refine ⟨v, g1, Hf, ρ, x, er, h2, fun u H2 Hf2 e2 r2 => ?_⟩
      obtain ⟨p, vs, rfl, D1, D2⟩ := D.mono e2.fr
      cases x with
      | str x =>
        cases r2
        obtain ⟨w, h3, h4⟩ := (kv_pick x D2).1 y hd
        exact ⟨p, w, rfl, by have := DGet.k (k := .inr x) (e2.sub.same _ _ D1); rw [h3] at this; exact this, (k.ext e2).here e2.sub h4⟩
      | _ => exact nomatch hd
    | _ => simp only [pickS, q] at hd; cases hd
end
/-! ### sorted -/
section
variable {K : PySem.W.Frag} {H : Hp} {h : Heap}
theorem each_rp : ∀ {vs : List V} {us : List Value} {ds : List PyData}, RpAll K H vs ds → Vals vs us → PySem.W.EachIs (fun u d => ∃ x : V, RelV x u ∧ Rp K H x d) us ds
  | _, _, [], r, v => by cases r; cases v; exact .nil
  | _, _, d :: ds, r, v => by
    cases r with
    | cons a b => cases v with
      | cons c e => exact .cons ⟨_, c, a⟩ (each_rp b e)
theorem rp_each : ∀ {us : List Value} {ds : List PyData}, PySem.W.EachIs (fun u d => ∃ x : V, RelV x u ∧ Rp K H x d) us ds → ∃ vs, Vals vs us ∧ RpAll K H vs ds
  | _, _, .nil => ⟨[], .nil, .nil⟩
  | _, _, .cons ⟨x, a, b⟩ t => by
    obtain ⟨vs, h1, h2⟩ := rp_each t
    exact ⟨x :: vs, .cons a h1, .cons b h2⟩
theorem each_reads {X : Cx} {pins : List (Addr × Obj)} {σ : L2.St} {H : Hp} {s : Shared} (I : Inv X pins σ H s) : ∀ {vs : List V} {us : List Value} {ds : List PyData}, RpAll X.K H vs ds → Vals vs us → PySem.W.EachIs (fun u d => ∃ as, Reads s.heap u (id d) as) us ds
  | _, _, [], r, v => by cases r; cases v; exact .nil
  | _, _, d :: ds, r, v => by
    cases r with
    | cons a b => cases v with
      | cons c e => exact .cons (Dp.reads I d _ _ (Rp.dp d _ a) c) (each_reads I b e)
end
theorem sortOk_parts {ds : List PyData} (h : sortOk ds = true) : PySem.W.AllAlike ds ∧ PySem.W.Sortable ds ∧ ∀ d ∈ ds, d.depth ≤ 60 := by
  simp only [sortOk, Bool.and_eq_true, Bool.or_eq_true, List.all_eq_true, decide_eq_true_eq] at h
  obtain ⟨⟨h1, h2⟩, h3⟩ := h
  refine ⟨fun d hd e he => h1 d hd e he, ?_, h3⟩
  rcases h2 with h2 | h2
  · left
    intro d hd
    have := h2 d hd
    cases d <;> simp [neTup] at this
    rename_i xs
    cases xs with
    | nil => simp [neTup] at this
    | cons x r => exact ⟨x, r, rfl⟩
  · right
    intro d hd
    have := h2 d hd
    refine ⟨fun e => ?_, fun xs e => ?_⟩ <;> (subst e; simp [noTup] at this)
end Ev

/-! EvM: more operators: a tuple turned round, str of an int, sorted of a tuple, a module's dict. -/
namespace Ev
variable [Memo]
open PySem PySem.Spec PyProof.Rows L2
open PySem.Calls

/-! ### t[::-1] -/
section
variable {prog : Program} {w : World} {A : Around} {E : Value → Shared → Prop} {s : Shared}
theorem fm_congr {α β : Type} : ∀ (l : List α) {f g : α → Option β}, (∀ m ∈ l, f m = g m) → l.filterMap f = l.filterMap g
  | [], _, _, _ => rfl
  | a :: l, f, g, h => by
    rw [List.filterMap_cons, List.filterMap_cons, h a (by simp), fm_congr l fun m hm => h m (List.mem_cons_of_mem _ hm)]
theorem fm_all {α : Type} : ∀ (l : List α), (List.range l.length).filterMap (fun m => l[m]?) = l
  | [] => rfl
  | a :: l => by
    rw [List.length_cons, List.range_succ_eq_map, List.filterMap_cons]
    simp only [List.getElem?_cons_zero, List.filterMap_map]
    exact congrArg (a :: ·) (fm_all l)
theorem rev_pick (xs : Array Value) : ((List.range xs.size).filterMap fun (m : Nat) => xs[(((xs.size : Int) - 1) + (m : Int) * (-1)).toNat]?).toArray = xs.toList.reverse.toArray := by
  congr 1
  have e : ((List.range xs.size).filterMap fun (m : Nat) => xs[(((xs.size : Int) - 1) + (m : Int) * (-1)).toNat]?) = (List.range xs.toList.reverse.length).filterMap fun m => xs.toList.reverse[m]? := by
    rw [List.length_reverse, Array.length_toList]
    refine fm_congr _ fun m hm => ?_
    have hm' : m < xs.size := by simpa using hm
    have h1 : (((xs.size : Int) - 1) + (m : Int) * (-1)).toNat = xs.size - 1 - m := by omega
    rw [h1, List.getElem?_reverse (by simpa using hm')]
    simp
  rw [e, fm_all]
theorem sl_rev (n : Nat) : Builtin.Slice.sliceAdjust none none (-1) (n : Int) = ((n : Int) - 1, -1) ∧ Builtin.Slice.slicePlaces ((n : Int) - 1) (-1) (-1) = n := by
  constructor
  · unfold Builtin.Slice.sliceAdjust
    simp
  · unfold Builtin.Slice.slicePlaces
    simp
    split <;> omega
theorem getItem_tup_rev {t sl : Addr} {xs : Array Value} {vs : Value} {Q : Value → Shared → Prop} (ht : IsTup s.heap t xs) (hs : s.heap.IsSliceOf sl .none .none vs) (ps : IsPart vs (some (-1))) (hsz : xs.size ≤ sizeLine)
    (k : Q (.ref s.heap.objs.size) { s with heap := s.heap.push { cls := .type "tuple", data := .seq xs.toList.reverse.toArray } }) : wpAny (model prog w) A (getItem (.ref t) (.ref sl)) Q E s := by
  obtain ⟨os, h1, h2, h3⟩ := id hs
  have hT : s.TypeIs (.ref sl) "slice" := ⟨os, h1, h2⟩
  have hok : sizeOk (.seq xs.toList.reverse.toArray) := by
    show xs.toList.reverse.toArray.size ≤ sizeLine
    simpa using hsz
  unfold getItem
  try with_reducible refine wpAny_holding ?_
  first | refine wpAny_bind (wpAny_pure ?_) | skip
  refine wpAny_bind (wpAny_sequenceKey ht.typeIs (by decide) ?_)
  refine wpAny_bind (wpAny_callSpecial?_slot (name := Str.ofString "__getitem__") ht.typeIs PyProof.Rows.slot_tuple_getitem (wpAny_call_entry PyProof.Rows.slot_tuple_getitem ht.typeIs entry_tuple_getitem ?_ (args_tuple_getitem _ _)))
  show wpAny _ _ (Builtin.Tuple.tupleItemsOf (.ref t) >>= _) _ _ s
  refine wpAny_bind (tupleItemsOf_ ht (wpAny_bind (wpAny_typeOf hT ?_)))
  rw [if_pos (by decide)]
  have ap : ∀ {R : Int × Int × Nat → Shared → Prop}, R ((xs.size : Int) - 1, -1, xs.size) s → wpAny (model prog w) A.in1 (Builtin.Slice.sliceApplied (.ref sl) (pure (xs.size : Int))) R E s := by
    intro R hR
    unfold Builtin.Slice.sliceApplied Builtin.Slice.sliceFields
    refine wpAny_bind (wpAny_bind (wpAny_field h1 h3 (x := .none) rfl (wpAny_bind (wpAny_field h1 h3 (x := .none) rfl (wpAny_bind (wpAny_field h1 h3 (x := vs) rfl (wpAny_pure ?_)))))))
    refine wpAny_bind (HT.slicePart_ ps ?_)
    show wpAny _ _ (if ((-1 : Int) == 0) = true then _ else _) _ _ s
    rw [if_neg (by decide)]
    refine wpAny_bind (HT.slicePart_ .none (wpAny_bind (HT.slicePart_ .none (wpAny_bind (wpAny_pure ?_)))))
    obtain ⟨g1, g2⟩ := sl_rev xs.size
    show wpAny _ _ (match Builtin.Slice.sliceAdjust none none (-1) (xs.size : Int) with | (lo, hi) => pure (lo, (-1 : Int), Builtin.Slice.slicePlaces lo hi (-1))) _ _ s
    rw [g1]
    show wpAny _ _ (pure ((xs.size : Int) - 1, (-1 : Int), Builtin.Slice.slicePlaces ((xs.size : Int) - 1) (-1) (-1))) _ _ s
    rw [g2]
    exact wpAny_pure hR
  refine wpAny_bind (ap ?_)
  have no : ¬ ((((xs.size : Int) - 1) == 0 && (-1 : Int) == 1 && xs.size == xs.size) = true) := by
    rw [show ((-1 : Int) == 1) = false from rfl, Bool.and_false, Bool.false_and]
    exact Bool.false_ne_true
  show wpAny _ _ (if (((xs.size : Int) - 1) == 0 && (-1 : Int) == 1 && xs.size == xs.size) = true then _ else _) _ _ s
  rw [if_neg no, rev_pick]
  first
    | exact wpAny_bind (m := Builtin.Tuple.tupleExact _) (wpAny_newObj_type (wpAny_pure ⟨_, rfl, wpAny_pure k⟩) hok)
    | exact wpAny_bind (m := Builtin.Tuple.tupleExact _) (wpAny_newObj_type (wpAny_bind (wpAny_pure (wpAny_pure ⟨_, rfl, wpAny_pure k⟩))) hok)
    | exact wpAny_bind (wpAny_bind (m := Builtin.Tuple.tupleExact _) (wpAny_newObj_type (wpAny_pure (wpAny_pure ⟨_, rfl, wpAny_pure k⟩)) hok))
    | exact wpAny_bind (wpAny_bind (m := Builtin.Tuple.tupleExact _) (wpAny_newObj_type (wpAny_pure ⟨_, rfl, wpAny_pure k⟩) hok))
end
section
variable {X : Cx}
/-- what is turned round: a list or a tuple -/
def tRevA (K : PySem.W.Frag) (te : TE) : TE := fun σ H Q => te σ H fun x H1 => ∃ a xs, x = .ref a ∧ ((SqL K H1 a xs ∧ ∀ p, H1 p = none → Q (.ref p) (upd H1 p (.lst xs.reverse))) ∨ (SqT K H1 a xs ∧ ∀ p, H1 p = none → Q (.ref p) (upd H1 p (.tup xs.reverse))))
theorem pe_revA {e : Expr} {te : TE} {k : Nat} {p1 p2 p3 pos : Pos} (he : PE X e te) : PE X (.Subscript e (.Slice none none (some (.UnaryOp .USub (.Constant (.int 1) k p1) p2)) p3) pos) (tRevA X.K te) := by
  refine ⟨fun pins s σ H Q I h => ?_⟩
  refine Subscript_ (thn (he.run pins s σ H _ I h) fun v s1 ⟨x, H1, I1, r1, q1⟩ => ?_)
  obtain ⟨a, xs, ex, q⟩ := q1
  subst ex
  cases r1
  have hst : PO X (some (.UnaryOp .USub (.Constant (.int 1) k p1) p2)) (tPart (tUn (rU fun i => .int (-i)) (tC (.int 1)))) := po_some (pe_un un_neg pe_int)
  refine wpAny_Slice (thn (po_none.run pins s1 σ H1 (fun o G => o = none ∧ G = H1) I1 ⟨rfl, rfl⟩) fun vl s2 ⟨l, H2, I2, pl, el, e2⟩ => ?_)
  subst el e2
  refine thn (po_none.run pins s2 σ H2 (fun o G => o = none ∧ G = H2) I2 ⟨rfl, rfl⟩) fun vu s3 ⟨u, H3, I3, pu, eu, e3⟩ => ?_
  subst eu e3
  refine thn (hst.run pins s3 σ H3 (fun o G => o = some (-1) ∧ G = H3) I3 ⟨1, rfl, -1, rfl, rfl, rfl⟩) fun vs s4 ⟨o, H4, I4, ps, eo, e4⟩ => ?_
  subst eo e4
  have I5 : Inv X pins σ H4 { s4 with heap := s4.heap.push { cls := .type "slice", data := .fields #[vl, vu, vs] } } := I4.kept (t' := s4.toks) fun b ob z => Heap.get?_push_of_some _ z
  show wpAny (model X.prog X.w) X.A (subscriptTail e (.Slice none none (some (.UnaryOp .USub (.Constant (.int 1) k p1) p2)) p3) (.ref a) (.ref s4.heap.objs.size)) (EP X pins σ Q) X.xe { s4 with heap := s4.heap.push { cls := .type "slice", data := .fields #[vl, vu, vs] } }
  cases pl
  cases pu
  rcases q with ⟨hx, q⟩ | ⟨hx, q⟩
  · obtain ⟨its, r, ht, hz⟩ := I5.list hx
    have hlen := r.length
    refine tail_any (ops := [.ref a, .ref s4.heap.objs.size]) ht.isList.typeIs (PySem.slot_list_getitem.lookup) ?_ (by with_unfolding_all rfl)
    refine wpAny_getItem_list_slice ht.isList (Heap.IsSliceOf.new _ _ _ vs) .none .none ps (by decide) ?_ (by rw [List.size_toArray]; omega)
    rw [PySem.W.krv_pick]
    exact ⟨.ref _, _, I5.laid (t' := s4.toks) (o := .lst xs.reverse) (fun b ob z => Heap.get?_push_of_some _ z) (Nat.le_refl _) ⟨by rw [List.length_reverse]; exact hz, _, 0, r.reverse, Heap.get?_push_size _ rfl⟩, rfl, q _ (I5.hok.fresh (Nat.le_refl _))⟩
  · obtain ⟨its, r, ht, hz⟩ := I5.tuple hx
    have hlen := r.length
    refine tail_any (ops := [.ref a, .ref s4.heap.objs.size]) ht.typeIs (PyProof.Rows.slot_tuple_getitem.lookup) ?_ (by with_unfolding_all rfl)
    refine getItem_tup_rev ht (Heap.IsSliceOf.new _ _ _ vs) ps (by rw [List.size_toArray]; omega) ?_
    exact ⟨.ref _, _, I5.laid (t' := s4.toks) (o := .tup xs.reverse) (fun b ob z => Heap.get?_push_of_some _ z) (Nat.le_refl _) ⟨by rw [List.length_reverse]; exact hz, _, r.reverse, IsTup.new _ _⟩, rfl, q _ (I5.hok.fresh (Nat.le_refl _))⟩
theorem pf_revA {a : Expr} {fa : Rho → Option PyData} {k : Nat} {p1 p2 p3 pos : Pos} (ha : PE X a (tBm X.K fa)) : PE X (.Subscript a (.Slice none none (some (.UnaryOp .USub (.Constant (.int 1) k p1) p2)) p3) pos) (tF X.K fun ρ => (fa ρ).bind revD) := by
  refine PEimp (pe_revA ha) fun σ H Q ⟨Hf, ρ, d, er, hd, k⟩ => ?_
  obtain ⟨x, h1, hd⟩ := Option.bind_eq_some_iff.mp hd
  cases x with
  | list ds =>
    cases hd
    refine ⟨Hf, ρ, _, er, h1, fun v H' Hf' e r => ?_⟩
    obtain ⟨p, vs, rfl, s1, z, rr⟩ := r.list e.sub
    exact ⟨p, vs, rfl, .inl ⟨s1, (k.ext e).newL e.sub (by rw [List.length_reverse]; exact z) rr.reverse⟩⟩
  | tuple ds =>
    cases hd
    refine ⟨Hf, ρ, _, er, h1, fun v H' Hf' e r => ?_⟩
    obtain ⟨p, vs, rfl, s1, z, rr⟩ := r.tuple
    exact ⟨p, vs, rfl, .inr ⟨sqT_mono e.sub.same s1, (k.ext e).newT e.sub (by rw [List.length_reverse]; exact z) rr.reverse⟩⟩
  | _ => exact nomatch hd

/-! ### str(n) -/
theorem str_digit {i : Int} (h0 : 0 ≤ i) (h9 : i ≤ 9) : Str.ofString (toString i) = ⟨#[48 + i.toNat]⟩ := by
  have h : i = 0 ∨ i = 1 ∨ i = 2 ∨ i = 3 ∨ i = 4 ∨ i = 5 ∨ i = 6 ∨ i = 7 ∨ i = 8 ∨ i = 9 := by omega
  rcases h with rfl | rfl | rfl | rfl | rfl | rfl | rfl | rfl | rfl | rfl <;> decide +kernel
theorem blt_str : CallR X (.type "str") (rBlt X.K .str) := by
  refine CallR.imp call_str_int fun xs H Q ⟨v, Hf, a, d, e, sub, r, hd, k⟩ => ?_
  subst e
  cases a with
  | int i =>
    cases r.int
    obtain ⟨h1, rfl⟩ := ite_some (c := decide (0 ≤ i) && decide (i ≤ 9)) hd
    simp only [Bool.and_eq_true, decide_eq_true_eq] at h1
    have e : (toString i : Str) = ⟨#[48 + i.toNat]⟩ := str_digit h1.1 h1.2
    have hl : i.natAbs.log2 < 1920 := by
      have h : i = 0 ∨ i = 1 ∨ i = 2 ∨ i = 3 ∨ i = 4 ∨ i = 5 ∨ i = 6 ∨ i = 7 ∨ i = 8 ∨ i = 9 := by omega
      rcases h with rfl | rfl | rfl | rfl | rfl | rfl | rfl | rfl | rfl | rfl <;> decide +kernel
    refine ⟨i, rfl, hl, ?_⟩
    show Q (.str (Str.ofString (toString i))) H
    rw [str_digit h1.1 h1.2]
    refine k.here sub (.str _ (by show 1 ≤ sizeLine; decide) ?_)
    show (#[48 + i.toNat] : Array Nat).all (· < 0x110000) = true
    simp
    omega
  | _ => exact nomatch hd

/-! ### sorted of a tuple -/
theorem collect_tup {prog : Program} {w : World} {A : Around} {E : Value → Shared → Prop} {s : Shared} {t : Addr} {vs : List Value} {R : List Value → Shared → Prop} (ht : IsTup s.heap t vs.toArray) (hz : vs.length ≤ sizeLine)
    (k : R vs { s with heap := (s.heap.push (seqObj "list" #[] 0)).update s.heap.objs.size (Obj.mapSeq (· ++ vs.toArray)) }) : wpAny (model prog w) A (collect (.ref t)) R E s := by
  obtain ⟨o, ho, hc, n, hd⟩ := id ht
  unfold collect
  refine wpAny_bind (wpAny_runValue (codeAny_builtin entry_proto_collect' ?_))
  show wpAny _ _ (do again (.builtin "list.__iadd__" ⟨[← newList [], .ref t], []⟩)) _ _ s
  refine wpAny_bind (wpAny_newList (wpAny_pure ⟨Code.quiet_builtin _ (by decide +kernel), codeAny_builtin entry_list_iadd' ?_⟩))
  show wpAny _ _ (Builtin.List.listExtendWith (.ref s.heap.objs.size) (.ref t) (.ref s.heap.objs.size)) _ _ { s with heap := s.heap.push (seqObj "list" #[] 0) }
  unfold Builtin.List.listExtendWith
  have h1 : (s.heap.push (seqObj "list" #[] 0)).get? t = some o := Heap.get?_push_of_some _ ho
  refine wpAny_bind (wpAny_typeOf (T := "tuple") ⟨o, h1, hc⟩ ?_)
  have h2 : (Value.type "tuple" == Value.type "tuple") = true := by rfl
  rw [if_pos (by rw [h2]; simp)]
  refine wpAny_bind (listItems_at h1 hd ?_)
  refine wpAny_bind (listItems_at (n := 0) (xs := #[]) (Heap.get?_push_size _ rfl) rfl ?_)
  rw [if_neg (by simp)]
  refine wpAny_bind (listUpdate_at (n := 0) (xs := #[]) (Heap.get?_push_size _ rfl) rfl ?_ (Nat.zero_le _) (by show (#[] ++ vs.toArray).size ≤ sizeLine + 1; simp; omega))
  refine wpAny_pure ?_
  show wpAny (model prog w) A (do
      let ob ← load s.heap.objs.size
      match ob.data with
      | .seq xs _ => pure xs.toList
      | _ => unsupported "internal:collect") R E { s with heap := (s.heap.push (seqObj "list" #[] 0)).update s.heap.objs.size (Obj.mapSeq (· ++ vs.toArray)) }
  refine wpAny_bind (wpAny_load (get?_update_seq (Heap.get?_push_size _ rfl) _) ?_)
  show wpAny _ _ (pure ((#[] : Array Value) ++ vs.toArray).toList) R E _
  have e : ((#[] : Array Value) ++ vs.toArray).toList = vs := by simp
  rw [e]
  exact wpAny_pure k
end
section
variable {prog : Program} {w : World} {A : Around} {E : Value → Shared → Prop} {s : Shared} {κ : PyProof.Rows.KeyKind}
theorem sorted_shellT {t : Addr} {vs : List Value} {R : Value → Shared → Prop} (ht : IsTup s.heap t vs.toArray) (hz : vs.length ≤ sizeLine)
    (inner : ∀ E0 : Value → Shared → Prop, wpAny (model prog w) A.in1.in1 (Builtin.«list.sort» ⟨[.ref (s.heap.objs.size + 1)], []⟩) (fun f z => f = .done (.ret .none) ∧ R (.ref (s.heap.objs.size + 1)) z) E0 { s with heap := PySem.W.copyHeap s.heap vs }) :
    wpAny (model prog w) A (call (.builtin "sorted") [.ref t]) R E s := by
  refine call_function_entry kind_sorted plain_sorted entry_sorted (args_sorted1 _) ?_
  unfold Builtin.«sorted»
  refine wpAny_bind (m := checkCount "sorted" 1 1 _) (wpAny_pure ?_)
  refine wpAny_bind (collect_tup ht hz ?_)
  refine wpAny_bind (wpAny_newList ?_ hz)
  have hn : ((s.heap.push (seqObj "list" #[] 0)).update s.heap.objs.size (Obj.mapSeq (· ++ vs.toArray))).objs.size = s.heap.objs.size + 1 := by rw [Heap.size_update, size_push']
  show wpAny _ _ _ _ _ { s with heap := PySem.W.copyHeap s.heap vs }
  rw [hn]
  refine wpAny_bind (wpAny_holding (wpAny_call_entry slot_list_sort ⟨_, PySem.W.copyHeap_at s.heap vs, rfl⟩ entry_list_sort ?_ (args_list_sort _)))
  refine wpAny_mono (inner _) (fun f z hf => ?_) fun _ _ e => e
  obtain ⟨rfl, q⟩ := hf
  exact ⟨_, rfl, wpAny_pure ⟨_, rfl, q⟩⟩
theorem sorted_tdata {β : Type} {enc : β → PyData} {R : Value → β → Prop} {bs : List β} {vs : List Value} {t : Addr} {Q : Value → Shared → Prop} (ht : IsTup s.heap t vs.toArray) (e : PySem.W.EachIs R vs bs) (er : PySem.W.EachIs (fun v b => ∃ as, Reads s.heap v (enc b) as) vs bs)
    (hal : PySem.W.AllAlike (bs.map enc)) (hk : PySem.W.Sortable (bs.map enc)) (hz : bs.length ≤ sizeLine) (hu : ∀ b, b ∈ bs → A.units + 2 + (enc b).depth < cLine)
    (k : ∀ out, out.length = bs.length → PySem.W.EachIs R out (bs.mergeSort (PySem.W.dataLe false enc)) → Q (.ref (s.heap.objs.size + 1)) { s with heap := sortedAll s.heap vs (List.toArray out) }) :
    wpAny (model prog w) A (call (.builtin "sorted") [.ref t]) Q E s := by
  have er2 : PySem.W.EachIs (fun v b => ∃ as, Reads (PySem.W.sortingHeap (PySem.W.copyHeap s.heap vs) (s.heap.objs.size + 1) vs) v (enc b) as) vs bs := er.mono fun _ _ ⟨as, r⟩ => ⟨as, PyProof.Rows.Reads.keeps (fun _ _ => PySem.W.sorting_copy_old) r⟩
  have hzv : vs.length ≤ sizeLine := by rw [e.length]; exact hz
  refine sorted_shellT ht hzv fun _ => PySem.W.list_sort_vals (s := { s with heap := PySem.W.copyHeap s.heap vs }) (PySem.W.copyHeap_at s.heap vs)
    (PySem.W.SortsAt.data (s := { s with heap := PySem.W.sortingHeap (PySem.W.copyHeap s.heap vs) (s.heap.objs.size + 1) vs }) (PySem.W.each_map (R := fun v d => ∃ as, Reads (PySem.W.sortingHeap (PySem.W.copyHeap s.heap vs) (s.heap.objs.size + 1) vs) v d as) enc er2) hal hk (PySem.W.bound_map (A := A.in1.in1) hu)) hzv ⟨rfl, ?_⟩
  exact k _ (by rw [PySem.W.sortVals_length false rfl]; exact e.length) (PySem.W.sortVals_data false e er2 hal)
end
theorem blt_sorted {X : Cx} (hu : X.A.units + 65 < cLine) : CallR X (.builtin "sorted") (rBlt X.K .sorted) := by
  intro pins s σ H vs us Q I r h
  obtain ⟨v, Hf, a, d, rfl, sub, rb, hd, k⟩ := h
  obtain ⟨u, rfl, ru⟩ := vals1 r
  have kp : ∀ (its : List Value) (out : List Value) b o, s.heap.get? b = some o → (sortedAll s.heap its out.toArray).get? b = some o := fun _ _ _ _ => sortedAll_old
  have fin : ∀ {ds : List PyData} {xs : List V} {its out : List Value}, xs.length ≤ sizeLine → RpAll X.K Hf xs ds → KF X.K H Hf (.list (sortD ds)) Q → PySem.W.EachIs (fun u d => ∃ x : V, RelV x u ∧ Rp X.K Hf x d) out (ds.mergeSort (PySem.W.dataLe false id)) →
      EP X pins σ Q (.ref (s.heap.objs.size + 1)) { s with heap := sortedAll s.heap its out.toArray } := by
    intro ds xs its out z rr k eo
    obtain ⟨ys, h1, h2⟩ := rp_each eo
    obtain ⟨c, hc⟩ := sortedAll_at s.heap its out.toArray
    have hyl : ys.length ≤ sizeLine := by rw [h2.length, List.length_mergeSort, ← rr.length]; exact z
    refine ⟨.ref (s.heap.objs.size + 1), upd H (s.heap.objs.size + 1) (.lst ys), I.laid (t' := s.toks) (kp its out) (Nat.le_succ _) ⟨hyl, out, c, h1, hc⟩, rfl, ?_⟩
    exact k.newL sub hyl h2 _ (I.hok.fresh (Nat.le_succ _))
  cases a with
  | list ds =>
    have hd' : (if sortOk ds then some (PyData.list (sortD ds)) else none) = some d := hd
    by_cases c : sortOk ds = true
    · rw [if_pos c] at hd'
      cases hd'
      obtain ⟨c1, c2, c3⟩ := sortOk_parts c
      obtain ⟨p, xs, rfl, s1, z, rr⟩ := rb.list sub
      obtain rfl : u = Value.ref p := ru
      obtain ⟨its, rv, hl, hz⟩ := I.list s1
      have hle : ds.length ≤ sizeLine := by rw [← rr.length]; exact z
      exact PySem.W.sorted_data (R := fun u d => ∃ x : V, RelV x u ∧ Rp X.K Hf x d) (enc := id) (bs := ds) hl.isList (each_rp rr rv) (each_reads I (rr.mono sub _ _) rv) (by rw [List.map_id]; exact c1) (by rw [List.map_id]; exact c2) hle
        (fun b hb => by have := c3 b hb; simp only [id]; omega) fun out ho eo => fin z rr k eo
    · rw [if_neg c] at hd'; cases hd'
  | tuple ds =>
    have hd' : (if sortOk ds then some (PyData.list (sortD ds)) else none) = some d := hd
    by_cases c : sortOk ds = true
    · rw [if_pos c] at hd'
      cases hd'
      obtain ⟨c1, c2, c3⟩ := sortOk_parts c
      obtain ⟨p, xs, rfl, s1, z, rr⟩ := rb.tuple
      obtain rfl : u = Value.ref p := ru
      obtain ⟨its, rv, hl, hz⟩ := I.tuple (sqT_mono sub s1)
      have hle : ds.length ≤ sizeLine := by rw [← rr.length]; exact z
      exact sorted_tdata (R := fun u d => ∃ x : V, RelV x u ∧ Rp X.K Hf x d) (enc := id) (bs := ds) hl (each_rp rr rv) (each_reads I (rr.mono sub _ _) rv) (by rw [List.map_id]; exact c1) (by rw [List.map_id]; exact c2) hle
        (fun b hb => by have := c3 b hb; simp only [id]; omega) fun out ho eo => fin z rr k eo
    · rw [if_neg c] at hd'; cases hd'
  | _ => exact nomatch hd
end Ev

/-! EvN: sorted(set(t)), t a tuple of ints or of pairs of ints. -/
namespace Ev
variable [Memo]
open PySem PySem.Spec PyProof.Rows L2
open PySem.Calls

/-! ### strictly rising lists -/
theorem rise_uniq {α : Type} {lt : α → α → Prop} (ir : ∀ a, ¬ lt a a) (tr : ∀ a b c, lt a b → lt b c → lt a c) : ∀ {l m : List α}, l.Pairwise lt → m.Pairwise lt → (∀ x, x ∈ l ↔ x ∈ m) → l = m
  | [], [], _, _, _ => rfl
  | [], b :: m, _, _, h => absurd ((h b).mpr (by simp)) (by simp)
  | a :: l, [], _, _, h => absurd ((h a).mp (by simp)) (by simp)
  | a :: l, b :: m, hl, hm, h => by
    obtain ⟨l1, l2⟩ := List.pairwise_cons.mp hl
    obtain ⟨m1, m2⟩ := List.pairwise_cons.mp hm
    have hab : a = b := by
      rcases List.mem_cons.mp ((h a).mp (by simp)) with e | e
      · exact e
      · rcases List.mem_cons.mp ((h b).mpr (by simp)) with e2 | e2
        · exact e2.symm
        · exact absurd (tr _ _ _ (m1 a e) (l1 b e2)) (ir _)
    subst hab
    congr 1
    refine rise_uniq ir tr l2 m2 fun x => ⟨fun hx => ?_, fun hx => ?_⟩
    · rcases List.mem_cons.mp ((h x).mp (List.mem_cons_of_mem _ hx)) with e | e
      · subst e; exact absurd (l1 _ hx) (ir _)
      · exact e
    · rcases List.mem_cons.mp ((h x).mpr (List.mem_cons_of_mem _ hx)) with e | e
      · subst e; exact absurd (m1 _ hx) (ir _)
      · exact e
theorem mem_insI {i x : Int} : ∀ {l : List Int}, x ∈ insI i l ↔ x = i ∨ x ∈ l
  | [] => by simp [insI]
  | j :: r => by
    unfold insI
    split
    · simp
    · split
      · rename_i h; subst h; simp
      · simp only [List.mem_cons, mem_insI (l := r)]
        constructor
        · rintro (h | h | h) <;> simp [h]
        · rintro (h | h | h) <;> simp [h]
theorem rise_insI {i : Int} : ∀ {l : List Int}, l.Pairwise (· < ·) → (insI i l).Pairwise (· < ·)
  | [], _ => by simp [insI]
  | j :: r, h => by
    obtain ⟨h1, h2⟩ := List.pairwise_cons.mp h
    unfold insI
    split
    · rename_i c
      refine List.pairwise_cons.mpr ⟨fun x hx => ?_, h⟩
      rcases List.mem_cons.mp hx with e | e
      · subst e; exact c
      · exact Int.lt_trans c (h1 x e)
    · split
      · exact h
      · refine List.pairwise_cons.mpr ⟨fun x hx => ?_, rise_insI h2⟩
        rcases mem_insI.mp hx with e | e
        · subst e; omega
        · exact h1 x e
theorem mem_setI {x : Int} : ∀ {l : List Int}, x ∈ setI l ↔ x ∈ l
  | [] => by simp [setI]
  | i :: l => by
    show x ∈ insI i (setI l) ↔ _
    rw [mem_insI, mem_setI, List.mem_cons]
theorem rise_setI : ∀ l : List Int, (setI l).Pairwise (· < ·)
  | [] => by simp [setI]
  | i :: l => rise_insI (rise_setI l)
theorem setI_uniq {l m : List Int} (h : l.Pairwise (· < ·)) (hm : ∀ x, x ∈ l ↔ x ∈ m) : l = setI m :=
  rise_uniq (fun a => Int.lt_irrefl a) (fun a b c => Int.lt_trans) h (rise_setI m) fun x => by rw [hm, mem_setI]
theorem ltP_iff {p q : Int × Int} : ltP p q = true ↔ p.1 < q.1 ∨ (p.1 = q.1 ∧ p.2 < q.2) := by
  unfold ltP
  simp
theorem mem_insP {i x : Int × Int} : ∀ {l : List (Int × Int)}, x ∈ insP i l ↔ x = i ∨ x ∈ l
  | [] => by simp [insP]
  | j :: r => by
    unfold insP
    split
    · simp
    · split
      · rename_i h; subst h; simp
      · simp only [List.mem_cons, mem_insP (l := r)]
        constructor
        · rintro (h | h | h) <;> simp [h]
        · rintro (h | h | h) <;> simp [h]
theorem ltP_trans {p q r : Int × Int} (a : ltP p q = true) (b : ltP q r = true) : ltP p r = true := by
  rw [ltP_iff] at *
  omega
theorem ltP_irr (p : Int × Int) : ¬ ltP p p = true := by
  rw [ltP_iff]; omega
theorem ltP_tri {p q : Int × Int} (a : ¬ ltP p q = true) (b : ¬ p = q) : ltP q p = true := by
  rw [ltP_iff] at *
  obtain ⟨x, y⟩ := p
  obtain ⟨z, w⟩ := q
  simp only [Prod.mk.injEq] at *
  omega
theorem rise_insP {i : Int × Int} : ∀ {l : List (Int × Int)}, l.Pairwise (fun p q => ltP p q = true) → (insP i l).Pairwise (fun p q => ltP p q = true)
  | [], _ => by simp [insP]
  | j :: r, h => by
    obtain ⟨h1, h2⟩ := List.pairwise_cons.mp h
    unfold insP
    split
    · rename_i c
      refine List.pairwise_cons.mpr ⟨fun x hx => ?_, h⟩
      rcases List.mem_cons.mp hx with e | e
      · subst e; exact c
      · exact ltP_trans c (h1 x e)
    · split
      · exact h
      · rename_i c1 c2
        refine List.pairwise_cons.mpr ⟨fun x hx => ?_, rise_insP h2⟩
        rcases mem_insP.mp hx with e | e
        · subst e; exact ltP_tri c1 c2
        · exact h1 x e
theorem mem_setP {x : Int × Int} : ∀ {l : List (Int × Int)}, x ∈ setP l ↔ x ∈ l
  | [] => by simp [setP]
  | i :: l => by
    show x ∈ insP i (setP l) ↔ _
    rw [mem_insP, mem_setP, List.mem_cons]
theorem rise_setP : ∀ l : List (Int × Int), (setP l).Pairwise (fun p q => ltP p q = true)
  | [] => by simp [setP]
  | i :: l => rise_insP (rise_setP l)
theorem setP_uniq {l m : List (Int × Int)} (h : l.Pairwise (fun p q => ltP p q = true)) (hm : ∀ x, x ∈ l ↔ x ∈ m) : l = setP m :=
  rise_uniq (lt := fun p q => ltP p q = true) (fun a => ltP_irr a) (fun a b c => ltP_trans) h (rise_setP m) fun x => by rw [hm, mem_setP]

/-! ### set(t), t a tuple of tuples of ints -/
section
variable {P : Program} {w : World} {A : Around} {E : Value → Shared → Prop} {s : Shared}
abbrev fset (w : World) : Obj := { cls := .type "set", dict := none, data := .set #[] 0 (.fresh 0 0 (!w.params.followText "set-order")) }
end
end Ev

/-! EwG: tables of any size, 2^e slots. -/
namespace Ev
open PySem PySem.Spec PyProof.Rows L2
/-! ### x -> 5x+1 goes through all of 2^e -/
def fiveN : Nat → Nat
  | 0 => 0
  | k + 1 => 5 * fiveN k + 1
theorem fiveN_add (b : Nat) : ∀ a, fiveN (a + b) = 5 ^ a * fiveN b + fiveN a
  | 0 => by simp [fiveN]
  | a + 1 => by
    have e : a + 1 + b = (a + b) + 1 := by omega
    rw [e]
    show 5 * fiveN (a + b) + 1 = 5 ^ (a + 1) * fiveN b + (5 * fiveN a + 1)
    rw [fiveN_add b a, Nat.pow_succ, Nat.mul_add, ← Nat.mul_assoc, Nat.mul_comm 5 (5 ^ a)]
    omega
theorem five_pow : ∀ e : Nat, ∃ q, 5 ^ (2 ^ e) = 1 + 2 ^ (e + 2) * q
  | 0 => ⟨1, rfl⟩
  | e + 1 => by
    obtain ⟨q, h⟩ := five_pow e
    refine ⟨q + 2 ^ (e + 1) * (q * q), ?_⟩
    have e1 : (2 : Nat) ^ (e + 1 + 2) = 2 * 2 ^ (e + 2) := by rw [show e + 1 + 2 = (e + 2) + 1 by omega, Nat.pow_succ, Nat.mul_comm]
    have e2 : (2 : Nat) ^ (e + 2) = 2 * 2 ^ (e + 1) := by rw [Nat.pow_succ 2 (e + 1), Nat.mul_comm]
    rw [show (2 : Nat) ^ (e + 1) = 2 ^ e * 2 from Nat.pow_succ 2 e, Nat.pow_mul, h, ← Nat.pow_succ 2 e, e1, e2]
    generalize (2 : Nat) ^ (e + 1) = x
    rw [Nat.pow_two]
    have b1 : (1 + 2 * x * q) * (1 + 2 * x * q) = 1 + 2 * (2 * x * q) + 2 * x * q * (2 * x * q) := by
      generalize 2 * x * q = y
      rw [Nat.add_mul, Nat.one_mul, Nat.mul_add, Nat.mul_one]
      omega
    have h3 : 2 * x * q * (2 * x * q) = 2 * (2 * x) * (x * (q * q)) := by
      simp only [Nat.mul_assoc, Nat.mul_left_comm, Nat.mul_comm]
    rw [b1, h3, Nat.mul_add, Nat.mul_assoc 2 (2 * x) q]
    omega
theorem fiveN_two : ∀ e : Nat, ∃ u, fiveN (2 ^ e) = 2 ^ e * (1 + 2 * u)
  | 0 => ⟨0, rfl⟩
  | e + 1 => by
    obtain ⟨u, h⟩ := fiveN_two e
    obtain ⟨q, hq⟩ := five_pow e
    have e0 : (2 : Nat) ^ (e + 1) = 2 ^ e + 2 ^ e := by rw [Nat.pow_succ]; omega
    have e1 : (2 : Nat) ^ (e + 2) = 4 * 2 ^ e := by rw [Nat.pow_succ, Nat.pow_succ]; omega
    refine ⟨u + 2 ^ e * q + 2 * (2 ^ e * q * u), ?_⟩
    rw [e0, fiveN_add, hq, h, e1]
    generalize (2 : Nat) ^ e = x
    have h1 : (1 + 4 * x * q) * (x * (1 + 2 * u)) = x * (1 + 2 * u) + 4 * x * q * (x * (1 + 2 * u)) := by rw [Nat.add_mul, Nat.one_mul]
    rw [h1]
    have h2 : 4 * x * q * (x * (1 + 2 * u)) = (x + x) * (2 * (x * q + 2 * (x * q * u))) := by
      have a1 : x * (1 + 2 * u) = x + 2 * (x * u) := by rw [Nat.mul_add, Nat.mul_one, Nat.mul_left_comm]
      rw [a1, Nat.mul_add]
      have a2 : (x + x) * (2 * (x * q + 2 * (x * q * u))) = 4 * x * (x * q) + 8 * x * (x * q * u) := by
        rw [← Nat.two_mul, ← Nat.mul_assoc, Nat.mul_add]
        have b1 : 2 * x * 2 = 4 * x := by omega
        rw [b1, ← Nat.mul_assoc (4 * x) 2, show 4 * x * 2 = 8 * x by omega]
      rw [a2]
      have a3 : 4 * x * q * x = 4 * x * (x * q) := by rw [Nat.mul_assoc, Nat.mul_comm q x]
      have a4 : 4 * x * q * (2 * (x * u)) = 8 * x * (x * q * u) := by
        have c1 : 4 * x * q * (2 * (x * u)) = 4 * 2 * (x * (x * q * u)) := by
          simp only [Nat.mul_assoc, Nat.mul_left_comm, Nat.mul_comm]
        rw [c1, show (4 : Nat) * 2 = 8 from rfl, ← Nat.mul_assoc 8 x]
      rw [a3, a4]
    rw [h2]
    have h3 : (x + x) * (1 + 2 * (u + x * q + 2 * (x * q * u))) = (x + x) * (1 + 2 * u) + (x + x) * (2 * (x * q + 2 * (x * q * u))) := by
      rw [← Nat.mul_add]
      congr 1
      omega
    rw [h3, Nat.add_mul x x (1 + 2 * u)]
    omega
/-- 2^e more steps shift by 2^e -/
theorem fiveN_shift (e b : Nat) : fiveN (2 ^ e + b) % 2 ^ (e + 1) = (fiveN b + 2 ^ e) % 2 ^ (e + 1) := by
  obtain ⟨q, hq⟩ := five_pow e
  obtain ⟨u, hu⟩ := fiveN_two e
  rw [fiveN_add, hq, hu]
  have e1 : (2 : Nat) ^ (e + 2) = 2 * 2 ^ (e + 1) := by rw [Nat.pow_succ 2 (e + 1), Nat.mul_comm]
  have e0 : (2 : Nat) ^ (e + 1) = 2 * 2 ^ e := by rw [Nat.pow_succ, Nat.mul_comm]
  have h1 : (1 + 2 ^ (e + 2) * q) * fiveN b + 2 ^ e * (1 + 2 * u) = (fiveN b + 2 ^ e) + 2 ^ (e + 1) * (2 * q * fiveN b + u) := by
    rw [e1, Nat.add_mul, Nat.one_mul, Nat.mul_add (2 ^ e), Nat.mul_one, Nat.mul_add (2 ^ (e + 1))]
    have a1 : 2 * 2 ^ (e + 1) * q * fiveN b = 2 ^ (e + 1) * (2 * q * fiveN b) := by
      rw [Nat.mul_comm 2 (2 ^ (e + 1)), Nat.mul_assoc, Nat.mul_assoc, Nat.mul_assoc]
    have a2 : 2 ^ e * (2 * u) = 2 ^ (e + 1) * u := by rw [e0, Nat.mul_comm 2 (2 ^ e), Nat.mul_assoc]
    rw [a1, a2]
    omega
  rw [h1, Nat.add_mul_mod_self_left]
theorem fiveN_onto : ∀ (e j : Nat), j < 2 ^ e → ∃ b, b < 2 ^ e ∧ fiveN b % 2 ^ e = j
  | 0, j, h => ⟨0, by decide, by
    have : j = 0 := by simpa using h
    rw [this]; rfl⟩
  | e + 1, j, h => by
    have e0 : (2 : Nat) ^ (e + 1) = 2 * 2 ^ e := by rw [Nat.pow_succ, Nat.mul_comm]
    have hp : 0 < (2 : Nat) ^ e := Nat.pow_pos (by decide)
    obtain ⟨b, hb, he⟩ := fiveN_onto e (j % 2 ^ e) (Nat.mod_lt _ hp)
    have hs := fiveN_shift e b
    have hd : (fiveN b % 2 ^ (e + 1)) % 2 ^ e = j % 2 ^ e := by
      rw [e0, Nat.mod_mul_left_mod]; exact he
    have hlt : fiveN b % 2 ^ (e + 1) < 2 ^ (e + 1) := Nat.mod_lt _ (by omega)
    have hadd : (fiveN b + 2 ^ e) % 2 ^ (e + 1) = (fiveN b % 2 ^ (e + 1) + 2 ^ e) % 2 ^ (e + 1) := by rw [Nat.mod_add_mod]
    rw [hadd] at hs
    generalize hvv : fiveN b % 2 ^ (e + 1) = v at *
    by_cases c : v = j
    · exact ⟨b, by omega, hvv.trans c⟩
    · refine ⟨2 ^ e + b, by omega, ?_⟩
      rw [hs]
      rw [e0] at hlt h ⊢
      generalize (2 : Nat) ^ e = x at *
      have dv : v / x < 2 := Nat.div_lt_of_lt_mul (by omega)
      have dj : j / x < 2 := Nat.div_lt_of_lt_mul (by omega)
      have mv := Nat.div_add_mod v x
      have mj := Nat.div_add_mod j x
      generalize v / x = vq at *
      generalize j / x = jq at *
      have hm : v % x < x := Nat.mod_lt _ hp
      have cv : vq = 0 ∨ vq = 1 := by omega
      have cj : jq = 0 ∨ jq = 1 := by omega
      rcases cv with rfl | rfl
      · rcases cj with rfl | rfl
        · rw [Nat.mul_zero] at mv mj; omega
        · rw [Nat.mul_zero] at mv
          rw [Nat.mul_one] at mj
          rw [Nat.mod_eq_of_lt (by omega)]; omega
      · rcases cj with rfl | rfl
        · rw [Nat.mul_zero] at mj
          rw [Nat.mul_one] at mv
          rw [show v + x = v % x + 2 * x by omega, Nat.add_mod_right, Nat.mod_eq_of_lt (by omega)]; omega
        · rw [Nat.mul_one] at mv mj; omega
/-! ### masks 2^e - 1 -/
def MaskP (m : Nat) : Prop := ∃ e, 3 ≤ e ∧ e ≤ 24 ∧ m + 1 = 2 ^ e
theorem lcg_five {m e : Nat} (he : m + 1 = 2 ^ e) : ∀ k, lcgN m k = fiveN k % 2 ^ e
  | 0 => by show 0 = 0 % 2 ^ e; rw [Nat.zero_mod]
  | k + 1 => by
    show (lcgN m k * 5 + 1) % (m + 1) = (5 * fiveN k + 1) % 2 ^ e
    rw [lcg_five he k, he, Nat.mul_comm (fiveN k % 2 ^ e) 5, Nat.add_mod, Nat.mul_mod, Nat.mod_mod, ← Nat.mul_mod, ← Nat.add_mod]
theorem lcg_back {m e : Nat} (he : m + 1 = 2 ^ e) : ∀ k, lcgN m (m + 1 + k) = lcgN m k
  | 0 => by
    obtain ⟨u, hu⟩ := fiveN_two e
    show lcgN m (m + 1) = lcgN m 0
    rw [lcg_five he, lcg_five he, he, hu, Nat.mul_mod_right]
    show 0 = 0 % 2 ^ e
    rw [Nat.zero_mod]
  | k + 1 => by
    show (lcgN m (m + 1 + k) * 5 + 1) % (m + 1) = (lcgN m k * 5 + 1) % (m + 1)
    rw [lcg_back he k]
theorem lcg_to {m : Nat} (hm : MaskP m) {i j : Nat} (hi : i ≤ m) (hj : j ≤ m) : ∃ k, k ≤ m ∧ lcgI m i k = j := by
  obtain ⟨e, _, _, he⟩ := hm
  obtain ⟨a, ha, ea⟩ := fiveN_onto e i (by omega)
  obtain ⟨b, hb, eb⟩ := fiveN_onto e j (by omega)
  rw [← lcg_five he] at ea eb
  rw [← ea]
  by_cases c : a ≤ b
  · exact ⟨b - a, by omega, by rw [lcgN_add, show a + (b - a) = b by omega, eb]⟩
  · exact ⟨b + (m + 1) - a, by omega, by rw [lcgN_add, show a + (b + (m + 1) - a) = m + 1 + b by omega, lcg_back he, eb]⟩
theorem way_to {m : Nat} (hm : MaskP m) (h : Int) {j : Nat} (hj : j ≤ m) : ∃ n, n ≤ m + 12 ∧ runI m (SetTable.bits h) n = j := by
  obtain ⟨k, hk, e⟩ := lcg_to hm (runI_le m (SetTable.bits h) 12) hj
  exact ⟨12 + k, by omega, (runI_tail (bits_lt h) k).trans e⟩
theorem way_meets {m : Nat} (hm : MaskP m) (h : Int) {j : Nat} (hj : j ≤ m) : ∃ k, k < 10 * SetTable.turns m ∧ way m h k = j := by
  obtain ⟨n, hn, e⟩ := way_to hm h hj
  obtain ⟨k, hk, e2⟩ := run_nth m (SetTable.bits h) n
  refine ⟨k, by unfold SetTable.turns; omega, (congrArg SetTable.Probe.j e2).trans e⟩
end Ev

/-! EwH: tables of any size: searching, putting, laying anew. -/
namespace Ev
open PySem PySem.Spec PyProof.Rows L2
/-- the way of a hash is within the table -/
theorem way_in (m : Nat) (h : Int) (k : Nat) : way m h k ≤ m := by
  have b0 : SetTable.bits h % (m + 1) ≤ m := by have := Nat.mod_lt (SetTable.bits h) (show 0 < m + 1 by omega); omega
  have b1 := (runEnd_bd b0).1
  have b2 := nth_in (m := m) k (runAt m (SetTable.bits h % (m + 1)) (SetTable.bits h)) (by
    have b3 := (runEnd_bd b0).2.1
    unfold runAt
    dsimp only
    omega)
  exact Nat.le_trans (Nat.le_add_right _ _) b2
structure TabB (t : SetTable) (hs : List Int) : Prop where
  up : Ris t.place.toList
  clean : t.dummies = #[]
  many : t.place.toList.length = hs.length
  mask : MaskP t.mask
  le : ∀ x ∈ t.place.toList, x ≤ t.mask
  met : ∀ (i : Nat) (h : Int) (j : Nat), hs[i]? = some h → t.place.toList[i]? = some j → ∃ k, way t.mask h k = j ∧ ∀ c < k, way t.mask h c ∈ t.place.toList
section
variable {t : SetTable} {hs : List Int}
/-- a free slot comes on the way of every hash -/
theorem TabB.free (T : TabB t hs) (hl : hs.length ≤ t.mask) (h : Int) : ∃ K, K < 10 * SetTable.turns t.mask ∧ way t.mask h K ∉ t.place.toList ∧ ∀ c < K, way t.mask h c ∈ t.place.toList := by
  have few : t.place.toList.length < t.mask + 1 := by have := T.many; omega
  obtain ⟨j, hj, hn⟩ := st_missing t.place.toList (t.mask + 1) few
  obtain ⟨k, hk, e⟩ := way_meets T.mask h (show j ≤ t.mask by omega)
  have hk' : way t.mask h k ∉ t.place.toList := by rw [e]; exact hn
  obtain ⟨K, z1, z2, z3⟩ := st_least (p := fun c => way t.mask h c ∉ t.place.toList) k hk'
  exact ⟨K, by omega, z2, fun c hc => Classical.byContradiction fun z => z3 c hc z⟩
theorem TabB.ahead (T : TabB t hs) {h : Int} {K i j : Nat} (hK : way t.mask h K ∉ t.place.toList) (hi : hs[i]? = some h) (hj : t.place.toList[i]? = some j) : ∃ k < K, way t.mask h k = j := by
  obtain ⟨k, e, hb⟩ := T.met i h j hi hj
  have hjm : j ∈ t.place.toList := List.mem_of_getElem? hj
  refine ⟨k, ?_, e⟩
  by_cases c : k < K
  · exact c
  · by_cases d : K = k
    · subst d; rw [e] at hK; exact absurd hjm hK
    · exact absurd (hb K (by omega)) hK
/-- one more -/
structure PutB (t : SetTable) (hs : List Int) (h : Int) (j : Nat) : Prop where
  at_ : (t.put j).2 = SetTable.below t.place j
  le : SetTable.below t.place j ≤ hs.length
  tab : TabB (t.put j).1 (hs.take (SetTable.below t.place j) ++ h :: hs.drop (SetTable.below t.place j))
  mask : (t.put j).1.mask = t.mask
  led : (t.put j).1.led = t.led
  plain : (t.put j).1.plain = t.plain
  fill : (t.put j).1.fill = hs.length + 1
theorem TabB.put (T : TabB t hs) {h : Int} {K : Nat} (hK : way t.mask h K ∉ t.place.toList) (hb : ∀ c < K, way t.mask h c ∈ t.place.toList) : PutB t hs h (way t.mask h K) := by
  have hin := way_in t.mask h K
  generalize hj : way t.mask h K = j at *
  have pl := put_place t j
  have cut := (below_cut T.up j).1
  have lp : SetTable.below t.place j ≤ t.place.toList.length := by rw [Array.length_toList]; exact cut
  have lh : SetTable.below t.place j ≤ hs.length := by rw [← T.many]; exact lp
  have old : ∀ x, x ∈ t.place.toList → x ∈ (t.put j).1.place.toList := fun x hx => by rw [pl, mem_ins]; exact .inr hx
  have cnt : (t.put j).1.place.toList.length = hs.length + 1 := by rw [pl, len_ins _ lp, T.many]
  have new : t.place[SetTable.below t.place j]? ≠ some j := fun e => hK (by
    rw [← Array.getElem?_toList] at e
    exact List.mem_of_getElem? e)
  have dm := put_dm T.clean j
  refine ⟨rfl, lh, ⟨ris_insert T.up new, dm, by rw [cnt, len_ins _ lh], T.mask, ?_, ?_⟩, rfl, rfl, rfl, ?_⟩
  · intro x hx
    rw [pl, mem_ins] at hx
    rcases hx with rfl | hx
    · exact hin
    · exact T.le x hx
  · intro i g q e1 e2
    rw [tins_get hs lh] at e1
    rw [pl, tins_get _ lp] at e2
    have mono : ∀ {n}, (∃ k, way t.mask g k = q ∧ ∀ c < k, way t.mask g c ∈ t.place.toList) → n = t.mask → ∃ k, way n g k = q ∧ ∀ c < k, way n g c ∈ (t.put j).1.place.toList := by
      rintro n ⟨k, z1, z2⟩ rfl
      exact ⟨k, z1, fun c hc => old _ (z2 c hc)⟩
    by_cases c1 : i < SetTable.below t.place j
    · rw [if_pos c1] at e1 e2
      exact mono (T.met i g q e1 e2) rfl
    · rw [if_neg c1] at e1 e2
      by_cases c2 : i = SetTable.below t.place j
      · rw [if_pos c2] at e1 e2
        cases e1; cases e2
        exact mono ⟨K, hj, hb⟩ rfl
      · rw [if_neg c2] at e1 e2
        exact mono (T.met (i - 1) g q e1 e2) rfl
  · have : (t.put j).1.place.size = hs.length + 1 := by rw [← cnt, Array.length_toList]
    unfold SetTable.fill
    rw [this, dm]
    rfl
end
/-! ### laying anew -/
theorem own_free {m : Nat} (hm : MaskP m) {owner : Array (Option Nat)} (h : Int) {j : Nat} (hj : j ≤ m) (hf : oAt owner j = none) :
    ∃ K, SetTable.layClean.free m owner (SetTable.turns m) (SetTable.bits h % (m + 1)) (SetTable.bits h) = some (way m h K) ∧ oAt owner (way m h K) = none ∧ ∀ c < K, oAt owner (way m h c) ≠ none := by
  obtain ⟨n, hn, e⟩ := way_to hm h hj
  have e1 : way m h (off m (SetTable.bits h % (m + 1)) (SetTable.bits h) n) = j := by
    unfold way
    rw [nth_off, itL_run]
    exact e
  obtain ⟨K, z1, z2, z3⟩ := st_least (p := fun c => oAt owner (way m h c) = none) _ (by rw [e1]; exact hf)
  refine ⟨K, free_spec m owner _ n _ _ K (by unfold SetTable.turns; omega) z1 ?_ ?_, z2, z3⟩
  · intro c hc
    have := z3 c hc
    unfold way at this
    cases o : oAt owner (nth m (runAt m (SetTable.bits h % (m + 1)) (SetTable.bits h)) c).j with
    | none => exact absurd o this
    | some x => rfl
  · unfold way at z2
    rw [z2]; rfl
theorem own_step {m : Nat} (hm : MaskP m) {done : List Int} {owner : Array (Option Nat)} (W : Own m done owner) (hl : done.length ≤ m) (h : Int) :
    ∃ j, SetTable.layClean.free m owner (SetTable.turns m) (SetTable.bits h % (m + 1)) (SetTable.bits h) = some j ∧ Own m (done ++ [h]) (owner.setIfInBounds j (some done.length)) := by
  obtain ⟨ps, pl, pi⟩ := W.ps
  obtain ⟨j0, l0, n0⟩ := st_missing ps (m + 1) (by omega)
  have f0 : oAt owner j0 = none := Classical.byContradiction fun z => n0 (pi j0 (by omega) z)
  obtain ⟨K, e1, e2, e3⟩ := own_free hm h (show j0 ≤ m by omega) f0
  have wi := way_in m h K
  refine ⟨_, e1, ?_⟩
  generalize hw : way m h K = j at *
  have js : j < owner.size := by rw [W.sz]; omega
  have here := oAt_set_self (some done.length) js
  have there : ∀ i, i ≠ j → oAt (owner.setIfInBounds j (some done.length)) i = oAt owner i := fun i hi => oAt_set_ne _ hi
  have full : ∀ i, oAt owner i ≠ none → oAt (owner.setIfInBounds j (some done.length)) i ≠ none := fun i hi => by
    by_cases c : i = j
    · subst c; rw [here]; simp
    · rw [there i c]; exact hi
  constructor
  · rw [Array.size_setIfInBounds]; exact W.sz
  · intro i k hi e
    by_cases c : i = j
    · subst c
      rw [here] at e
      cases e
      exact ⟨h, K, by simp, hw, fun c hc => full _ (e3 c hc)⟩
    · rw [there i c] at e
      obtain ⟨g, q, a1, a2, a3⟩ := W.at_ i k hi e
      refine ⟨g, q, ?_, a2, fun c hc => full _ (a3 c hc)⟩
      rw [List.getElem?_append_left (List.getElem?_eq_some_iff.mp a1).1, a1]
  · intro k hk
    by_cases c : k < done.length
    · obtain ⟨i, a1, a2⟩ := W.all k c
      refine ⟨i, a1, ?_⟩
      rw [there i (fun z => by subst z; rw [e2] at a2; cases a2), a2]
    · have : k = done.length := by rw [List.length_append, List.length_singleton] at hk; omega
      exact ⟨j, wi, by rw [this]; exact here⟩
  · refine ⟨j :: ps, by simp [pl], fun i hi e => ?_⟩
    by_cases c : i = j
    · simp [c]
    · rw [there i c] at e
      exact List.mem_cons_of_mem _ (pi i hi e)
theorem own_fold {m : Nat} (hm : MaskP m) : ∀ (rest done : List Int) (owner : Array (Option Nat)), Own m done owner → done.length + rest.length ≤ m → ∃ o2, rest.foldl (stepF m) (some (owner, done.length)) = some (o2, done.length + rest.length) ∧ Own m (done ++ rest) o2
  | [], done, owner, W, _ => ⟨owner, rfl, by rw [List.append_nil]; exact W⟩
  | h :: rest, done, owner, W, hl => by
    have l1 : (h :: rest).length = rest.length + 1 := rfl
    rw [l1] at hl
    obtain ⟨j, e, W1⟩ := own_step hm W (by omega) h
    have l2 : (done ++ [h]).length = done.length + 1 := by simp
    obtain ⟨o2, e2, W2⟩ := own_fold hm rest (done ++ [h]) _ W1 (by omega)
    rw [l2, List.append_assoc] at *
    refine ⟨o2, ?_, W2⟩
    rw [List.foldl_cons, stepF_some e, e2, l1]
    congr 2
    omega
theorem own_clean {m : Nat} (hm : MaskP m) (hs : Array Int) (hn : hs.size ≤ m) : ∃ owner, SetTable.layClean m hs = some owner ∧ Own m hs.toList owner := by
  obtain ⟨o2, e, W⟩ := own_fold hm hs.toList [] _ (Own.init m) (by simpa using hn)
  exact ⟨o2, by rw [layClean_eq]; exact (congrArg (Option.map (·.1)) e).trans rfl, W⟩
structure RelB (t t' : SetTable) (hs : Array Int) (order : Array Nat) (M : Nat) : Prop where
  perm : order.toList.Perm (List.range hs.size)
  tab : TabB t' (order.toList.map fun i => hs.getD i 0)
  mask : t'.mask = M
  led : t'.led = t.led
  plain : t'.plain = t.plain
theorem relaid_big (t : SetTable) {hs : Array Int} {wanted M : Nat} (hw : SetTable.sizeAbove wanted - 1 = M) (hM : MaskP M) (hn : hs.size ≤ M) : ∃ t' order, t.relaid hs wanted = some (t', order) ∧ RelB t t' hs order M := by
  obtain ⟨owner, e, W⟩ := own_clean hM hs hn
  subst hw
  refine ⟨_, _, by rw [relaid_eq, e]; rfl, ?_⟩
  generalize SetTable.sizeAbove wanted - 1 = M at *
  have rl := ris_live (fun j => owner.getD j none) (List.range (M + 1)) (by unfold Ris; first | exact List.pairwise_lt_range | exact List.pairwise_lt_range _)
  have r1 : Ris ((liveOf M owner).map (·.1)) := rl.1
  have nd : ((liveOf M owner).map (·.1)).Nodup := r1.imp fun h => Nat.ne_of_lt h
  have two : ∀ k < hs.size, k ∈ (liveOf M owner).map (·.2) := fun k hk => by
    obtain ⟨j, b1, b2⟩ := W.all k (by simpa using hk)
    exact List.mem_map.mpr ⟨(j, k), (mem_live W.sz).mpr ⟨b1, b2⟩, rfl⟩
  have len : (liveOf M owner).length = hs.size := by
    obtain ⟨ps, p1, p2⟩ := W.ps
    have up := nat_nodup_len _ ps nd fun x hx => by
      obtain ⟨⟨y, k⟩, hq, rfl⟩ := List.mem_map.mp hx
      obtain ⟨b1, b2⟩ := (mem_live W.sz).mp hq
      exact p2 _ b1 (by rw [b2]; simp)
    have dn := nat_nodup_len (List.range hs.size) _ List.nodup_range fun k hk => two k (by simpa using hk)
    rw [List.length_map, p1] at up
    rw [List.length_map, List.length_range] at dn
    have z : hs.toList.length = hs.size := rfl
    omega
  have good : TabB (tabOf t M owner) (((liveOf M owner).map (·.2)).map fun i => hs.getD i 0) := by
    refine ⟨r1, rfl, ?_, hM, ?_, ?_⟩
    · show ((liveOf M owner).map (·.1)).length = _
      simp only [List.length_map]
    · intro x hx
      obtain ⟨⟨y, k⟩, hq, rfl⟩ := List.mem_map.mp (show x ∈ (liveOf M owner).map (·.1) from hx)
      exact ((mem_live W.sz).mp hq).1
    · intro i h j h1 h2
      have h2' : ((liveOf M owner).map (·.1))[i]? = some j := h2
      rw [List.getElem?_map] at h2'
      rw [List.getElem?_map, List.getElem?_map] at h1
      obtain ⟨⟨y, k⟩, hq, rfl⟩ := Option.map_eq_some_iff.mp h2'
      rw [hq] at h1
      simp only [Option.map_some, Option.some.injEq] at h1
      obtain ⟨b1, b2⟩ := (mem_live W.sz).mp (List.mem_of_getElem? hq)
      obtain ⟨g, K, a1, a2, a3⟩ := W.at_ y k b1 b2
      have eg : g = h := by
        rw [← h1, Array.getD_eq_getD_getElem?, ← Array.getElem?_toList, a1]; rfl
      subst eg
      refine ⟨K, a2, fun c hc => ?_⟩
      obtain ⟨k2, z⟩ := Option.ne_none_iff_exists'.mp (a3 c hc)
      exact List.mem_map.mpr ⟨(way M g c, k2), (mem_live W.sz).mpr ⟨way_in M g c, z⟩, rfl⟩
  exact ⟨perm_range hs.size _ (by show ((liveOf M owner).map (·.2)).length = _; rw [List.length_map]; exact len) two, good, rfl, rfl, rfl⟩
end Ev

/-! EwI: the hashes of pairs of small numbers differ. -/
namespace Ev
open PySem PySem.Spec PyProof.Rows L2
/-- one round of a tuple's hash: turned by 31 bits, times an odd number -/
def hRot (y : Nat) : Nat := ((y * 2147483648) % 18446744073709551616 + y / 8589934592) * 11400714785074694791 % 18446744073709551616
def hOne (a : Nat) : Nat := hRot ((2870177450012600261 + a * 14029467366897019727) % 18446744073709551616)
def hTwo (a b : Nat) : Nat := hRot ((hOne a + b * 14029467366897019727) % 18446744073709551616)
theorem mul_back {u P Q : Nat} (hu : u < 18446744073709551616) (h : P * Q % 18446744073709551616 = 1) : u * P % 18446744073709551616 * Q % 18446744073709551616 = u := by
  rw [Nat.mod_mul_mod, Nat.mul_assoc, Nat.mul_mod, h, Nat.mul_one, Nat.mod_mod, Nat.mod_eq_of_lt hu]
theorem turn_eq (y : Nat) : (y * 2147483648) % 18446744073709551616 = (y % 8589934592) * 2147483648 := by
  have e : 18446744073709551616 = 8589934592 * 2147483648 := by decide
  rw [e, Nat.mul_mod_mul_right]
theorem turn_lt {y : Nat} (hy : y < 18446744073709551616) : y / 8589934592 < 2147483648 := Nat.div_lt_of_lt_mul hy
theorem two_parts {a b c d k : Nat} (hb : b < k) (hd : d < k) (h : a * k + b = c * k + d) : a = c ∧ b = d := by
  have hk : 0 < k := by omega
  have h1 : (a * k + b) / k = (c * k + d) / k := by rw [h]
  have h2 : (a * k + b) % k = (c * k + d) % k := by rw [h]
  rw [Nat.add_comm, Nat.add_comm (c * k), Nat.add_mul_div_right _ _ hk, Nat.add_mul_div_right _ _ hk, Nat.div_eq_of_lt hb, Nat.div_eq_of_lt hd, Nat.zero_add, Nat.zero_add] at h1
  rw [Nat.add_comm, Nat.add_comm (c * k), Nat.add_mul_mod_self_right, Nat.add_mul_mod_self_right, Nat.mod_eq_of_lt hb, Nat.mod_eq_of_lt hd] at h2
  exact ⟨h1, h2⟩
theorem turn_small {y : Nat} (hy : y < 18446744073709551616) : (y * 2147483648) % 18446744073709551616 + y / 8589934592 < 18446744073709551616 := by
  rw [turn_eq]
  have h1 : y % 8589934592 ≤ 8589934591 := Nat.le_of_lt_succ (Nat.mod_lt _ (by decide))
  have h2 := Nat.mul_le_mul_right 2147483648 h1
  have h3 := turn_lt hy
  exact Nat.lt_of_lt_of_le (Nat.add_lt_add_of_le_of_lt h2 h3) (by decide)
theorem hRot_inj {y z : Nat} (hy : y < 18446744073709551616) (hz : z < 18446744073709551616) (h : hRot y = hRot z) : y = z := by
  have e : 11400714785074694791 * 614540362697595703 % 18446744073709551616 = 1 := by decide
  unfold hRot at h
  have a := mul_back (turn_small hy) e
  have b := mul_back (turn_small hz) e
  rw [h, b, turn_eq, turn_eq] at a
  obtain ⟨h1, h2⟩ := two_parts (turn_lt hz) (turn_lt hy) a
  rw [← Nat.div_add_mod y 8589934592, ← Nat.div_add_mod z 8589934592, h1, h2]
def hE (a : Nat) : Nat := hOne a * 839798700976720815 % 18446744073709551616
theorem hE_two (a b : Nat) : (hOne a + b * 14029467366897019727) % 18446744073709551616 * 839798700976720815 % 18446744073709551616 = (hE a + b) % 18446744073709551616 := by
  have e : 14029467366897019727 * 839798700976720815 % 18446744073709551616 = 1 := by decide
  unfold hE
  rw [Nat.mod_mul_mod, Nat.add_mul, Nat.mul_assoc, Nat.add_mod, Nat.mul_mod b, e, Nat.mul_one, Nat.mod_mod, ← Nat.add_mod, Nat.mod_add_mod]
def hL : List Nat := [7306349728055554319, 12418310136014612966, 10049765409666327412, 7996499203468434507, 5627954477120148953, 10739914885079207600, 8686648678881314695, 6318103952533029141, 4264837746335136236, 1896293019986850682, 7008253427945909329, 4639708701597623775, 2586442495399730870, 533176289201837965, 5329858177010503963, 3276591970812611058, 908047244464325504, 17301525111975984215, 3651462926075098597, 1598196719877205692, 17991674587388864403, 15623129861040578849, 2288346195290085880, 18366545542651351942, 16313279336453459037, 13944734610105173483, 609950944354680514, 17003428811866339225, 14634884085518053671, 12581617879320160766, 17378299767128826764, 15325033560930933859, 13271767354733040954, 10903222628384755400, 8849956422186862495, 13646638309995528493, 11593372103797635588, 9224827377449350034, 7171561171251457129, 12283521579210515776, 9914976852862230222, 7861710646664337317, 5493165920316051763, 10605126328275110410, 8236581601926824856, 6183315395728931951, 4130049189531039046, 8926731077339705044, 6873464871141812139, 4504920144793526585, 2451653938595633680, 7563614346554692327, 5195069620206406773, 3141803414008513868, 773258687660228314, 5885219095619286961, 3516674369271001407, 1463408163073108502, 17856886030584767213, 15488341304236481659, 2153557638485988690, 18231756985847254752, 16178490779649361847, 13809946053301076293, 475162387550583324, 16868640255062242035, 14500095528713956481, 12446829322516063576, 17243511210324729574, 15190245004126836669, 12821700277778551115, 10768434071580658210, 15880394479539716857, 13511849753191431303, 11458583546993538398, 9090038820645252844, 14201999228604311491, 12148733022406418586, 9780188296058133032, 7726922089860240127, 12523603977668906125, 10470337771471013220, 8101793045122727666, 6048526838924834761, 3995260632726941856, 8791942520535607854, 6738676314337714949, 4370131587989429395, 2316865381791536490, 7113547269600202488, 5060281063402309583, 3007014857204416678, 638470130856131124, 5750430538815189771, 3381885812466904217, 1328619606269011312, 17722097473780670023, 4072035287879784405, 2018769081681891500, 18096968429043157562, 16043702222845264657, 2393640036944379039, 340373830746486134, 16733851698258144845, 14365306971909859291, 12312040765711966386, 17108722653520632384, 15055456447322739479, 12686911720974453925, 10633645514776561020, 15745605922735619667, 13377061196387334113, 11323794990189441208, 8955250263841155654, 14067210671800214301, 11698665945451928747, 9645399739254035842, 7592133533056142937, 12388815420864808935, 10335549214666916030, 7967004488318630476, 5913738282120737571, 11025698690079796218, 8657153963731510664, 6603887757533617759, 4235343031185332205, 9347303439144390852, 6978758712796105298, 4925492506598212393, 2872226300400319488, 503681574052033934, 5615641982011092581, 3247097255662807027, 1193831049464914122, 17272030396826180184, 3937246731075687215, 1883980524877794310, 17962179872239060372, 15908913666041167467, 2258851480140281849, 205585273942388944, 16599063141454047655, 14230518415105762101, 895734749355269132, 16973934096716535194, 14920667890518642289, 12552123164170356735, 17664083572129415382, 15610817365931522477, 13242272639583236923, 11189006433385344018, 15985688321194010016, 13932422114996117111, 11563877388647831557, 9510611182449938652, 7457344976252045747, 12254026864060711745, 10200760657862818840, 7832215931514533286, 5778949725316640381, 10575631613125306379, 8522365406927413474, 6469099200729520569, 4100554474381235015, 9212514882340293662, 6843970155992008108, 4790703949794115203, 2737437743596222298, 7534119631404888296, 5480853425206995391, 3112308698858709837, 1059042492660816932, 5855724380469482930, 3802458174271590025, 1749191968073697120, 17827391315434963182, 15774125109237070277, 2124062923336184659, 70796717138291754, 16148996064499557816, 14095729858301664911, 760946192551171942, 16839145539912438004, 14785879333714545099, 12417334607366259545, 17529295015325318192, 15476028809127425287, 13107484082779139733, 11054217876581246828, 15850899764389912826, 13797633558192019921, 11429088831843734367, 9375822625645841462, 14487783033604900109, 12119238307256614555, 10065972101058721650, 7697427374710436096, 12809387782669494743, 10440843056321209189, 8387576850123316284, 6334310643925423379, 3965765917577137825, 9077726325536196472, 6709181599187910918, 4655915392990018013, 2287370666641732459, 7399331074600791106, 5346064868402898201, 2977520142054612647, 924253935856719742, 5720935823665385740, 3667669617467492835, 1614403411269599930, 17692602758630865992, 4357819092880373023, 1989274366532087469, 18382752234043746180, 16014207507695460626, 2679423841944967657, 626157635747074752, 16704356983108340814, 14651090776910447909, 1001028591009562291, 17394506458521221002, 15025961732172935448, 12972695525975042543, 10919429319777149638, 15716111207585815636, 13662845001387922731, 11294300275039637177, 9241034068841744272, 14352994476800802919, 11984449750452517365, 9931183544254624460, 7562638817906338906, 12674599225865397553, 10306054499517111999, 8252788293319219094, 6199522087121326189, 10996203974929992187, 8942937768732099282, 6574393042383813728, 4521126836185920823, 9317808723994586821, 7264542517796693916, 5211276311598801011, 2842731585250515457, 789465379052622552, 5586147266861288550, 3532881060663395645, 1164336334315110091, 17557814201826768802, 4223030536076275833, 1854485809727990279, 18247963677239648990, 15879418950891363436]
theorem hL_eq : (List.range 256).map hE = hL := by decide +kernel
theorem hL_far : (hL.all fun x => hL.all fun y => Nat.beq x y || (Nat.ble 256 (Nat.mod (x + 18446744073709551616 - y) 18446744073709551616) && Nat.ble 256 (Nat.mod (y + 18446744073709551616 - x) 18446744073709551616))) = true := by decide +kernel
theorem hL_end : (hL.all fun x => Nat.ble 256 (Nat.mod (15746002411462551884 + 18446744073709551616 - x) 18446744073709551616)) = true := by decide +kernel
theorem hL_nd : hL.Nodup := by decide +kernel
theorem hE_mem {a : Nat} (h : a < 256) : hE a ∈ hL := by
  rw [← hL_eq]
  exact List.mem_map.mpr ⟨a, by simpa using h, rfl⟩
theorem hE_lt (a : Nat) : hE a < 18446744073709551616 := Nat.mod_lt _ (by decide)
theorem hE_inj {a b : Nat} (ha : a < 256) (hb : b < 256) (h : hE a = hE b) : a = b := by
  have n := hL_nd
  rw [← hL_eq] at n
  have := List.getElem_inj (xs := (List.range 256).map hE) (i := a) (j := b) (h₀ := by simpa using ha) (h₁ := by simpa using hb) n
  exact this.mp (by simpa using h)
theorem hTwo_inj {a b c d : Nat} (ha : a < 256) (hb : b < 256) (hc : c < 256) (hd : d < 256) (h : hTwo a b = hTwo c d) : a = c ∧ b = d := by
  have h1 := hRot_inj (Nat.mod_lt _ (by decide)) (Nat.mod_lt _ (by decide)) h
  have h2 := congrArg (fun z => z * 839798700976720815 % 18446744073709551616) h1
  simp only [hE_two] at h2
  have l1 := hE_lt a
  have l2 := hE_lt c
  have far := List.all_eq_true.mp (List.all_eq_true.mp hL_far _ (hE_mem ha)) _ (hE_mem hc)
  simp only [Bool.or_eq_true, Bool.and_eq_true, Nat.beq_eq, Nat.ble_eq] at far
  have inj := hE_inj ha hc
  generalize hE a = x at *
  generalize hE c = y at *
  have m1 : Nat.mod (x + 18446744073709551616 - y) 18446744073709551616 = (x + 18446744073709551616 - y) % 18446744073709551616 := rfl
  have m2 : Nat.mod (y + 18446744073709551616 - x) 18446744073709551616 = (y + 18446744073709551616 - x) % 18446744073709551616 := rfl
  rw [m1, m2] at far
  by_cases e : x = y
  · have := inj e
    subst this
    refine ⟨rfl, ?_⟩
    omega
  · exfalso
    rcases far with far | ⟨f1, f2⟩
    · exact e far
    · omega
theorem hTwo_end {a b : Nat} (ha : a < 256) (hb : b < 256) : (hTwo a b + 2870177450013471924) % 18446744073709551616 ≠ 18446744073709551615 := by
  intro h
  have ht : hTwo a b < 18446744073709551616 := Nat.mod_lt _ (by decide)
  have e : hTwo a b = hRot 9148689060682678900 := by
    have : hRot 9148689060682678900 = 15576566623696079691 := by decide
    rw [this]
    omega
  have h1 := hRot_inj (Nat.mod_lt _ (by decide)) (by decide) e
  have h2 := congrArg (fun z => z * 839798700976720815 % 18446744073709551616) h1
  simp only [hE_two] at h2
  have e2 : 9148689060682678900 * 839798700976720815 % 18446744073709551616 = 15746002411462551884 := by decide
  rw [e2] at h2
  have l1 := hE_lt a
  have far := List.all_eq_true.mp hL_end _ (hE_mem ha)
  rw [Nat.ble_eq] at far
  generalize hE a = x at *
  have m1 : Nat.mod (15746002411462551884 + 18446744073709551616 - x) 18446744073709551616 = (15746002411462551884 + 18446744073709551616 - x) % 18446744073709551616 := rfl
  rw [m1] at far
  omega
end Ev

/-! EwJ: sets of pairs of small numbers, of any size: the search. -/
namespace Ev
open PySem PySem.Spec PyProof.Rows L2
/-- a pair of numbers below 256 -/
def Sm2 (k : List Int) : Prop := ∃ a b : Nat, a < 256 ∧ b < 256 ∧ k = [(a : Int), (b : Int)]
theorem hashInt_sm : ((List.range 256).all fun a => hashInt (a : Int) == (a : Int)) = true := by decide +kernel
theorem hashInt_eq {a : Nat} (h : a < 256) : hashInt (a : Int) = (a : Int) := by
  have := List.all_eq_true.mp hashInt_sm a (by simpa using h)
  exact beq_iff_eq.mp this
def hFin (x : Nat) : Int := if x == 18446744073709551615 then 1546275796 else if x < 9223372036854775808 then x else (x : Int) - 18446744073709551616
theorem hFin_inj {x y : Nat} (hx : x < 18446744073709551616) (hy : y < 18446744073709551616) (nx : x ≠ 18446744073709551615) (ny : y ≠ 18446744073709551615) (h : reduceHash (hFin x) = reduceHash (hFin y)) : x = y := by
  have key : ∀ z : Nat, z < 18446744073709551616 → z ≠ 18446744073709551615 → reduceHash (hFin z) = if z < 9223372036854775808 then (z : Int) else (z : Int) - 18446744073709551616 := by
    intro z hz nz
    have e : hFin z = if z < 9223372036854775808 then (z : Int) else (z : Int) - 18446744073709551616 := by
      unfold hFin
      rw [if_neg (by simpa using nz)]
    rw [e]
    unfold reduceHash
    have e63 : (2 : Int) ^ 63 = 9223372036854775808 := by decide
    rw [e63]
    by_cases c : z < 9223372036854775808
    · rw [if_pos c]
      have c1 : (decide (-(9223372036854775808 : Int) ≤ (z : Int)) && decide ((z : Int) < 9223372036854775808)) = true := by
        rw [Bool.and_eq_true, decide_eq_true_eq, decide_eq_true_eq]; omega
      rw [if_pos c1, if_neg (by rw [beq_iff_eq]; omega)]
    · rw [if_neg c]
      have c1 : (decide (-(9223372036854775808 : Int) ≤ (z : Int) - 18446744073709551616) && decide ((z : Int) - 18446744073709551616 < 9223372036854775808)) = true := by
        rw [Bool.and_eq_true, decide_eq_true_eq, decide_eq_true_eq]; omega
      rw [if_pos c1, if_neg (by rw [beq_iff_eq]; omega)]
  rw [key x hx nx, key y hy ny] at h
  by_cases c1 : x < 9223372036854775808 <;> by_cases c2 : y < 9223372036854775808 <;> simp only [c1, c2, if_true, if_false] at h <;> omega
/-- a round, the modulus left open -/
def rndG (m p q acc : Nat) (h : Int) : Nat := (((acc + (h % (m : Int)).toNat * q) % m * 2 ^ 31) % m + (acc + (h % (m : Int)).toNat * q) % m / 2 ^ 33) * p % m
def finG (m : Nat) (x : Nat) : Int := if x == m - 1 then 1546275796 else if x < 2 ^ 63 then x else (x : Int) - m
theorem tupHash_raw (x y : Int) : Builtin.Tuple.tupleHashOf [x, y] = finG (2 ^ 64) ((rndG (2 ^ 64) 11400714785074694791 14029467366897019727 (rndG (2 ^ 64) 11400714785074694791 14029467366897019727 2870177450012600261 x) y + (2 ^^^ (2870177450012600261 ^^^ 3527539))) % 2 ^ 64) := by
  have l2 : ([x, y] : List Int).length = 2 := rfl
  unfold Builtin.Tuple.tupleHashOf finG rndG
  dsimp only
  rw [l2, List.foldl_cons, List.foldl_cons, List.foldl_nil]
theorem rndG_nat {m p q acc a : Nat} (h : a < m) : rndG m p q acc (a : Int) = (((acc + a * q) % m * 2 ^ 31) % m + (acc + a * q) % m / 2 ^ 33) * p % m := by
  have e : ((a : Int) % (m : Int)).toNat = a := by
    rw [Int.emod_eq_of_lt (by omega) (by omega)]; rfl
  unfold rndG
  rw [e]
theorem tupHash_two {a b : Nat} (ha : a < 256) (hb : b < 256) : Builtin.Tuple.tupleHashOf [(a : Int), (b : Int)] = hFin ((hTwo a b + 2870177450013471924) % 18446744073709551616) := by
  have e64 : (2 : Nat) ^ 64 = 18446744073709551616 := by decide
  have e31 : (2 : Nat) ^ 31 = 2147483648 := by decide
  have e33 : (2 : Nat) ^ 33 = 8589934592 := by decide
  have e63 : (2 : Nat) ^ 63 = 9223372036854775808 := by decide
  have ex : (2 ^^^ (2870177450012600261 ^^^ 3527539) : Nat) = 2870177450013471924 := by decide
  have big : (256 : Nat) ≤ 2 ^ 64 := by decide
  have r1 : rndG (2 ^ 64) 11400714785074694791 14029467366897019727 2870177450012600261 (a : Int) = hOne a := by
    rw [rndG_nat (Nat.lt_of_lt_of_le ha big), e64, e31, e33]
    unfold hOne hRot
    rfl
  have r2 : rndG (2 ^ 64) 11400714785074694791 14029467366897019727 (hOne a) (b : Int) = hTwo a b := by
    rw [rndG_nat (Nat.lt_of_lt_of_le hb big), e64, e31, e33]
    unfold hTwo hRot
    rfl
  have f : ∀ x, finG (2 ^ 64) x = hFin x := fun x => by
    unfold finG hFin
    rw [e64]
    simp only [e63]
    rfl
  rw [tupHash_raw, r1, r2, ex, f, e64]
section
variable {P : Program} {w : World} {A : Around} {E : Value → Shared → Prop} {s : Shared}
theorem thash_inj {k q : List Int} (hk : Sm2 k) (hq : Sm2 q) (h : thash P w k = thash P w q) : k = q := by
  obtain ⟨a, b, ha, hb, rfl⟩ := hk
  obtain ⟨c, d, hc, hd, rfl⟩ := hq
  have hh : ∀ x y : Nat, x < 256 → y < 256 → thash P w [(x : Int), (y : Int)] = reduceHash (hFin ((hTwo x y + 2870177450013471924) % 18446744073709551616)) := fun x y hx hy => by
    show reduceHash (Builtin.Tuple.tupleHashOf [hashInt (x : Int), hashInt (y : Int)]) = _
    rw [hashInt_eq hx, hashInt_eq hy, tupHash_two hx hy]
  rw [hh a b ha hb, hh c d hc hd] at h
  have e := hFin_inj (Nat.mod_lt _ (by decide)) (Nat.mod_lt _ (by decide)) (hTwo_end ha hb) (hTwo_end hc hd) h
  have l1 : hTwo a b < 18446744073709551616 := Nat.mod_lt _ (by decide)
  have l2 : hTwo c d < 18446744073709551616 := Nat.mod_lt _ (by decide)
  have e2 : hTwo a b = hTwo c d := by
    generalize hTwo a b = u at *
    generalize hTwo c d = v at *
    omega
  obtain ⟨rfl, rfl⟩ := hTwo_inj ha hb hc hd e2
  rfl
/-- a set of small pairs, L its members by address -/
structure SetB (P : Program) (w : World) (h : Heap) (a : Addr) (L : List (Addr × List Int)) (es : Array (Int × Value)) (ep : Nat) (t : SetTable) : Prop where
  ob : ∃ o, h.get? a = some o ∧ o.ExactSet ∧ o.data = .set es ep t
  rows : es.toList = rowsOf P w L
  tab : TabB t (L.map fun p => thash P w p.2)
  one : (L.map (·.2)).Nodup
  tup : ∀ p ∈ L, IsT P w h p.2 p.1
  plain : t.plain = true
  led : w.params.followText "set-order" = true ∨ t.led = true
  room : L.length * 5 < t.mask * 3
  key : ∀ p ∈ L, Sm2 p.2
variable {a : Addr} {L : List (Addr × List Int)} {es : Array (Int × Value)} {ep : Nat} {t : SetTable}
theorem rows_len {es : Array (Int × Value)} {L : List (Addr × List Int)} (h : es.toList = rowsOf P w L) : es.size = L.length := by
  have := congrArg List.length h
  unfold rowsOf at this
  rwa [Array.length_toList, List.length_map] at this
theorem fits_of {n : Nat} (h1 : t.place.toList.length = n) (h2 : t.dummies = #[]) (h3 : n ≤ t.mask) : t.fits n = true := by
  rw [Array.length_toList] at h1
  simp [SetTable.fits, SetTable.fill, h1, h2, h3]
theorem SetB.fits (R : SetB P w s.heap a L es ep t) : t.fits es.size = true := by
  have h1 := R.tab.many
  have h2 := R.room
  rw [List.length_map] at h1
  rw [rows_len R.rows]
  exact fits_of h1 R.tab.clean (by omega)
theorem SetB.row (R : SetB P w s.heap a L es ep t) {i : Nat} {p : Addr × List Int} (h : L[i]? = some p) : es[i]? = some (thash P w p.2, Value.ref p.1) := by
  rw [← Array.getElem?_toList, R.rows, rowsOf, List.getElem?_map, h]
  rfl
theorem mask_two {m : Nat} (h : MaskP m) : m % 2 = 1 := by
  obtain ⟨e, h3, _, he⟩ := h
  obtain ⟨d, rfl⟩ : ∃ d, e = d + 1 := ⟨e - 1, by omega⟩
  rw [Nat.pow_succ] at he
  omega
theorem SetB.odd (R : SetB P w s.heap a L es ep t) : ¬ t.gaveWay = true := by
  simp [SetTable.gaveWay, mask_two R.tab.mask]
/-- the search meets the key itself, or the free slot -/
theorem find_big (R : SetB P w s.heap a L es ep t) {x : Addr} {k : List Int} (hx : IsT P w s.heap k x) (hk : Sm2 k) (hu : A.units < cLine) {Q : SetFound → Shared → Prop} (yes : k ∈ L.map (·.2) → Q (.there none) s)
    (no : ∀ K, k ∉ L.map (·.2) → way t.mask (thash P w k) K ∉ t.place.toList → (∀ c < K, way t.mask (thash P w k) c ∈ t.place.toList) → Q (.free (way t.mask (thash P w k) K) false) s) : wpAny (model P w) A (setSearch a (.ref x) (thash P w k) true) Q E s := by
  obtain ⟨o, ho, hex, hd⟩ := R.ob
  have room := R.room
  obtain ⟨K, k1, k2, k3⟩ := R.tab.free (by rw [List.length_map]; omega) (thash P w k)
  have spec := go_spec t R.tab.up R.tab.clean (fun i => (es[i]?.map (·.1)).getD 0) (thash P w k) (10 * SetTable.turns t.mask) K (t.probeStart (thash P w k)) rfl k1 k3 k2
  unfold setSearch
  rw [show (100000 : Nat) = Nat.succ 99999 from rfl, setSearchFrom_succ]
  refine wpAny_bind (wpAny_setState_of ho hd R.fits ?_)
  dsimp only
  refine wp_if_neg R.odd ?_
  try refine wpAny_bind (wpAny_pure ?_)
  rcases spec with ⟨q, i, hq, hi, hh, -, hpr⟩ | ⟨hno, hpr⟩
  · have hp : t.probe (fun i => (es[i]?.map (·.1)).getD 0) (thash P w k) ((none : Option SetTable.Probe).getD (t.probeStart (thash P w k))) = _ := hpr
    rw [hp]
    dsimp only
    have il : i < L.length := by
      have z1 := (List.getElem?_eq_some_iff.mp hi).1
      have z2 := R.tab.many
      rw [List.length_map] at z2
      omega
    have hp1 : L[i]? = some (L[i]) := List.getElem?_eq_getElem il
    generalize L[i] = p at hp1
    have pm : p ∈ L := List.mem_of_getElem? hp1
    have hrow := R.row hp1
    have same : p.2 = k := by
      refine thash_inj (P := P) (w := w) (R.key p pm) hk ?_
      have hh' : (es[i]?.map (·.1)).getD 0 = thash P w k := hh
      rw [hrow] at hh'
      exact hh'
    have rest : ∀ j next, wpAny (model P w) A (searchRest a (.ref x) (thash P w k) true 99999 es t j i next) Q E s := by
      intro j next
      unfold searchRest
      rw [hrow]
      dsimp only
      refine wpAny_bind (wpAny_holding (wpAny_eqBool_tuple hu (R.tup p pm) hx ?_))
      refine wpAny_bind (wpAny_setState_of ho hd R.fits ?_)
      dsimp only
      refine wp_if_pos (by simp [same]) (wpAny_pure (yes (List.mem_map.mpr ⟨p, pm, same⟩)))
    cases hl : t.led with
    | true =>
      refine wp_if_neg (by simp) ?_
      try refine wpAny_bind (wpAny_pure ?_)
      exact rest _ _
    | false =>
      refine wp_if_pos (by simp) (wpAny_bind (seen_tup hx (fun y hy => ?_) ?_))
      · obtain ⟨e, he, rfl⟩ := List.mem_map.mp hy
        have he1 : e ∈ es.toList := by
          have z : e ∈ es ∧ e.1 = thash P w k := by simpa using he
          simpa using z.1
        rw [R.rows] at he1
        obtain ⟨p2, m2, rfl⟩ := List.mem_map.mp he1
        exact ⟨p2.2, p2.1, rfl, R.tup p2 m2⟩
      · refine wp_if_neg Bool.false_ne_true ?_
        try refine wpAny_bind (wpAny_pure ?_)
        exact rest _ _
  · have hp : t.probe (fun i => (es[i]?.map (·.1)).getD 0) (thash P w k) ((none : Option SetTable.Probe).getD (t.probeStart (thash P w k))) = _ := hpr
    rw [hp]
    dsimp only
    refine wpAny_pure (no K (fun hm => ?_) k2 k3)
    obtain ⟨p, pm, e⟩ := List.mem_map.mp hm
    obtain ⟨i, il, ei⟩ := List.getElem_of_mem pm
    have hp1 : L[i]? = some p := by rw [List.getElem?_eq_getElem il, ei]
    have hh : (L.map fun p => thash P w p.2)[i]? = some (thash P w k) := by rw [List.getElem?_map, hp1, ← e]; rfl
    have pl : i < t.place.toList.length := by rw [R.tab.many, List.length_map]; exact il
    have hj := List.getElem?_eq_getElem pl
    obtain ⟨c, c1, c2⟩ := R.tab.ahead k2 hh hj
    refine hno c i c1 (by rw [hj, ← c2]; rfl) ?_
    show (es[i]?.map (·.1)).getD 0 = thash P w k
    rw [R.row hp1, ← e]
    rfl
end
end Ev

/-! EwK: sets of pairs of small numbers, of any size: adding, set(t), sorted of it. -/
namespace Ev
open PySem PySem.Spec PyProof.Rows L2
/-! ### sizes -/
theorem size_go : ∀ (f e n : Nat), n < 2 ^ (e + f) → ∃ d, SetTable.sizeAbove.go n f (2 ^ e) = 2 ^ d ∧ e ≤ d ∧ d ≤ e + f ∧ n < 2 ^ d
  | 0, e, n, h => ⟨e, rfl, Nat.le_refl _, Nat.le_refl _, h⟩
  | f + 1, e, n, h => by
    unfold SetTable.sizeAbove.go
    by_cases c : 2 ^ e ≤ n
    · rw [if_pos c]
      obtain ⟨d, h1, h2, h3, h4⟩ := size_go f (e + 1) n (by rw [show e + 1 + f = e + (f + 1) by omega]; exact h)
      rw [Nat.pow_succ] at h1
      exact ⟨d, h1, by omega, by omega, h4⟩
    · rw [if_neg c]
      exact ⟨e, rfl, Nat.le_refl _, by omega, by omega⟩
theorem size_go_le : ∀ (f e n : Nat), SetTable.sizeAbove.go n f (2 ^ e) ≤ max (2 ^ e) (2 * n)
  | 0, e, n => Nat.le_max_left _ _
  | f + 1, e, n => by
    unfold SetTable.sizeAbove.go
    by_cases c : 2 ^ e ≤ n
    · rw [if_pos c]
      have h := size_go_le f (e + 1) n
      rw [Nat.pow_succ] at h
      have : max (2 ^ e * 2) (2 * n) = 2 * n := Nat.max_eq_right (by omega)
      rw [this] at h
      exact Nat.le_trans h (Nat.le_max_right _ _)
    · rw [if_neg c]
      exact Nat.le_max_left _ _
theorem size_pow {n : Nat} (h : n < 8388608) : ∃ e, SetTable.sizeAbove n = 2 ^ e ∧ 3 ≤ e ∧ n < 2 ^ e ∧ SetTable.sizeAbove n ≤ 16777216 := by
  obtain ⟨d, h1, h2, h3, h4⟩ := size_go 64 3 n (by
    have : (8388608 : Nat) ≤ 2 ^ (3 + 64) := by decide
    omega)
  have h5 := size_go_le 64 3 n
  have e0 : SetTable.sizeAbove n = SetTable.sizeAbove.go n 64 (2 ^ 3) := rfl
  rw [e0]
  refine ⟨d, h1, h2, h4, Nat.le_trans h5 (Nat.max_le.mpr ⟨by decide, by omega⟩)⟩
theorem size_mask {n : Nat} (h : n < 8388608) : MaskP (SetTable.sizeAbove n - 1) ∧ n ≤ SetTable.sizeAbove n - 1 ∧ SetTable.sizeAbove n ≤ 16777216 := by
  obtain ⟨e, h1, h2, h3, h4⟩ := size_pow h
  have hp : 0 < 2 ^ e := Nat.pow_pos (by decide)
  refine ⟨⟨e, h2, ?_, by omega⟩, by omega, h4⟩
  rw [h1] at h4
  by_cases c : e ≤ 24
  · exact c
  · have : 2 ^ 25 ≤ 2 ^ e := Nat.pow_le_pow_right (by decide) (by omega)
    have e25 : (2 : Nat) ^ 25 = 33554432 := by decide
    omega
theorem grown_le {n : Nat} (h : n ≤ 70000) : 2 * n ≤ SetTable.grown n ∧ SetTable.grown n < 8388608 := by
  unfold SetTable.grown
  split <;> omega
section
variable {P : Program} {w : World} {A : Around} {E : Value → Shared → Prop} {s : Shared}
variable {a : Addr} {L : List (Addr × List Int)} {es : Array (Int × Value)} {ep : Nat} {t : SetTable}
/-- what is to hold of a set ahead of its laying anew -/
structure PreB (P : Program) (w : World) (h : Heap) (a : Addr) (L : List (Addr × List Int)) (es : Array (Int × Value)) (ep : Nat) (t : SetTable) : Prop where
  ob : ∃ o, h.get? a = some o ∧ o.ExactSet ∧ o.data = .set es ep t
  rows : es.toList = rowsOf P w L
  many : t.place.toList.length = L.length
  clean : t.dummies = #[]
  one : (L.map (·.2)).Nodup
  tup : ∀ p ∈ L, IsT P w h p.2 p.1
  plain : t.plain = true
  led : w.params.followText "set-order" = true ∨ t.led = true
  key : ∀ p ∈ L, Sm2 p.2
  some_ : 1 ≤ L.length
  few : L.length ≤ 70000
  mask : L.length ≤ t.mask
theorem relay_big (R : PreB P w s.heap a L es ep t) {Q : Unit → Shared → Prop} (hQ : ∀ h' L' es' ep' t', Heap.SameBut a s.heap h' → SetB P w h' a L' es' ep' t' → L'.Perm L → Q () { s with heap := h' }) :
    wpAny (model P w) A (setRelay a (SetTable.grown L.length)) Q E s := by
  obtain ⟨o, ho, hex, hd⟩ := R.ob
  have n1 := rows_len R.rows
  obtain ⟨g1, g2⟩ := grown_le R.few
  obtain ⟨m1, m2, m3⟩ := size_mask g2
  have s1 := R.some_
  have fts : t.fits es.size = true := by rw [n1]; exact fits_of R.many R.clean R.mask
  obtain ⟨t', order, e, rb⟩ := relaid_big t (hs := es.map (·.1)) (wanted := SetTable.grown L.length) rfl m1 (by rw [Array.size_map, n1]; omega)
  have op := rb.perm
  rw [Array.size_map, n1] at op
  obtain ⟨L2, r1, r2, r3⟩ := order_rows (P := P) (w := w) L es order R.rows op
  have z : (order.filterMap (es[·]?)).size = es.size := by rw [rows_len r1, r2.length_eq, n1]
  rw [setRelay_eq]
  refine wpAny_bind (wpAny_setState_of ho hd fts ?_)
  dsimp only
  refine wp_if_neg (by rw [sizeLine_eq]; omega) ?_
  try refine wpAny_bind (wpAny_pure ?_)
  rw [e]
  dsimp only
  refine wpAny_bind (wp_if_neg (by rw [z]; simp) ?_)
  try refine wpAny_bind (wpAny_pure ?_)
  refine wpAny_pure ?_
  dsimp only
  have few := R.few
  refine wpAny_storeSet_of ho hd ?_ (by rw [z, n1, sizeLine_eq]; omega)
  have sb : Heap.SameBut a s.heap (s.heap.update a (Obj.putSet (order.filterMap (es[·]?)) t')) := Heap.SameBut.update ..
  refine hQ _ L2 _ (ep + 1) t' sb ⟨⟨_, store_at ho hd, ⟨hex.1, hex.2.1, hex.2.2⟩, rfl⟩, r1, by rw [r3]; exact rb.tab, (r2.map (·.2)).nodup_iff.mpr R.one, fun p hp => isT_same (R.tup p (r2.mem_iff.mp hp)) ho hd sb, rb.plain.trans R.plain, by rw [rb.led]; exact R.led, ?_, fun p hp => R.key p (r2.mem_iff.mp hp)⟩ r2
  rw [r2.length_eq, rb.mask]
  omega
/-- one more member -/
theorem add_big (R : SetB P w s.heap a L es ep t) {x : Addr} {k : List Int} (hx : IsT P w s.heap k x) (hk : Sm2 k) (hu : A.units < cLine) (few : L.length + 1 ≤ 70000) {Q : Bool → Shared → Prop}
    (hQ : ∀ b h' L' es' ep' t', Heap.SameBut a s.heap h' → SetB P w h' a L' es' ep' t' → (k ∈ L.map (·.2) → L' = L) → (k ∉ L.map (·.2) → L'.Perm ((x, k) :: L)) → Q b { s with heap := h' }) :
    wpAny (model P w) A (setAddHashed a (.ref x) (thash P w k)) Q E s := by
  obtain ⟨o, ho, hex, hd⟩ := R.ob
  have n1 := rows_len R.rows
  have room := R.room
  unfold setAddHashed
  refine wpAny_holding ?_
  rw [show (100000 : Nat) = Nat.succ 99999 from rfl, setAddHashedIn_succ]
  refine wpAny_bind (wpAny_setState_of ho hd R.fits ?_)
  dsimp only
  refine wp_if_neg (by simp [byScan, Value.scannable]) ?_
  try refine wpAny_bind (wpAny_pure ?_)
  refine wpAny_bind (find_big R hx hk hu (fun hm => ?_) fun K hm k1 k2 => ?_)
  · exact wpAny_pure (hQ false s.heap L es ep t (Heap.SameBut.refl a s.heap) R (fun _ => rfl) fun z => absurd hm z)
  · dsimp only
    refine wpAny_bind (wpAny_setState_of ho hd R.fits ?_)
    dsimp only
    have pb := R.tab.put k1 k2
    generalize hj : way t.mask (thash P w k) K = j at *
    have b1 := pb.at_
    have b2 := pb.le
    have b3 := pb.tab
    have b4 := pb.mask
    have b5 := pb.led
    have b6 := pb.plain
    have b7 := pb.fill
    clear pb
    have rin : (SetTable.insertAt es (SetTable.below t.place j) (thash P w k, Value.ref x)).toList = rowsOf P w (L.take (SetTable.below t.place j) ++ (x, k) :: L.drop (SetTable.below t.place j)) := by
      rw [SetTable.toList_insertAt, rows_put, R.rows]
    generalize hpt : t.put j = pt at *
    obtain ⟨t1, p⟩ := pt
    dsimp only at b1 b3 b4 b5 b6 b7 ⊢
    subst b1
    generalize SetTable.below t.place j = p at *
    have pl1 : t1.plain = true := b6.trans R.plain
    first
      | (refine wpAny_bind ?_; refine wp_if_pos pl1 ?_; refine hashBy_tup hx ?_)
      | refine wp_if_pos pl1 (wpAny_bind (hashBy_tup hx ?_))
    simp only [if_true]
    have pm := put_perm L p (x, k)
    have hmap : (L.take p ++ (x, k) :: L.drop p).map (fun p => thash P w p.2) = (L.map fun p => thash P w p.2).take p ++ thash P w k :: (L.map fun p => thash P w p.2).drop p := by
      rw [List.map_append, List.map_cons, List.map_take, List.map_drop]
    rw [← hmap] at b3
    rw [List.length_map] at b7
    have one1 : ((L.take p ++ (x, k) :: L.drop p).map (·.2)).Nodup := (pm.map (·.2)).nodup_iff.mpr (List.nodup_cons.mpr ⟨hm, R.one⟩)
    have ln1 := pm.length_eq
    rw [List.length_cons] at ln1
    have es1n := rows_len rin
    generalize SetTable.insertAt es p (thash P w k, Value.ref x) = es1 at *
    generalize L.take p ++ (x, k) :: L.drop p = L1 at *
    refine wpAny_bind (wpAny_storeSet_of ho hd ?_ (by rw [es1n, ln1, sizeLine_eq]; omega))
    have sb : Heap.SameBut a s.heap (s.heap.update a (Obj.putSet es1 t1)) := Heap.SameBut.update ..
    have ho1 := store_at (es' := es1) (t' := t1) ho hd
    generalize s.heap.update a (Obj.putSet es1 t1) = h1 at *
    have tup1 : ∀ p ∈ L1, IsT P w h1 p.2 p.1 := fun p hp => by
      rcases List.mem_cons.mp (pm.mem_iff.mp hp) with rfl | hp
      · exact isT_same hx ho hd sb
      · exact isT_same (R.tup p hp) ho hd sb
    have key1 : ∀ p ∈ L1, Sm2 p.2 := fun p hp => by
      rcases List.mem_cons.mp (pm.mem_iff.mp hp) with rfl | hp
      · exact hk
      · exact R.key p hp
    have led1 : w.params.followText "set-order" = true ∨ t1.led = true := by rw [b5]; exact R.led
    have many1 : t1.place.toList.length = L1.length := by rw [b3.many, List.length_map]
    cases hf : t1.tooFull with
    | true =>
      have pre : PreB P w h1 a L1 es1 (ep + 1) t1 := ⟨⟨_, ho1, ⟨hex.1, hex.2.1, hex.2.2⟩, rfl⟩, rin, many1, b3.clean, one1, tup1, pl1, led1, key1, by omega, by omega, by rw [b4]; omega⟩
      have goal : wpAny (model P w) A (setRelay a (SetTable.grown (es.size + 1))) (fun _ s' => wpAny (model P w) A (pure true) Q E s') E { s with heap := h1 } := by
        rw [n1, ← ln1]
        refine relay_big (s := { s with heap := h1 }) pre fun h2 L2 es2 ep2 t2 sb2 R2 pm2 => ?_
        exact wpAny_pure (hQ true h2 L2 es2 ep2 t2 (sb.trans sb2) R2 (fun z => absurd z hm) fun _ => pm2.trans pm)
      first
        | (refine wpAny_bind ?_; refine wp_if_pos (by simp [hf]) ?_; exact goal)
        | (refine wp_if_pos (by simp [hf]) ?_; refine wpAny_bind ?_; exact goal)
    | false =>
      have fin : Q true { s with heap := h1 } := by
        refine hQ true h1 L1 es1 (ep + 1) t1 sb ⟨⟨_, ho1, ⟨hex.1, hex.2.1, hex.2.2⟩, rfl⟩, rin, b3, one1, tup1, pl1, led1, ?_, key1⟩ (fun z => absurd z hm) fun _ => pm
        unfold SetTable.tooFull at hf
        rw [decide_eq_false_iff_not, b7] at hf
        omega
      first
        | (refine wp_if_neg (by simp [hf]) ?_; exact wpAny_pure fin)
        | (refine wpAny_bind ?_; refine wp_if_neg (by simp [hf]) ?_; exact wpAny_pure (wpAny_pure fin))
end
end Ev

/-! EwL: set(t), t a tuple of pairs of small numbers, of any size; what is in it, in a list. -/
namespace Ev
open PySem PySem.Spec PyProof.Rows L2
open PySem.Calls
section
variable {P : Program} {w : World} {A : Around} {E : Value → Shared → Prop} {s : Shared}
theorem SetB.keep {h h' : Heap} {a : Addr} {L : List (Addr × List Int)} {es : Array (Int × Value)} {ep : Nat} {t : SetTable} (R : SetB P w h a L es ep t) (ka : ∀ o, h.get? a = some o → h'.get? a = some o) (kt : ∀ p ∈ L, IsT P w h' p.2 p.1) : SetB P w h' a L es ep t := by
  have ⟨o, ho, r⟩ := R.ob
  exact { R with ob := ⟨o, ka o ho, r⟩, tup := kt }
theorem setB_fresh {h : Heap} {a : Addr} (ho : h.get? a = some (fset w)) : SetB P w h a [] #[] 0 (.fresh 0 0 (!w.params.followText "set-order")) := by
  refine ⟨⟨_, ho, ⟨rfl, rfl, rfl⟩, rfl⟩, rfl, ⟨.nil, rfl, rfl, ⟨3, by decide, by decide, rfl⟩, ?_, ?_⟩, .nil, ?_, rfl, ?_, (show 0 * 5 < 7 * 3 by decide), ?_⟩
  · intro x hx; cases hx
  · intro i h j hi; simp at hi
  · intro p hp; cases hp
  · cases w.params.followText "set-order"
    · right; rfl
    · left; rfl
  · intro p hp; cases hp
theorem loop_big {I : Addr} {fp wr : List Addr} {G : Array GenState → Array GenState → Prop} {n : Nat} {Pv : Nat → Value → Prop} {St : Nat → Shared → Prop} {R : Result → Shared → Prop}
    (W : WalksS P w A.in1 I fp wr G n Pv St) (S : Addr) (sf : S ∉ fp) (ks : List (Addr × List Int)) (hn : n = ks.length) (few : ks.length ≤ 69000) (sm : ∀ p ∈ ks, Sm2 p.2) (val : ∀ i v, Pv i v → ∃ p, ks[i]? = some p ∧ v = .ref p.1)
    (g0 : Heap) (hk : ∀ p ∈ ks, IsT P w g0 p.2 p.1) (gS : g0.get? S = none) (gw : ∀ b ∈ wr, g0.get? b = none) (hu : A.in1.units < cLine) :
    ∀ (d i : Nat) (s : Shared), n - i = d → i ≤ n → St i s → (∀ b o, g0.get? b = some o → s.heap.get? b = some o) → (∃ L es ep t, SetB P w s.heap S L es ep t ∧ Got ks i L) →
      (∀ s' L es ep t, Moved (S :: wr) G s s' → SetB P w s'.heap S L es ep t → Got ks n L → (∀ b o, g0.get? b = some o → s'.heap.get? b = some o) → R (.ok (.ret .none)) s') →
      codeAny (model P w) A (.builtin "set.update.loop" ⟨[.ref S, .ref I], []⟩) R s := by
  have sw : S ∉ wr := fun h => sf (W.sub S h)
  have more : ∀ b ∈ wr, b ∈ S :: wr := fun b hb => by simp [hb]
  have kept : ∀ {u v : Shared}, Moved wr G u v → (∀ b o, g0.get? b = some o → u.heap.get? b = some o) → ∀ b o, g0.get? b = some o → v.heap.get? b = some o := by
    intro u v m q b o e
    refine m.heap b o (fun hb => ?_) (q b o e)
    rw [gw b hb] at e
    cases e
  intro d
  induction d with
  | zero =>
    rintro i s hd hi st q ⟨L, es, ep, t, hS, g⟩ fin
    obtain rfl : i = n := by omega
    refine codeAny_builtin F.entry_set_update_loop ?_
    rw [Around.under_plainId F.plain_set_update_loop _]
    show wpAny _ A.in1 (pyNext (.ref I) >>= _) _ _ s
    refine wpAny_bind (W.done s _ _ st fun v m => ?_)
    have q' := kept m q
    show wpAny _ A.in1 (ret Value.none) _ _ v
    refine wpAny_pure (fin v L es ep t (m.mono more) (hS.keep (fun o e => m.heap S o sw e) fun p hp => isT_keep (hk p ?_) q') g q')
    exact List.mem_of_mem_take (g.sub p hp)
  | succ d ih =>
    rintro i s hd hi st q ⟨L, es, ep, t, hS, g⟩ fin
    have lt : i < n := by omega
    refine codeAny_builtin F.entry_set_update_loop ?_
    rw [Around.under_plainId F.plain_set_update_loop _]
    show wpAny _ A.in1 (pyNext (.ref I) >>= _) _ _ s
    refine wpAny_bind (W.item i s _ _ lt st fun x v px st' m => ?_)
    obtain ⟨p, hp, rfl⟩ := val i x px
    have pm : p ∈ ks := List.mem_of_getElem? hp
    have q' := kept m q
    have hS' : SetB P w v.heap S L es ep t := hS.keep (fun o e => m.heap S o sw e) fun r hr => isT_keep (hk r (List.mem_of_mem_take (g.sub r hr))) q'
    have hx : IsT P w v.heap p.2 p.1 := isT_keep (hk p pm) q'
    show wpAny _ A.in1 (holding [Value.ref p.1] (setAdd S (.ref p.1)) >>= _) _ _ v
    refine wpAny_bind (wpAny_holding ?_)
    unfold setAdd
    refine wpAny_holding (wpAny_bind (wpAny_pyHash_tuple hu hx ?_))
    have gl := g.len
    refine add_big (s := { v with toks := v.toks + (p.2.length + 1) }) hS' hx (sm p pm) hu (by omega) fun b h' L' es' ep' t' sb hS2 c1 c2 => ?_
    have g' : Got ks (i + 1) L' := by
      by_cases c : p.2 ∈ L.map (·.2)
      · rw [c1 c]; exact g.same hp c
      · exact g.more hp (c2 c)
    have q2 : ∀ b o, g0.get? b = some o → h'.get? b = some o := fun b o e => by
      have hb : b ≠ S := fun z => by rw [z, gS] at e; cases e
      exact (sb.2 b hb).trans (q' b o e)
    have fpk : ∀ b ∈ fp, ∀ o, v.heap.get? b = some o → h'.get? b = some o := fun b hb o e => by
      have hb' : b ≠ S := fun z => sf (z ▸ hb)
      exact (sb.2 b hb').trans e
    have st2 := W.frame (i + 1) v h' (v.toks + (p.2.length + 1)) st' (Nat.le_add_right _ _) fpk
    refine wpAny_pure ⟨plainId_quiet F.plain_set_update_loop _, ih (i + 1) _ (by omega) lt st2 q2 ⟨L', es', ep', t', hS2, g'⟩ fun z L2 es2 ep2 t2 m2 r2 gg qq => ?_⟩
    refine fin z L2 es2 ep2 t2 (Moved.trans W.gtrans ((m.mono more).then_heap (Nat.le_add_right _ _) fun b o hb e => ?_) m2) r2 gg qq
    have hb' : b ≠ S := fun z => hb (by simp [z])
    exact (sb.2 b hb').trans e
set_option maxRecDepth 100000 in
set_option maxHeartbeats 6400000 in
theorem call_set_big {l : Addr} {xs : Array Value} (ks : List (Addr × List Int)) {R : Value → Shared → Prop} (h0 : A.handled = none) (hl : s.heap.IsTuple l xs) (hx : xs.toList = ks.map fun p => Value.ref p.1)
    (hk : ∀ p ∈ ks, IsT P w s.heap p.2 p.1) (few : ks.length ≤ 69000) (sm : ∀ p ∈ ks, Sm2 p.2) (hu : A.units + 3 < cLine)
    (k : ∀ (h' : Heap) (tk : Nat) L es ep t, SetB P w h' s.heap.objs.size L es ep t → Got ks ks.length L → (∀ b o, s.heap.get? b = some o → h'.get? b = some o) → R (.ref s.heap.objs.size) { s with heap := h', toks := tk }) :
    wpAny (model P w) A (call (.type "set") [.ref l]) R E s := by
  have hn : xs.size = ks.length := by
    have q := congrArg List.length hx
    rw [Array.length_toList, List.length_map] at q
    exact q
  obtain ⟨c, tl, mro⟩ := F.called_set.mro
  have made := F.called_set.made
  have sb := F.called_set.sub
  refine wpAny_call (codeAny_of_tree ?_)
  show wpAny _ _ (callAny (.type "set") _) _ _ _
  refine wpAny_pure ⟨Code.quiet_builtin _ (by decide +kernel), codeAny_builtin F.entry_type_call ?_⟩
  rw [Around.under_plain (weight_type_call_type "set" [.ref l] []) rfl]
  have nt := F.called_set.notType
  have cc := F.called_set.canCreate
  have tc := F.typeCall_set_1 (.ref l)
  repeat (any_goals (first | assumption | wp_step))
  refine codeAny_mono (code_set_led1 (.ref l) (E := E) (Q₁ := fun ob z => ob = .ref s.heap.objs.size ∧ z = { s with heap := s.heap.push (fset w) }) ⟨rfl, rfl⟩) fun r z hr => ?_
  cases r with
  | error e => exact hr
  | ok fl =>
    cases fl with
    | ret ob =>
      obtain ⟨rfl, rfl⟩ := hr
      have gS : (s.heap.push (fset w)).get? s.heap.objs.size = some (fset w) := Heap.get?_push_size _ rfl
      have tS : Shared.TypeIs { s with heap := s.heap.push (fset w) } (.ref s.heap.objs.size) "set" := ⟨_, gS, rfl⟩
      have li := F.called_set.init.lookup
      have bi := F.called_set.init.bind (.ref s.heap.objs.size)
      repeat (any_goals (first | assumption | wp_step))
      refine codeAny_mono (codeAny_call_builtin (R := wants (fun r z2 => r = .none ∧ ∃ h' tk L es ep t, z2 = { s with heap := h', toks := tk } ∧ SetB P w h' s.heap.objs.size L es ep t ∧ Got ks ks.length L ∧
          (∀ b o, s.heap.get? b = some o → h'.get? b = some o)) E) F.called_set.init.plain F.entry_set_init (check_set_init_1 tS ?_)) fun r2 z2 hr2 => ?_
      · obtain ⟨ol, hol, hcl, nl, hdl⟩ := hl
        obtain ⟨kcls, kdict, kdata, kslots⟩ := ol
        simp only at hcl hdl
        subst hcl; subst hdl
        have hol2 : (s.heap.push (fset w)).get? l = some { cls := .type "tuple", dict := kdict, data := .seq xs nl, slots := kslots } := Heap.get?_push_of_some _ hol
        have st1 := F.sub_tuple_set
        have st2 := F.sub_tuple_frozenset
        have ne1 : (Value.type "tuple" == Value.type "dict") = false := by decide
        have tl1 : (s.heap.push (fset w)).IsTuple l xs := ⟨_, hol2, rfl, nl, rfl⟩
        unfold Builtin.«set.__init__» noKeywords Builtin.Frozenset.updateFrom
        generalize hPI : pyIter = PI
        wp_walk
        subst hPI
        refine wpAny_pyIter_tuple tl1 ?_
        refine wpAny_bind (wpAny_runValue ?_)
        have lS : l < s.heap.objs.size := Heap.lt_size hol
        have hh3 : A.in1.in1.in1.handled = none := by simp [h0]
        have z1 : (s.heap.push (fset w)).objs.size = s.heap.objs.size + 1 := Heap.size_push ..
        have neI : l ≠ (s.heap.push (fset w)).objs.size := by rw [z1]; exact Nat.ne_of_lt (Nat.lt_succ_of_lt lS)
        have Sf : s.heap.objs.size ∉ [(s.heap.push (fset w)).objs.size, l] := by
          rw [z1]; simp only [List.mem_cons, List.mem_singleton, List.not_mem_nil, or_false, not_or]
          exact ⟨Nat.ne_of_lt (Nat.lt_succ_self _), Nat.ne_of_gt lS⟩
        have val : ∀ (i : Nat) (v : Value), xs[i]? = some v → ∃ p, ks[i]? = some p ∧ v = .ref p.1 := fun i v hv => by
          have q : xs.toList[i]? = some v := by rw [Array.getElem?_toList]; exact hv
          rw [hx, List.getElem?_map] at q
          obtain ⟨p, h1, h2⟩ := Option.map_eq_some_iff.mp q
          exact ⟨p, h1, h2.symm⟩
        have nof : ∀ b, s.heap.objs.size ≤ b → s.heap.get? b = none := fun b hb => Heap.get?_none_of_le hb
        refine loop_big ((Walks.tuple hh3 _ l neI xs).toS) s.heap.objs.size
          Sf ks hn few sm val s.heap hk (nof _ (Nat.le_refl _)) (fun b hb => nof b (by
            rw [List.mem_singleton.mp hb, z1]
            exact Nat.le_succ _)) hu (xs.size - 0) 0 _ (by omega) (Nat.zero_le _)
          ⟨⟨_, Heap.get?_push_size _ rfl, rfl, rfl⟩, (tl1.push _)⟩ (fun b o e => Heap.get?_push_of_some _ (Heap.get?_push_of_some _ e)) ?S0 ?R0
        case S0 => exact ⟨[], #[], 0, _, setB_fresh (Heap.get?_push_of_some _ gS), Got.zero ks⟩
        case R0 =>
          intro z3 L es ep t hm hS3 g3 hkp
          obtain ⟨h', g2, d', tk', os'⟩ := z3
          have eg : g2 = s.gens := hm.gens
          have ed : d' = s.drawn := hm.drawn
          have eo : os' = s.os := hm.os
          subst eg; subst ed; subst eo
          show wpAny _ _ _ _ _ _
          refine wpAny_pure ?_
          show wpAny _ _ (ret Value.none) _ _ _
          rw [hn] at g3
          exact wpAny_pure ⟨rfl, h', tk', L, es, ep, t, rfl, hS3, g3, hkp⟩
      · cases r2 with
        | error e => exact hr2
        | ok f2 =>
          cases f2 with
          | ret r =>
            obtain ⟨rfl, h', tk, L, es, ep, t, rfl, hS3, g3, hk3⟩ := hr2
            repeat (any_goals (first | assumption | wp_step))
            exact k _ _ _ _ _ _ hS3 g3 hk3
          | _ => exact hr2.elim
    | _ => exact hr.elim
/-! ### what is in the set -/
variable {a : Addr} {es : Array (Int × Value)} {ep : Nat} {t : SetTable}
/-- iter of a set whose table is plain -/
theorem iter_plain {Q : Value → Shared → Prop} (ha : SetAt s.heap a es ep t) (hf : t.fits es.size = true) (r : Ris t.place.toList) (pl : t.plain = true) (hl : w.params.followText "set-order" = true ∨ t.led = true) (hQ : ∀ z I, SetIt P w s a es z I → Q (.ref I) z) :
    wpAny (model P w) A (pyIter (.ref a)) Q E s := by
  have ⟨o, ho, hc, hd⟩ := ha
  have ht : s.TypeIs (.ref a) "set" := ⟨o, ho, hc⟩
  have ne : a ≠ s.heap.objs.size := Nat.ne_of_lt (Heap.lt_size ho)
  have sides : ∀ b ∈ [s.heap.objs.size, a], b = a ∨ s.heap.objs.size ≤ b := fun b hb => by
    rcases List.mem_cons.mp hb with rfl | hb
    · exact .inr (Nat.le_refl _)
    · exact .inl (List.mem_singleton.mp hb)
  refine wpAny_pyIter_slot ht F.slot_set_iter (wpAny_call_entry F.slot_set_iter ht entry_s_iter ?_ (F.args_set_iter_1 _))
  unfold Builtin.«frozenset.__iter__»
  refine wpAny_bind (m := Builtin.Frozenset.slot0 "__iter__" _) (wpAny_of_eq (a := a) (by rfl) ?_)
  refine wpAny_bind (m := Builtin.Frozenset.sizeOf a) ?_
  unfold Builtin.Frozenset.sizeOf
  refine wpAny_bind (wpAny_setEntries_of ho hd hf (wpAny_pure ?_))
  first | refine wpAny_bind (setDrawn_at ha hf ?_) | refine wpAny_bind (wpAny_bind (setDrawn_at ha hf ?_))
  have nd : (!t.plain && decide (es.size > 1)) = false := by rw [pl]; rfl
  refine wp_if_neg (by rw [nd]; simp) ?_
  first | refine wpAny_bind (wpAny_pure ?_) | refine wpAny_pure ?_
  refine wpAny_bind (wpAny_setEpoch_of ho hd hf ?_)
  refine wpAny_bind (wpAny_newObj_type (wpAny_pure ⟨_, rfl, "set_iterator", _, ⟨_, Heap.get?_push_size _ rfl, rfl⟩, slot_si_next.lookup, ?_⟩))
  cases hb : w.params.followText "set-order" with
  | true =>
    refine hQ _ _ (SetIt.of (out := (pickOrder (w.params.setOrder a ep) es).toList.map (·.2)) (fun A' hA' => walks_text (P := P) (ep := ep) hA' ne hf hb) (by rw [List.length_map, Array.length_toList]) (fun b u e => Heap.get?_push_of_some _ e) rfl rfl rfl (Nat.le_refl _) sides ((pick_perm (w.params.setOrder a ep) es).map _) (fun j v q => ?_) ⟨⟨_, Heap.get?_push_size _ rfl, rfl, rfl⟩, ha.at fun u e => Heap.get?_push_of_some _ e⟩)
    rw [List.getElem?_map, Array.getElem?_toList]
    exact q
  | false =>
    have ld : t.led = true := hl.resolve_left (by rw [hb]; simp)
    refine hQ _ _ (SetIt.of (out := es.toList.map (·.2)) (fun A' hA' => walks_led (P := P) (ep := ep) hA' ne hf r hb nd ld) (by rw [List.length_map, Array.length_toList]) (fun b u e => Heap.get?_push_of_some _ e) rfl rfl rfl (Nat.le_refl _) sides (List.Perm.refl _) (fun j v q => ?_) ⟨⟨_, Heap.get?_push_size _ rfl, rfl, rfl⟩, ha.at fun u e => Heap.get?_push_of_some _ e⟩)
    rw [List.getElem?_map, Array.getElem?_toList]
    exact q
end
end Ev

/-! EwM: sorted of a set, of any size. -/
namespace Ev
open PySem PySem.Spec PyProof.Rows L2
open PySem.Calls PySem.W
section
variable {P : Program} {w : World} {A : Around} {E : Value → Shared → Prop} {s : Shared} {a : Addr}
/-- what collect promises of the state behind -/
structure After (s s' : Shared) : Prop where
  keep : ∀ b o, s.heap.get? b = some o → s'.heap.get? b = some o
  size : s.heap.objs.size ≤ s'.heap.objs.size
  gens : s'.gens = s.gens
  os : s'.os = s.os
theorem gather_plain {es : Array (Int × Value)} {ep : Nat} {t : SetTable} {Q : List Value → Shared → Prop} (hh : A.handled = none) (ha : SetAt s.heap a es ep t) (hf : t.fits es.size = true) (r : Ris t.place.toList) (pl : t.plain = true) (hl : w.params.followText "set-order" = true ∨ t.led = true) (few : es.size ≤ sizeLine)
    (hQ : ∀ s' out, After s s' → out.Perm (es.toList.map (·.2)) → Q out s') : wpAny (model P w) A (collect (.ref a)) Q E s := by
  have ⟨o, ho, hc, hd⟩ := ha
  have la : a < s.heap.objs.size := Heap.lt_size ho
  have ne : s.heap.objs.size ≠ a := Nat.ne_of_gt la
  generalize hD : s.heap.objs.size = D at *
  have h1 : (s.heap.push { cls := .type "list", data := .seq ([] : List Value).toArray }).objs.size = D + 1 := by rw [size_push', hD]
  have hS : (s.heap.push { cls := .type "list", data := .seq ([] : List Value).toArray }).get? D = some { cls := .type "list", data := .seq ([] : List Value).toArray } := by rw [← hD]; exact Heap.get?_push_size _ rfl
  unfold collect
  refine wpAny_bind (wpAny_runValue (codeAny_builtin F.entry_proto_collect ?_))
  rw [Around.under_plainId F.plain_proto_collect _]
  show wpAny _ A.in1 (newList [] >>= fun l => again (.builtin "list.__iadd__" ⟨[l, .ref a], []⟩)) _ _ s
  refine wpAny_bind (wpAny_newObj_type ?_)
  rw [hD]
  refine wpAny_pure ⟨plainId_quiet F.plain_list_iadd _, codeAny_builtin F.entry_list_iadd ?_⟩
  rw [Around.under_plainId F.plain_list_iadd _]
  show wpAny _ A.in1 (Builtin.List.listExtendWith (.ref D) (.ref a) (.ref D)) _ _ _
  unfold Builtin.List.listExtendWith
  refine wpAny_bind (wpAny_typeOf (T := "set") ⟨o, Heap.get?_push_of_some _ ho, hc⟩ ?_)
  have q1 : Builtin.List.listSameRef (.ref D) (.ref a) = false := by simp [Builtin.List.listSameRef, ne]
  have q2 : (Value.type "set" == Value.type "list") = false := by decide
  have q3 : (Value.type "set" == Value.type "tuple") = false := by decide
  simp only [q1, q2, q3, Bool.or_false, Bool.false_eq_true, if_false]
  refine wpAny_bind (iter_plain (s := { s with heap := s.heap.push { cls := .type "list", data := .seq ([] : List Value).toArray } }) (ha.at fun u e => Heap.get?_push_of_some _ e) hf r pl hl fun z I hit => ?_)
  obtain ⟨fp, St, out, Pv, k2, g2, o2, t2, hI, hfp, hp, hW, hPv, hst⟩ := hit
  have hI' : D + 1 ≤ I := by rw [← h1]; exact hI
  have Df : D ∉ fp := fun hm => by
    rcases hfp D hm with e | e
    · exact ne e
    · have e' : D + 1 ≤ D := by rw [← h1]; exact e
      omega
  have tz : z.TypeIs (.ref a) "set" := ⟨o, k2 a o (Heap.get?_push_of_some _ ho), hc⟩
  refine wpAny_bind (wpAny_holding ?_)
  unfold Builtin.List.listLengthHint
  refine wpAny_bind (wpAny_specialOf tz F.slot_set_len.lookup ?_)
  (generalize hid : ("set.__len__" : String) = id0; (fail_if_success (clear hid id0)); wp_delta; rw [show splitId id0 = some ("set", "__len__") from by subst hid; decide +kernel]; subst hid)
  refine wpAny_bind (wpAny_isInstance (b := true) tz sub_set_self ?_)
  show wpAny _ A.in1 (typeOf (.ref a) >>= _) _ _ _
  refine wpAny_bind (wpAny_typeOf tz (wpAny_pure ?_))
  show wpAny _ A.in1 (rule "list.extend.makes-room" >>= fun _ => Builtin.List.listTouch (.ref D) >>= fun _ => again (.builtin "list.extend.loop" ⟨[.ref D, .ref I, .ref D], []⟩)) _ _ _
  refine wpAny_bind (wpAny_rule (wpAny_bind ?_))
  show wpAny _ A.in1 (updateSeq D (·.push .none) >>= fun _ => updateSeq D (·.pop)) _ _ _
  have d2 := k2 _ _ hS
  have d3 := Heap.get?_update_self (Obj.mapSeq (·.push Value.none)) d2 rfl
  have d4 := Heap.get?_update_self (Obj.mapSeq (·.pop)) d3 rfl
  have rest : ∀ b u, b ≠ D → z.heap.get? b = some u → ((z.heap.update D (Obj.mapSeq (·.push Value.none))).update D (Obj.mapSeq (·.pop))).get? b = some u := fun b u hb e => by
    rw [Heap.get?_update_other _ _ (Ne.symm hb), Heap.get?_update_other _ _ (Ne.symm hb)]
    exact e
  refine wpAny_bind (wpAny_updateSeq d2 rfl (wpAny_updateSeq d3 rfl ?_))
  have hn : out.length ≤ sizeLine := by rw [hp.length_eq, List.length_map, Array.length_toList]; exact few
  have st2 := (hW A.in1 hh).frame 0 _ _ hst fun b hb u e => rest b u (fun y => Df (y ▸ hb)) e
  refine wpAny_pure ⟨plainId_quiet F.plain_extend_loop _, codeAny_extend_loopS (hW A.in1 hh).toS hn _ Df _ out.length 0 _ _ _ rfl (Nat.zero_le _) st2 d4 (ItemsOf.nil Pv) fun s' acc c hm hS' hacc => ?_⟩
  show wpAny _ A (load D >>= _) _ _ s'
  refine wpAny_bind (wpAny_load hS' (wpAny_pure ?_))
  show Q acc.toList s'
  rw [items_out hacc hPv]
  refine hQ s' out ⟨fun b u e => ?_, by rw [hD]; exact Nat.le_of_lt (Heap.lt_size hS'), Eq.trans hm.gens g2, Eq.trans hm.os o2⟩ hp
  have bl : b < D := by rw [← hD]; exact Heap.lt_size e
  refine hm.heap b u (fun y => ?_) (rest b u (Nat.ne_of_lt bl) (k2 b u (Heap.get?_push_of_some _ e)))
  rcases List.mem_cons.mp y with y | y
  · exact absurd bl (by rw [y]; exact Nat.lt_irrefl _)
  · exact absurd bl (by rw [List.mem_singleton.mp y]; exact Nat.not_lt_of_le (Nat.le_of_succ_le hI'))
/-! ### sorted -/
theorem each_fst : ∀ bs : List (Value × PyData), EachIs (fun v b => v = b.1) (bs.map Prod.fst) bs
  | [] => .nil
  | b :: bs => .cons rfl (each_fst bs)
theorem each_fst_eq : ∀ {vs : List Value} {bs : List (Value × PyData)}, EachIs (fun v b => v = b.1) vs bs → vs = bs.map Prod.fst
  | _, _, .nil => rfl
  | _, _, .cons h t => by rw [List.map_cons, h, each_fst_eq t]
theorem each_rd {h : Heap} {l : Addr} : ∀ (bs : List (Value × PyData)), (∀ b ∈ bs, Reads h b.1 b.2 []) → EachIs (fun v b => ∃ as, Reads h v b.2 as ∧ l ∉ as) (bs.map Prod.fst) bs
  | [], _ => .nil
  | b :: bs, h1 => .cons ⟨[], h1 b (by simp), by simp⟩ (each_rd bs fun c hc => h1 c (List.mem_cons_of_mem _ hc))
theorem sorted_gather {Ok : List (Value × PyData) → Prop} {dep : Nat} {Q : Value → Shared → Prop}
    (hcol : ∀ Q' : List Value → Shared → Prop, (∀ s1 bs, After s s1 → Ok bs → Q' (bs.map Prod.fst) s1) → wpAny (model P w) A.in1 (collect (.ref a)) Q' E s)
    (hal : ∀ bs, Ok bs → AllAlike (bs.map Prod.snd)) (hso : ∀ bs, Ok bs → Sortable (bs.map Prod.snd)) (hlen : ∀ bs, Ok bs → bs.length ≤ sizeLine) (hdep : ∀ bs, Ok bs → ∀ b ∈ bs, b.2.depth ≤ dep) (hu : A.units + dep + 4 < cLine)
    (hrd : ∀ h', (∀ b o, s.heap.get? b = some o → h'.get? b = some o) → ∀ bs, Ok bs → ∀ b ∈ bs, Reads h' b.1 b.2 [])
    (hQ : ∀ s' p c bs, After s s' → s.heap.objs.size ≤ p → Ok bs → s'.heap.get? p = some (seqObj "list" ((bs.mergeSort (dataLe false Prod.snd)).map Prod.fst).toArray c) → Q (.ref p) s') :
    wpAny (model P w) A (call (.builtin "sorted") [.ref a]) Q E s := by
  refine Calls.call_function_entry kind_sorted plain_sorted entry_sorted (args_sorted1 _) ?_
  unfold Builtin.«sorted»
  refine wpAny_bind (m := checkCount "sorted" 1 1 _) (wpAny_pure ?_)
  refine wpAny_bind (hcol _ fun s1 bs af ok => ?_)
  have kp : ∀ b o, s.heap.get? b = some o → (s1.heap.push (seqObj "list" (bs.map Prod.fst).toArray 0)).get? b = some o := fun b o e => Heap.get?_push_of_some _ (af.keep b o e)
  refine wpAny_bind (wpAny_newList ?_ (by rw [List.length_map]; exact hlen bs ok))
  have hoL : (s1.heap.push (seqObj "list" (bs.map Prod.fst).toArray 0)).get? s1.heap.objs.size = some (seqObj "list" (bs.map Prod.fst).toArray 0) := Heap.get?_push_size _ rfl
  refine wpAny_bind (wpAny_holding (list_sort_data (s := { s1 with heap := s1.heap.push (seqObj "list" (bs.map Prod.fst).toArray 0) }) (enc := Prod.snd) (R := fun v b => v = b.1) hoL (each_fst bs) (each_rd bs (hrd _ kp bs ok)) (hal bs ok) (hso bs ok) (hlen bs ok) (fun b hb => ?_) fun out ol oe => ?_))
  · have hd := hdep bs ok b hb
    show A.units + 1 + 1 + b.2.depth < cLine
    have e : A.units + 1 + 1 + b.2.depth ≤ A.units + dep + 4 := by
      generalize b.2.depth = z at *
      omega
    exact Nat.lt_of_le_of_lt e hu
  · obtain ⟨c, hc⟩ := sortedHeap_at (vs := bs.map Prod.fst) (out := List.toArray out) hoL
    rw [each_fst_eq oe] at hc ⊢
    refine wpAny_pure ⟨_, rfl, hQ _ s1.heap.objs.size c bs ⟨fun b u e => ?_, ?_, af.gens, af.os⟩ af.size ok hc⟩
    · have lt := Heap.lt_size (af.keep b u e)
      have ne : b ≠ s1.heap.objs.size := Nat.ne_of_lt lt
      show (sortedHeap (s1.heap.push (seqObj "list" (bs.map Prod.fst).toArray 0)) s1.heap.objs.size (bs.map Prod.fst) _).get? b = some u
      rw [sortedHeap_old ne (by rw [size_push']; exact Nat.lt_succ_of_lt lt)]
      exact kp b u e
    · exact Nat.le_trans af.size (Nat.le_of_lt (Heap.lt_size hc))
end
end Ev

/-! EvO: sorted(set(t)) in the small language; a module's dict. -/
namespace Ev
variable [Memo]
open PySem PySem.Spec PyProof.Rows L2
open PySem.Calls
theorem prsOf_some : ∀ {ds : List PyData} {ps : List (Int × Int)}, prsOf ds = some ps → ds = ps.map prD
  | [], ps, h => by cases h; rfl
  | d :: ds, ps, h => by
    have h' : ((prOf d).bind fun p => (prsOf ds).map (p :: ·)) = some ps := h
    obtain ⟨p, h1, h2⟩ := Option.bind_eq_some_iff.mp h'
    obtain ⟨qs, h3, rfl⟩ := Option.map_eq_some_iff.mp h2
    rw [prsOf_some h3, List.map_cons]
    congr 1
    unfold prOf at h1
    split at h1
    · cases h1; rfl
    · cases h1
theorem rp_pairs {K : PySem.W.Frag} {H : Hp} : ∀ {ps : List (Int × Int)} {vs : List V}, RpAll K H vs (ps.map prD) → ∃ ks : List (Addr × List Int), vs = ks.map (fun p => V.ref p.1) ∧ (∀ p ∈ ks, SqT K H p.1 (p.2.map V.int)) ∧ ks.map (·.2) = ps.map fun p => [p.1, p.2]
  | [], _, h => by cases h; exact ⟨[], rfl, fun _ h => (by cases h), rfl⟩
  | p :: ps, _, h => by
    cases h with
    | cons a b =>
      obtain ⟨ks, h1, h2, h3⟩ := rp_pairs b
      subst h1
      cases a with
      | @tup q us _ s1 z rr =>
        have e : us = [V.int p.1, V.int p.2] := by
          cases rr with
          | cons a1 r1 =>
            cases r1 with
            | cons a2 r2 =>
              cases r2; cases a1; cases a2; rfl
        subst e
        refine ⟨(q, [p.1, p.2]) :: ks, rfl, fun x hx => ?_, by rw [List.map_cons, h3]; rfl⟩
        rcases List.mem_cons.mp hx with e | e
        · subst e; exact s1
        · exact h2 x e
/-! ### sets of ints, of pairs -/
structure SetB0 (P : Program) (w : World) (h : Heap) (a : Addr) (L : List (Addr × List Int)) : Prop where
  ex : ∃ (es : Array (Int × Value)) (ep : Nat) (t : SetTable), (∃ o, h.get? a = some o ∧ o.ExactSet ∧ o.data = .set es ep t) ∧ es.toList = rowsOf P w L ∧ TabB t (L.map fun p => thash P w p.2) ∧ (L.map (·.2)).Nodup ∧ t.plain = true ∧
    (w.params.followText "set-order" = true ∨ t.led = true) ∧ L.length * 5 < t.mask * 3 ∧ ∀ p ∈ L, Sm2 p.2
def SetBO (P : Program) (w : World) (a : Addr) (L : List (Addr × List Int)) : HO := .ext fun h => SetB0 P w h a L
theorem SetB.b0 {P : Program} {w : World} {h : Heap} {a : Addr} {L : List (Addr × List Int)} {es : Array (Int × Value)} {ep : Nat} {t : SetTable} (R : SetB P w h a L es ep t) : SetB0 P w h a L :=
  ⟨es, ep, t, R.ob, R.rows, R.tab, R.one, R.plain, R.led, R.room, R.key⟩
theorem SetB0.all {P : Program} {w : World} {h : Heap} {a : Addr} {L : List (Addr × List Int)} (R : SetB0 P w h a L) (ht : ∀ p ∈ L, IsT P w h p.2 p.1) : ∃ es ep t, SetB P w h a L es ep t := by
  obtain ⟨es, ep, t, h1, h2, h3, h4, h5, h6, h7, h8⟩ := R.ex
  exact ⟨es, ep, t, h1, h2, h3, h4, ht, h5, h6, h7, h8⟩
theorem setBO_new {P : Program} {w : World} {H : Hp} {h : Heap} {a : Addr} {L : List (Addr × List Int)} (R : SetB0 P w h a L) : ObjOk P w H h a (SetBO P w a L) := by
  have ⟨es, ep, t, ⟨o, ho, r⟩, q⟩ := R.ex
  refine ⟨R, ⟨o, ho⟩, fun h1 h2 p k => ?_⟩
  have ⟨es', ep', t', ⟨o', ho', r'⟩, q'⟩ := SetB0.ex p
  exact ⟨es', ep', t', ⟨o', k o' ho', r'⟩, q'⟩
/-- a member of a set of pairs, as value and datum -/
def mbr (m : Addr × (Int × Int)) : Value × PyData := (.ref m.1, prD m.2)
def mkey (m : Addr × (Int × Int)) : Addr × List Int := (m.1, [m.2.1, m.2.2])
theorem mbr_le (m n : Addr × (Int × Int)) : PySem.W.dataLe false Prod.snd (mbr m) (mbr n) = decide (m.2.1 < n.2.1 ∨ (m.2.1 = n.2.1 ∧ m.2.2 ≤ n.2.2)) := by
  have h := congrFun (congrFun (PySem.W.dataLe_ii (β := Addr × (Int × Int)) (fun p => p.2.1) (fun p => p.2.2)) m) n
  have e : PySem.W.dataLe false Prod.snd (mbr m) (mbr n) = PySem.W.dataLe false (fun b : Addr × (Int × Int) => PyData.tuple [.int b.2.1, .int b.2.2]) m n := rfl
  rw [e, h]
theorem keys_of : ∀ {L : List (Addr × List Int)}, (∀ p ∈ L, Sm2 p.2) → ∃ M : List (Addr × (Int × Int)), L = M.map mkey ∧ ∀ m ∈ M, True
  | [], _ => ⟨[], rfl, fun _ _ => trivial⟩
  | p :: L, h => by
    obtain ⟨M, rfl, _⟩ := keys_of (L := L) fun q hq => h q (List.mem_cons_of_mem _ hq)
    obtain ⟨a, b, _, _, e⟩ := h p (by simp)
    refine ⟨(p.1, ((a : Int), (b : Int))) :: M, ?_, fun _ _ => trivial⟩
    rw [List.map_cons]
    congr 1
    exact Prod.ext rfl e
theorem isT_reads {P : Program} {w : World} {h : Heap} {m : Addr × (Int × Int)} (x : IsT P w h (mkey m).2 (mkey m).1) : Reads h (mbr m).1 (mbr m).2 [] := by
  obtain ⟨o, items, n, ho, hc, hd, hi⟩ := x
  refine .tuple ho hc hd ?_
  generalize items.toList = vs at hi
  cases hi with
  | cons h1 t1 =>
    cases t1 with
    | cons h2 t2 =>
      cases t2
      obtain ⟨k1, rfl⟩ := Value.isInt_shape h1
      obtain ⟨k2, rfl⟩ := Value.isInt_shape h2
      exact .cons (.int _ _) (.cons (.int _ _) .nil)
/-- a list whose image is a rearrangement of an image is the image of one -/
theorem perm_map_of {α β : Type} {f : α → β} : ∀ {out : List β} {M0 : List α}, out.Perm (M0.map f) → ∃ M : List α, out = M.map f ∧ M.Perm M0
  | [], M0, h => by
    have : M0 = [] := List.map_eq_nil_iff.mp (List.nil_perm.mp h)
    subst this
    exact ⟨[], rfl, List.Perm.refl _⟩
  | o :: out, M0, h => by
    have hm : o ∈ M0.map f := h.mem_iff.mp (by simp)
    obtain ⟨m, hm0, rfl⟩ := List.mem_map.mp hm
    obtain ⟨l1, l2, rfl⟩ := List.append_of_mem hm0
    have pm : (l1 ++ m :: l2).Perm (m :: (l1 ++ l2)) := List.perm_middle
    have h2 : (f m :: out).Perm (f m :: (l1 ++ l2).map f) := h.trans (pm.map f)
    obtain ⟨M, e1, e2⟩ := perm_map_of (List.Perm.cons_inv h2)
    exact ⟨m :: M, by rw [List.map_cons, e1], (e2.cons m).trans pm.symm⟩
section
variable {P : Program} {w : World} {A : Around} {E : Value → Shared → Prop} {s : Shared}
/-- sorted of a set of small pairs -/
theorem sorted_big {a : Addr} {L : List (Addr × List Int)} {es : Array (Int × Value)} {ep : Nat} {t : SetTable} {Q : Value → Shared → Prop} (R : SetB P w s.heap a L es ep t) (hh : A.handled = none) (hu : A.units + 8 < cLine)
    (hQ : ∀ s' p c (M : List (Addr × (Int × Int))), After s s' → s.heap.objs.size ≤ p → (M.map mkey).Perm L → M.Pairwise (fun m n => ltP m.2 n.2 = true) → s'.heap.get? p = some (seqObj "list" (M.map fun m => Value.ref m.1).toArray c) → Q (.ref p) s') :
    wpAny (model P w) A (call (.builtin "sorted") [.ref a]) Q E s := by
  obtain ⟨M0, eL, _⟩ := keys_of R.key
  have small : L.length ≤ sizeLine := by
    obtain ⟨e, _, h2, h3⟩ := R.tab.mask
    have := R.room
    have h4 : 2 ^ e ≤ 2 ^ 24 := Nat.pow_le_pow_right (by decide) h2
    have h5 : (2 : Nat) ^ 24 = 16777216 := by decide
    rw [sizeLine_eq]
    omega
  have hrows : es.toList.map (·.2) = M0.map fun m => (mbr m).1 := by
    rw [R.rows, eL]
    unfold rowsOf
    rw [List.map_map, List.map_map]
    rfl
  refine sorted_gather (Ok := fun bs => ∃ M : List (Addr × (Int × Int)), bs = M.map mbr ∧ M.Perm M0) (dep := 1) (fun Q' k => ?_) (fun bs ok => ?_) (fun bs ok => ?_) (fun bs ok => ?_) (fun bs ok b hb => ?_) (by omega) (fun h' kp bs ok b hb => ?_) fun s' p c bs af sz ok g => ?_
  · obtain ⟨o, ho, hex, hd⟩ := R.ob
    refine gather_plain (A := A.in1) hh ⟨o, ho, hex.1, hd⟩ R.fits R.tab.up R.plain R.led (by rw [rows_len R.rows]; exact small) fun s1 out af pm => ?_
    rw [hrows] at pm
    obtain ⟨M, e1, e2⟩ := perm_map_of pm
    have : out = (M.map mbr).map Prod.fst := by rw [e1, List.map_map]; rfl
    rw [this]
    exact k s1 _ af ⟨M, rfl, e2⟩
  · obtain ⟨M, rfl, _⟩ := ok
    rintro d hd d' hd'
    obtain ⟨_, hb, rfl⟩ := List.mem_map.mp hd
    obtain ⟨_, hb', rfl⟩ := List.mem_map.mp hd'
    obtain ⟨m, _, rfl⟩ := List.mem_map.mp hb
    obtain ⟨n, _, rfl⟩ := List.mem_map.mp hb'
    simp [mbr, prD, PySem.W.alike, PySem.W.alikeAll]
  · obtain ⟨M, rfl, _⟩ := ok
    refine .inl fun d hd => ?_
    obtain ⟨_, hb, rfl⟩ := List.mem_map.mp hd
    obtain ⟨m, _, rfl⟩ := List.mem_map.mp hb
    exact ⟨_, _, rfl⟩
  · obtain ⟨M, rfl, pm⟩ := ok
    rw [List.length_map, pm.length_eq]
    rw [eL, List.length_map] at small
    exact small
  · obtain ⟨M, rfl, _⟩ := ok
    obtain ⟨m, _, rfl⟩ := List.mem_map.mp hb
    simp [mbr, prD, PyData.depth, PyData.depthAll]
  · obtain ⟨M, rfl, pm⟩ := ok
    obtain ⟨m, hm, rfl⟩ := List.mem_map.mp hb
    refine isT_reads (P := P) (w := w) (isT_keep (R.tup (mkey m) ?_) kp)
    rw [eL]
    exact List.mem_map.mpr ⟨m, pm.mem_iff.mp hm, rfl⟩
  · obtain ⟨M, rfl, pm⟩ := ok
    have em : (M.map mbr).mergeSort (PySem.W.dataLe false Prod.snd) = (M.mergeSort fun m n => PySem.W.dataLe false Prod.snd (mbr m) (mbr n)).map mbr := by
      rw [List.map_mergeSort]
      intro x _ y _
      rfl
    rw [em, List.map_map] at g
    have eL2 : (M.mergeSort fun m n => PySem.W.dataLe false Prod.snd (mbr m) (mbr n)).Perm M := List.mergeSort_perm _ _
    have one : (M0.map mkey).map (·.2) = M0.map fun m => (mkey m).2 := by rw [List.map_map]; rfl
    have nd := R.one
    rw [eL, one] at nd
    refine hQ s' p c _ af sz (by rw [eL]; exact ((eL2.trans pm).map mkey)) ?_ g
    have srt : (M.mergeSort fun m n => PySem.W.dataLe false Prod.snd (mbr m) (mbr n)).Pairwise fun m n => PySem.W.dataLe false Prod.snd (mbr m) (mbr n) = true := List.pairwise_mergeSort (fun x y z h1 h2 => by
      rw [mbr_le, decide_eq_true_eq] at *; omega) (fun x y => by
      rw [Bool.or_eq_true, mbr_le, mbr_le, decide_eq_true_eq, decide_eq_true_eq]; omega) M
    have nd2 : (M.mergeSort fun m n => PySem.W.dataLe false Prod.snd (mbr m) (mbr n)).Pairwise fun m n => (mkey m).2 ≠ (mkey n).2 := by
      have := (((eL2.trans pm).map fun m => (mkey m).2).nodup_iff).mpr nd
      exact List.pairwise_map.mp this
    refine (srt.and nd2).imp fun {m n} ⟨h1, h2⟩ => ?_
    rw [mbr_le, decide_eq_true_eq] at h1
    rw [ltP_iff]
    have h3 : ¬ (m.2.1 = n.2.1 ∧ m.2.2 = n.2.2) := fun z => h2 (by show [m.2.1, m.2.2] = [n.2.1, n.2.2]; rw [z.1, z.2])
    omega
def intM (v : Value) : Value × PyData := (v, .int (L2.vInt v))
theorem intM_le (u v : Value) : PySem.W.dataLe false Prod.snd (intM u) (intM v) = decide (L2.vInt u ≤ L2.vInt v) := by
  have h := congrFun (congrFun (PySem.W.dataLe_int (β := Value) L2.vInt) u) v
  exact h
/-- sorted of a set of ints, below 4096 of them -/
theorem sorted_ints {a : Addr} {S : Int → Bool} {n : Nat} {Q : Value → Shared → Prop} (R : SetR w s.heap a S n) (hh : A.handled = none) (hu : A.units + 8 < cLine)
    (hQ : ∀ s' p c (vs : List Value), After s s' → s.heap.objs.size ≤ p → (∀ v ∈ vs, ∃ k tk, v = Value.int k tk) → (vs.map L2.vInt).Pairwise (· < ·) → (∀ k, k ∈ vs.map L2.vInt ↔ S k = true) → vs.length = n → s'.heap.get? p = some (seqObj "list" vs.toArray c) → Q (.ref p) s') :
    wpAny (model P w) A (call (.builtin "sorted") [.ref a]) Q E s := by
  obtain ⟨o, es, ep, t, ho, hex, hd, g, nd, hm, hb, hf, hn, hr, hl⟩ := R
  have ke : es.toList.map keyOf = (es.toList.map (·.2)).map L2.vInt := by
    rw [List.map_map]
    exact List.map_congr_left fun e _ => key_vInt e
  rw [ke] at nd hm
  have isI : ∀ v ∈ es.toList.map (·.2), ∃ k tk, v = Value.int k tk := fun v hv => by
    obtain ⟨e, he, rfl⟩ := List.mem_map.mp hv
    obtain ⟨k, tk, h1, _⟩ := g e he
    exact ⟨k, tk, h1⟩
  have small : (es.toList.map (·.2)).length ≤ sizeLine := by
    rw [List.length_map, Array.length_toList]
    exact fits_of_scanBound hb
  have hl2 : (es.toList.map (·.2)).length = n := by rw [List.length_map, Array.length_toList]; exact hn
  generalize hvs : es.toList.map (·.2) = ws at *
  refine sorted_gather (Ok := fun bs => ∃ vs : List Value, bs = vs.map intM ∧ vs.Perm ws) (dep := 1) (fun Q' k => ?_) (fun bs ok => ?_) (fun bs ok => ?_) (fun bs ok => ?_) (fun bs ok b hb => ?_) (by omega) (fun h' kp bs ok b hb => ?_) fun s' p c bs af sz ok g => ?_
  · refine collect_set (A := A.in1) hh ⟨o, ho, hex.1, hd⟩ hf hb hr hl fun s1 vs k1 hz g1 o1 pm => ?_
    rw [hvs] at pm
    have : vs = (vs.map intM).map Prod.fst := by rw [List.map_map]; exact (List.map_id vs).symm
    rw [this]
    exact k s1 _ ⟨k1, hz, g1, o1⟩ ⟨vs, rfl, pm⟩
  · obtain ⟨vs, rfl, _⟩ := ok
    rintro d hd d' hd'
    obtain ⟨_, hb, rfl⟩ := List.mem_map.mp hd
    obtain ⟨_, hb', rfl⟩ := List.mem_map.mp hd'
    obtain ⟨m, _, rfl⟩ := List.mem_map.mp hb
    obtain ⟨n, _, rfl⟩ := List.mem_map.mp hb'
    simp [intM, PySem.W.alike]
  · obtain ⟨vs, rfl, _⟩ := ok
    refine .inr fun d hd => ?_
    obtain ⟨_, hb, rfl⟩ := List.mem_map.mp hd
    obtain ⟨m, _, rfl⟩ := List.mem_map.mp hb
    exact ⟨(fun e => nomatch e), fun xs e => nomatch e⟩
  · obtain ⟨vs, rfl, pm⟩ := ok
    rw [List.length_map, pm.length_eq]
    exact small
  · obtain ⟨vs, rfl, _⟩ := ok
    obtain ⟨m, _, rfl⟩ := List.mem_map.mp hb
    simp [intM, PyData.depth]
  · obtain ⟨vs, rfl, pm⟩ := ok
    obtain ⟨m, hm2, rfl⟩ := List.mem_map.mp hb
    obtain ⟨k, tk, rfl⟩ := isI m (pm.mem_iff.mp hm2)
    exact .int _ _
  · obtain ⟨vs, rfl, pm⟩ := ok
    have em : (vs.map intM).mergeSort (PySem.W.dataLe false Prod.snd) = (vs.mergeSort fun m n => PySem.W.dataLe false Prod.snd (intM m) (intM n)).map intM := by
      rw [List.map_mergeSort]
      intro x _ y _
      rfl
    have p2 : (vs.mergeSort fun m n => PySem.W.dataLe false Prod.snd (intM m) (intM n)).Perm ws := (List.mergeSort_perm _ _).trans pm
    have srt : (vs.mergeSort fun m n => PySem.W.dataLe false Prod.snd (intM m) (intM n)).Pairwise fun m n => PySem.W.dataLe false Prod.snd (intM m) (intM n) = true := List.pairwise_mergeSort (fun x y z h1 h2 => by
      rw [intM_le, decide_eq_true_eq] at *; omega) (fun x y => by
      rw [Bool.or_eq_true, intM_le, intM_le, decide_eq_true_eq, decide_eq_true_eq]; omega) vs
    rw [em, List.map_map] at g
    generalize vs.mergeSort (fun m n => PySem.W.dataLe false Prod.snd (intM m) (intM n)) = us at *
    have eu : us.map (Prod.fst ∘ intM) = us := List.map_id us
    rw [eu] at g
    refine hQ s' p c us af sz (fun v hv => isI v (p2.mem_iff.mp hv)) ?_ (fun k => by rw [(p2.map L2.vInt).mem_iff, hm k]) (by rw [p2.length_eq]; exact hl2) g
    have nd2 : us.Pairwise fun m n => L2.vInt m ≠ L2.vInt n := List.pairwise_map.mp ((p2.map L2.vInt).nodup_iff.mpr nd)
    refine List.pairwise_map.mpr ((srt.and nd2).imp fun {m n} ⟨h1, h2⟩ => ?_)
    rw [intM_le, decide_eq_true_eq] at h1
    omega
end
section
variable {X : Cx}
def rSetTI (K : PySem.W.Frag) (w : World) : List V → Hp → VK → Prop := fun xs H Q => ∃ (p : Addr) (ns : List Int), xs = [V.ref p] ∧ SqT K H p (ns.map V.int) ∧ ns.length ≤ 4000 ∧
  ∀ a n, H a = none → n ≤ ns.length → Q (.ref a) (upd H a (SetO w a (fun j => decide (j ∈ ns)) n))
def rSetTB (K : PySem.W.Frag) (P : Program) (w : World) : List V → Hp → VK → Prop := fun xs H Q => ∃ (p : Addr) (ks : List (Addr × List Int)), xs = [V.ref p] ∧ SqT K H p (ks.map fun q => V.ref q.1) ∧ (∀ q ∈ ks, SqT K H q.1 (q.2.map V.int)) ∧ ks.length ≤ 69000 ∧ (∀ q ∈ ks, Sm2 q.2) ∧
  ∀ a L, H a = none → L.length ≤ ks.length → (∀ q ∈ L, q ∈ ks) → (∀ q ∈ ks, q.2 ∈ L.map (·.2)) → Q (.ref a) (upd H a (SetBO P w a L))
theorem cr_setTI (hc : X.calm = true) : CallR X (.type "set") (rSetTI X.K X.w) := by
  intro pins s σ H xs us Q I r h
  obtain ⟨p, ns, rfl, hp, hf, q⟩ := h
  rw [Vals.ref1 r]
  obtain ⟨its, rv, ht, hz⟩ := I.tuple hp
  have hn : H s.heap.objs.size = none := I.hok.fresh (Nat.le_refl _)
  have hI : IntsAre its.toArray.toList ns := intsAre_of rv
  refine call_set_tupI (P := X.prog) (w := X.w) ns (I.ok.hd hc) ht hI (by show ns.length + 1 < 4096; omega) fun h' tk c R hcl kp => ?_
  exact ⟨.ref s.heap.objs.size, _, I.laid (t' := tk) kp (Nat.le_refl _) (setO_new R), rfl, q _ c hn hcl⟩
theorem cr_setTB (hc : X.calm = true) (hu : X.A.units + 64 < cLine) : CallR X (.type "set") (rSetTB X.K X.prog X.w) := by
  intro pins s σ H xs us Q I r h
  obtain ⟨l, ks, rfl, hl, hk, hf, sm, q⟩ := h
  rw [Vals.ref1 r]
  obtain ⟨its, rv, ht, hz⟩ := I.tuple hl
  have hn : H s.heap.objs.size = none := I.hok.fresh (Nat.le_refl _)
  refine call_set_big (P := X.prog) (w := X.w) ks (I.ok.hd hc) ht (by simpa using refs_of_vals rv) (fun p hp => Inv.isT I (hk p hp)) hf sm (by omega) fun h' tk L es ep t R g kp => ?_
  refine ⟨.ref s.heap.objs.size, _, I.laid (t' := tk) kp (Nat.le_refl _) (setBO_new R.b0), rfl, q _ L hn g.len (fun p hp => ?_) fun p hp => ?_⟩
  · exact List.mem_of_mem_take (g.sub p hp)
  · exact g.all p (by rw [List.take_length]; exact hp)
def rSortI (w : World) : List V → Hp → VK → Prop := fun xs H Q => ∃ (a : Addr) (S : Int → Bool) (n : Nat), xs = [V.ref a] ∧ H a = some (SetO w a S n) ∧ n ≤ 4000 ∧
  ∀ (ms : List Int) b, ms.Pairwise (· < ·) → (∀ k, k ∈ ms ↔ S k = true) → ms.length = n → H b = none → Q (.ref b) (upd H b (.lst (ms.map V.int)))
def rSortB (K : PySem.W.Frag) (P : Program) (w : World) : List V → Hp → VK → Prop := fun xs H Q => ∃ (a : Addr) (L : List (Addr × List Int)), xs = [V.ref a] ∧ H a = some (SetBO P w a L) ∧ (∀ q ∈ L, SqT K H q.1 (q.2.map V.int)) ∧ L.length ≤ 69000 ∧
  ∀ (M : List (Addr × (Int × Int))) b, (M.map mkey).Perm L → M.Pairwise (fun m n => ltP m.2 n.2 = true) → H b = none → Q (.ref b) (upd H b (.lst (M.map fun m => V.ref m.1)))
theorem after_eq {s s' : Shared} (h : After s s') : s' = { s with heap := s'.heap, gens := s'.gens, drawn := s'.drawn, toks := s'.toks } := by
  have e := h.os
  cases s'
  cases s
  dsimp only at e
  subst e
  rfl
theorem vals_ints : ∀ (vs : List Value), (∀ v ∈ vs, ∃ k tk, v = Value.int k tk) → Vals ((vs.map L2.vInt).map V.int) vs
  | [], _ => .nil
  | v :: vs, h => by
    obtain ⟨k, tk, rfl⟩ := h v (by simp)
    exact .cons ⟨tk, rfl⟩ (vals_ints vs fun u hu => h u (List.mem_cons_of_mem _ hu))
theorem vals_mrefs : ∀ (M : List (Addr × (Int × Int))), Vals (M.map fun m => V.ref m.1) (M.map fun m => Value.ref m.1)
  | [] => .nil
  | m :: M => .cons rfl (vals_mrefs M)
theorem cr_sortI (hc : X.calm = true) (hu : X.A.units + 8 < cLine) : CallR X (.builtin "sorted") (rSortI X.w) := by
  intro pins s σ H xs us Q I r h
  obtain ⟨a, S, n, rfl, ha, hn, q⟩ := h
  have R : SetR X.w s.heap a S n := (I.hok a _ ha).1
  rw [Vals.ref1 r]
  refine sorted_ints R (I.ok.hd hc) hu fun s' p c vs af sz hi pw hm hl g => ?_
  have hnp : H p = none := I.hok.fresh sz
  have hlen : ((vs.map L2.vInt).map V.int).length ≤ sizeLine := by rw [List.length_map, List.length_map, sizeLine_eq]; omega
  have J : Inv X pins σ (upd H p (.lst ((vs.map L2.vInt).map V.int))) { s with heap := s'.heap, gens := s'.gens, drawn := s'.drawn, toks := s'.toks } :=
    I.call (ch := []) (Un.laid af.keep sz hnp) (I.hok.laid af.keep sz ⟨hlen, vs, c, vals_ints vs hi, g⟩) (by rw [af.gens]; exact I.bare) (fun _ z => nomatch z)
  rw [after_eq af]
  exact ⟨.ref p, _, J, rfl, q (vs.map L2.vInt) p pw hm (by rw [List.length_map]; exact hl) hnp⟩
theorem cr_sortB (hc : X.calm = true) (hu : X.A.units + 8 < cLine) : CallR X (.builtin "sorted") (rSortB X.K X.prog X.w) := by
  intro pins s σ H xs us Q I r h
  obtain ⟨a, L, rfl, ha, hk, hf, q⟩ := h
  have R0 : SetB0 X.prog X.w s.heap a L := (I.hok a _ ha).1
  obtain ⟨es, ep, t, R⟩ := R0.all fun p hp => Inv.isT I (hk p hp)
  rw [Vals.ref1 r]
  refine sorted_big R (I.ok.hd hc) hu fun s' p c M af sz pm pw g => ?_
  have hnp : H p = none := I.hok.fresh sz
  have hml : M.length = L.length := by have := pm.length_eq; rwa [List.length_map] at this
  have hlen : (M.map fun m => V.ref m.1).length ≤ sizeLine := by rw [List.length_map, hml, sizeLine_eq]; omega
  have J : Inv X pins σ (upd H p (.lst (M.map fun m => V.ref m.1))) { s with heap := s'.heap, gens := s'.gens, drawn := s'.drawn, toks := s'.toks } :=
    I.call (ch := []) (Un.laid af.keep sz hnp) (I.hok.laid af.keep sz ⟨hlen, _, c, vals_mrefs M, g⟩) (by rw [af.gens]; exact I.bare) (fun _ z => nomatch z)
  rw [after_eq af]
  exact ⟨.ref p, _, J, rfl, q M p pm pw hnp⟩
theorem pf_sset {a : Expr} {fa : Rho → Option PyData} {p p2 q pos : Pos} (hc : X.calm = true) (hu : X.A.units + 65 < cLine) (hg : Gl X "sorted") (hm : X.mg "sorted" = none) (hg2 : Gl X "set") (hm2 : X.mg "set" = none) (ha : PE X a (tBm X.K fa))
    (st : ∀ es, starEach (a :: es) X.env = (false, eval a X.env) :: starEach es X.env) :
    PE X (.Call (.Name "sorted" p) [.Call (.Name "set" p2) [a] [] q] [] pos) (tF X.K fun ρ => (fa ρ).bind ssetD) := by
  have h1 := pe_callTy (CallR.or (cr_setTI hc) (cr_setTB hc (by omega))) hg2 hm2 (x := "set") (p := p2) (pos := q) (by decide +kernel) (pa_one ha (st [])) (by decide) (by decide) (st []) rfl
  have h2 := pe_callB (CallR.or (cr_sortI hc (by omega)) (cr_sortB hc (by omega))) hg hm (x := "sorted") (p := p) (pos := pos) PyProof.Rows.boot_sorted (pa_cons h1 pa_nil) (by decide) (by decide) rfl rfl
  refine PEimp h2 fun σ H Q ⟨Hf, ρ, d, er, hd, k⟩ => ?_
  obtain ⟨x, e1, hd⟩ := Option.bind_eq_some_iff.mp hd
  refine ⟨Hf, ρ, x, er, e1, fun v H1 Hf1 e rb => ?_⟩
  cases x with
  | tuple ds =>
    obtain ⟨t, vs, rfl, s1, z, rr⟩ := rb.tuple
    have hd' : (match intsOf ds with
      | some ns => if decide (ns.length ≤ 4000) then some (PyData.list ((setI ns).map .int)) else none
      | none => (prsOf ds).bind fun ps => if decide (ps.length ≤ 69000) && ps.all in256 then some (.list ((setP ps).map prD)) else none) = some d := hd
    cases hi : intsOf ds with
    | some ns =>
      rw [hi] at hd'
      obtain ⟨c, rfl⟩ := ite_some hd'
      have c : ns.length ≤ 4000 := by simpa using c
      rw [intsOf_some hi] at rr
      rw [rr.ints] at s1
      refine .inl ⟨t, ns, rfl, sqT_mono e.sub.same s1, c, fun a n hn hle => ?_⟩
      refine .inl ⟨a, _, n, rfl, upd_same, by omega, fun ms b rs mm hl hb => ?_⟩
      have em : ms = setI ns := setI_uniq rs fun x => by rw [mm x]; simp
      rw [← em] at k
      have e3 : Ext H1 Hf1 (upd (upd H1 a (SetO X.w a (fun j => decide (j ∈ ns)) n)) b (.lst (ms.map V.int))) (upd Hf1 b (.lst (ms.map V.int))) :=
        (Ext.allocO e.sub hn _).trans (Ext.alloc (Ext.allocO e.sub hn _).sub hb _)
      exact k _ _ _ (e.trans e3) (.lst (.of upd_same) (by rw [List.length_map, hl, sizeLine_eq]; omega) (RpAll.of_ints ms))
    | none =>
      rw [hi] at hd'
      obtain ⟨ps, h3, h4⟩ := Option.bind_eq_some_iff.mp hd'
      obtain ⟨h5, rfl⟩ := ite_some h4
      rw [Bool.and_eq_true, decide_eq_true_eq] at h5
      obtain ⟨h6, h5⟩ := h5
      rw [prsOf_some h3] at rr
      obtain ⟨ks, rfl, hk, hks⟩ := rp_pairs rr
      have hkl : ks.length = ps.length := by have := congrArg List.length hks; simpa using this
      have bd : ∀ pr ∈ ps, 0 ≤ pr.1 ∧ pr.1 < 256 ∧ 0 ≤ pr.2 ∧ pr.2 < 256 := fun pr hp => by
        have := List.all_eq_true.mp h5 pr hp
        simp only [in256, Bool.and_eq_true, decide_eq_true_eq] at this
        exact ⟨this.1.1.1, this.1.1.2, this.1.2, this.2⟩
      have kin : ∀ q ∈ ks, ∃ pr ∈ ps, q.2 = [pr.1, pr.2] := fun q hq => by
        have : q.2 ∈ ks.map (·.2) := List.mem_map.mpr ⟨q, hq, rfl⟩
        rw [hks] at this
        obtain ⟨pr, h6, h7⟩ := List.mem_map.mp this
        exact ⟨pr, h6, h7.symm⟩
      have sm : ∀ q ∈ ks, Sm2 q.2 := fun q hq => by
        obtain ⟨pr, h7, h8⟩ := kin q hq
        obtain ⟨b1, b2, b3, b4⟩ := bd pr h7
        exact ⟨pr.1.toNat, pr.2.toNat, by omega, by omega, by rw [h8, Int.toNat_of_nonneg b1, Int.toNat_of_nonneg b3]⟩
      refine .inr ⟨t, ks, rfl, sqT_mono e.sub.same s1, fun q hq => sqT_mono e.sub.same (hk q hq), by omega, sm, fun a L hn ll sub all => ?_⟩
      have e2 := Ext.allocO e.sub hn (SetBO X.prog X.w a L)
      refine .inr ⟨a, L, rfl, upd_same, fun q hq => sqT_mono e2.sub.same (hk q (sub q hq)), ?_, fun M b pm pw hb => ?_⟩
      · omega
      · have hM : ∀ m ∈ M, m.2 ∈ ps ∧ SqT X.K Hf1 m.1 ([m.2.1, m.2.2].map V.int) := fun m hm => by
          have h7 : mkey m ∈ L := pm.mem_iff.mp (List.mem_map.mpr ⟨m, hm, rfl⟩)
          obtain ⟨pr, h8, h9⟩ := kin _ (sub _ h7)
          have h10 := hk _ (sub _ h7)
          have e5 : m.2 = pr := by
            have h9' : [m.2.1, m.2.2] = [pr.1, pr.2] := h9
            injection h9' with e5 e6
            injection e6 with e6 _
            exact Prod.ext e5 e6
          exact ⟨e5 ▸ h8, h10⟩
        have eq : M.map (·.2) = setP ps := by
          refine setP_uniq (List.pairwise_map.mpr pw) fun x => ⟨fun hx => ?_, fun hx => ?_⟩
          · obtain ⟨m, hm, rfl⟩ := List.mem_map.mp hx
            exact (hM m hm).1
          · have h6 : [x.1, x.2] ∈ ks.map (·.2) := by rw [hks]; exact List.mem_map.mpr ⟨x, hx, rfl⟩
            obtain ⟨kq, h7, h8⟩ := List.mem_map.mp h6
            obtain ⟨l, h9, h10⟩ := List.mem_map.mp (all kq h7)
            obtain ⟨m, h11, h12⟩ := List.mem_map.mp (pm.mem_iff.mpr h9)
            refine List.mem_map.mpr ⟨m, h11, ?_⟩
            have h13 : [m.2.1, m.2.2] = [x.1, x.2] := by rw [← h8, ← h10, ← h12]; rfl
            injection h13 with e5 e6
            injection e6 with e6 _
            exact Prod.ext e5 e6
        have rp : ∀ M : List (Addr × (Int × Int)), (∀ m ∈ M, SqT X.K Hf1 m.1 ([m.2.1, m.2.2].map V.int)) → RpAll X.K Hf1 (M.map fun m => V.ref m.1) ((M.map (·.2)).map prD) := by
          intro M
          induction M with
          | nil => exact fun _ => .nil
          | cons m M ih =>
            intro h
            exact .cons (.tup (h m (by simp)) (by show 2 ≤ sizeLine; decide) (RpAll.of_ints [m.2.1, m.2.2])) (ih fun n hn => h n (List.mem_cons_of_mem _ hn))
        have q3 := rp M fun m hm => (hM m hm).2
        rw [eq] at q3
        have ml : M.length ≤ sizeLine := by
          have h0 := pm.length_eq
          rw [List.length_map] at h0
          rw [sizeLine_eq]; omega
        refine k _ _ (upd Hf1 b (.lst (M.map fun m => V.ref m.1))) (e.trans (e2.trans (Ext.alloc e2.sub hb _))) (.lst (.of upd_same) (by rw [List.length_map]; exact ml) (q3.mono (same_upd (sub_none e2.sub hb) _) _ _))
  | _ => exact nomatch hd

/-! ### a module's dict, texts as keys -/
def GDic (K : PySem.W.Frag) (w : World) (v : V) (kvs : List (PyData × PyData)) : Prop := ∃ p es n, v = .ref p ∧ KDict K w p es n ∧ ∀ z, ∃ r, PySem.W.nsIn K p z = some r ∧
  (∀ d, dkGet kvs z = some d → ∃ u v0, r = some u ∧ RelV v0 u ∧ ∀ H, Rp K H v0 d) ∧ (dkGet kvs z = none → r = none)
variable {a b : Expr} {fa : Rho → Option PyData} {v : V} {kvs : List (PyData × PyData)} {pos : Pos}
def rGd (K : PySem.W.Frag) (neg : Bool) (v : V) (kvs : List (PyData × PyData)) : R2 := fun x y H Q => ∃ z, x = .str z ∧ y = v ∧ Q (.bl (xor neg (dkGet kvs z).isSome)) H
theorem gd_op {neg : Bool} (D : GDic X.K X.w v kvs) : OpR X (compareOp (if neg then .NotIn else .In)) (rGd X.K neg v kvs) := by
  obtain ⟨p, es, n, rfl, D1, D2⟩ := D
  cases neg with
  | false =>
    refine OpR.imp (op_in_kd D1) fun x y H Q ⟨z, h1, h2, q⟩ => ?_
    obtain ⟨r, g1, g2, g3⟩ := D2 z
    refine ⟨z, r, h1, h2, g1, ?_⟩
    cases c : dkGet kvs z with
    | none => rw [g3 c]; rw [c] at q; exact q
    | some d =>
      obtain ⟨u, v0, e, _⟩ := g2 d c
      rw [e]; rw [c] at q; exact q
  | true =>
    refine OpR.imp (op_notIn_kd D1) fun x y H Q ⟨z, h1, h2, q⟩ => ?_
    obtain ⟨r, g1, g2, g3⟩ := D2 z
    refine ⟨z, r, h1, h2, g1, ?_⟩
    cases c : dkGet kvs z with
    | none => rw [g3 c]; rw [c] at q; exact q
    | some d =>
      obtain ⟨u, v0, e, _⟩ := g2 d c
      rw [e]; rw [c] at q; exact q
theorem gd_in {neg : Bool} {σ : L2.St} {H : Hp} {Q : VK} (h : tF X.K (fun ρ => (fa ρ).bind fun x => gdHas neg (some (.dict kvs)) x) σ H Q) : tOp (rGd X.K neg v kvs) (tF X.K fa) (tC v) σ H Q := by
  obtain ⟨Hf, ρ, d, er, hd, k⟩ := h
  obtain ⟨x, h1, hd⟩ := Option.bind_eq_some_iff.mp hd
  refine ⟨Hf, ρ, x, er, h1, fun u H1 Hf1 e r => ?_⟩
  cases x with
  | str z =>
    cases r
    have hd' : some (PyData.bool (xor neg (dkGet kvs z).isSome)) = some d := hd
    cases hd'
    exact ⟨z, rfl, rfl, (k.ext e).here e.sub (.bl _)⟩
  | _ => exact nomatch hd
theorem pf_inG {neg : Bool} (D : GDic X.K X.w v kvs) (ha : PE X a (tF X.K fa)) (hb : PE X b (tC v)) (hm : behindInMarks (if neg then .NotIn else .In) b = false) :
    PE X (.Compare a [if neg then .NotIn else .In] [b] pos) (tF X.K fun ρ => (fa ρ).bind fun x => gdHas neg (some (.dict kvs)) x) :=
  PEimp (pe_cmpR (gd_op D) ha hb hm) fun σ H Q h => gd_in h
theorem ptt_inG {neg : Bool} (D : GDic X.K X.w v kvs) (ha : PE X a (tF X.K fa)) (hb : PE X b (tC v)) (hm : behindInMarks (if neg then .NotIn else .In) b = false) :
    PT X (.Compare a [if neg then .NotIn else .In] [b] pos) (tT X.K fun ρ => (fa ρ).bind fun x => gdHas neg (some (.dict kvs)) x) := by
  refine PTimp (pt_cmpR (gd_op D) ha hb hm) fun σ H Q ⟨Hf, ρ, d, er, hd, k⟩ => ?_
  refine gd_in ⟨Hf, ρ, _, er, boolOf_some hd, fun v H' Hf' e r => ?_⟩
  cases r
  exact ⟨d, rfl, k H' Hf' e⟩
theorem pf_pickG (D : GDic X.K X.w v kvs) (ha : PE X a (tF X.K fa)) (hb : PE X b (tC v)) (hs : PlainIx a) : PE X (.Subscript b a pos) (tF X.K fun ρ => (fa ρ).bind fun x => gdGet (some (.dict kvs)) x) := by
  obtain ⟨p, es, n, rfl, D1, D2⟩ := D
  refine PEimp (pe_ix ix_kdict hb ha hs) fun σ H Q ⟨Hf, ρ, d, er, hd, k⟩ => ?_
  obtain ⟨x, h1, hd⟩ := Option.bind_eq_some_iff.mp hd
  refine ⟨Hf, ρ, x, er, h1, fun u H1 Hf1 e r => ?_⟩
  cases x with
  | str z =>
    cases r
    have hd' : dkGet kvs z = some d := hd
    obtain ⟨r, g1, g2, g3⟩ := D2 z
    obtain ⟨u, v0, rfl, g4, g5⟩ := g2 d hd'
    exact ⟨p, z, v0, rfl, rfl, ⟨es, n, u, D1.at_, D1.lit, g1, g4⟩, (k.ext e).here e.sub (g5 _)⟩
  | _ => exact nomatch hd
end
/-! ### a if c else b as a test -/
section
variable {X : Cx} {a b c : Expr} {fa fb fc : Rho → Option PyData} {pos : Pos}
theorem ptt_ife (hc : PT X c (tT X.K fc)) (ha : PT X a (tT X.K fa)) (hb : PT X b (tT X.K fb)) : PT X (.IfExp c a b pos) (tT X.K fun ρ => (boolOf (fc ρ)).bind fun x => if x then fa ρ else fb ρ) := by
  refine ⟨fun pins s σ H Q I ⟨Hf, ρ, d, er, hd, k⟩ => ?_⟩
  obtain ⟨x, h1, hd⟩ := Option.bind_eq_some_iff.mp (boolOf_some hd)
  refine isTrue_IfExp (thn (hc.run pins s σ H (fun y H1 => y = x ∧ ∃ Hf1, Ext H Hf H1 Hf1) I ⟨Hf, ρ, x, er, h1, fun H1 Hf1 e => ⟨rfl, Hf1, e⟩⟩) fun y s1 ⟨H1, I1, e1, Hf1, e⟩ => ?_)
  subst e1
  cases y with
  | true => exact ha.run pins s1 σ H1 Q I1 ⟨Hf1, ρ, d, er.ext e, by rw [show fa ρ = some (.bool d) from hd]; rfl, fun H2 Hf2 e2 => k H2 Hf2 (e.trans e2)⟩
  | false => exact hb.run pins s1 σ H1 Q I1 ⟨Hf1, ρ, d, er.ext e, by rw [show fb ρ = some (.bool d) from hd]; rfl, fun H2 Hf2 e2 => k H2 Hf2 (e.trans e2)⟩
end
end Ev

/-! EvL: sorted(range(n), key=lambda k: ..). -/
namespace Ev
variable [Memo]
open PySem PySem.Spec PyProof.Rows L2
/-- what is known where a key function is made -/
structure LamOk (X : Cx) where
  c : Addr
  P : Addr
  code : X.env.code = .ref c
  tb : LamX.TabB X.base X.mg c P
  get : ∀ H Hf, Memo.inv H Hf → LamX.TabS H P (X.env.qual ++ "<lambda>")
  may : ∀ Hf p, ¬ Memo.may Hf p
  put : ∀ H Hf H1, Memo.inv H Hf → LamX.TabS H1 P (X.env.qual ++ "<lambda>") → Memo.inv H1 Hf
abbrev keyO (X : Cx) (params : Arguments) (body : Expr) (scope : Scope) (pm ctv : Value) (c' : Addr) : Obj :=
  PySem.W.kla_obj "<lambda>" (X.env.qual ++ "<lambda>") params body scope (cloFrom X.env.cells scope.names []) pm c' ctv
theorem fn_nocell {X : Cx} {params : Arguments} {body : Expr} {scope : Scope} {pm ctv : Value} {c' : Addr} (v : Option Value) : (keyO X params body scope pm ctv c').data ≠ .cell v := fun z => by cases z
/-- the table has one code object more -/
theorem tab_more {H : Hp} {P c' : Addr} {q : Str} {pos : Pos} {ps : Array Value} (hP : H P = some (.tbl ps)) (nC : H c' = none) (t : TriplesOk ps.toList) (al : ∀ (p : Pos) (cv : Value), codeAmong p ps.toList = some cv → ∃ c, cv = .ref c ∧ H c = some (LamX.CodeO c q)) :
    LamX.TabS (upd (upd H P (.tbl (ps ++ #[rawInt pos.line, rawInt pos.col, .ref c']))) c' (LamX.CodeO c' q)) P q := by
  have hne : P ≠ c' := fun z => by subst z; rw [hP] at nC; cases nC
  refine ⟨ps ++ #[rawInt pos.line, rawInt pos.col, .ref c'], ?_, ?_, ?_⟩
  · rw [upd_ne hne, upd_same]
  · rw [Array.toList_append]
    exact PySem.TriplesOk_snoc _ _ _ _ t
  · intro p cv hcv
    rw [Array.toList_append] at hcv
    rcases LamX.among_app ps.toList t hcv with old | new
    · obtain ⟨c, rfl, hc⟩ := al p cv old
      refine ⟨c, rfl, ?_⟩
      have n1 : c ≠ c' := fun z => by subst z; rw [hc] at nC; cases nC
      have n2 : c ≠ P := fun z => by subst z; rw [hP] at hc; cases hc
      rw [upd_ne n1, upd_ne n2]
      exact hc
    · exact ⟨c', new, upd_same⟩
/-- the key function is made -/
theorem lam_mk {X : Cx} {pins : List (Addr × Obj)} {σ : L2.St} {H Hf : Hp} {s : Shared} {params : Arguments} {body : Expr} {scope : Scope} {pos : Pos} {E Q : Value → Shared → Prop} (I : Inv X pins σ H s) (L : LamOk X) (sub : Sub H Hf) (hd : defaultsOf params X.env = ([], []))
    (hv : ∀ y ∈ scope.names, y.2 = .free → ∃ c, X.env.cells.lookup y.1 = some c)
    (k : ∀ (f c' : Addr) (pm ctv : Value) (H1 : Hp) (s1 : Shared), Ext H Hf H1 Hf → H1 c' = some (LamX.CodeO c' (X.env.qual ++ "<lambda>")) → Inv X ((f, keyO X params body scope pm ctv c') :: pins) σ H1 s1 → Q (.ref f) s1) :
    wpAny (model X.prog X.w) X.A (eval (.Lambda params body scope pos) X.env) Q E s := by
  obtain ⟨ps, hP, tr, al⟩ := L.get H Hf sub.inv
  have bm := L.tb.bm.keeps I.bk
  have code := L.tb.code.keeps I.bk
  have glob := I.mod.glob.keeps I.bk
  have inH : s.heap.get? L.P = some { cls := .none, data := .fields ps } := I.hok L.P _ hP
  have fin : ∀ {f c' : Addr} {pm ctv : Value} {H1 : Hp} {s1 : Shared}, s.heap.objs.size ≤ f → Inv X pins σ H1 s1 → H1 f = none → s1.heap.get? f = some (keyO X params body scope pm ctv c') → Inv X ((f, keyO X params body scope pm ctv c') :: pins) σ H1 s1 :=
    fun {f c' pm ctv H1 s1} hs J n g => J.pins_of fun p hp => by
      rcases List.mem_cons.mp hp with e | e
      · subst e
        exact ⟨g, n, Nat.ne_of_gt (Nat.lt_of_lt_of_le I.lt hs), I.nofs hs, fn_nocell⟩
      · exact J.pin p (List.mem_append_right _ e)
  refine PySem.W.kla_eval hd ?_
  cases hc : codeAmong pos ps.toList with
  | some cv =>
    obtain ⟨c', rfl, hco⟩ := al pos cv hc
    refine PySem.W.kla_makeFunctionHit (closure_ok hv) I.ok.glob glob L.code code inH tr hc bm fun ctv h' tk kp hs => ?_
    have J : Inv X pins σ H { s with heap := h', toks := tk } := I.kept kp
    have J2 := J.kept (t' := tk) (h' := h'.push (keyO X params body scope ((X.mg "__name__").getD .none) ctv c')) fun b o e => Heap.get?_push_of_some _ e
    exact k _ c' _ ctv H _ (Ext.refl sub) hco (fin hs J2 (J.hok.fresh (Nat.le_refl _)) (Heap.get?_push_size _ rfl))
  | none =>
    refine PySem.W.kla_makeFunction (closure_ok hv) I.ok.glob glob L.code code inH tr hc L.tb.gP bm fun c' ctv h' tk kp h1 h2 hrec htab => ?_
    obtain ⟨c2, oc, flds, t, e2, g1, g2, g3⟩ := hrec
    cases e2
    have nC : H c' = none := I.hok.fresh h1
    have T1 := tab_more (pos := pos) hP nC tr al
    have hs : s.heap.objs.size ≤ h'.objs.size := by omega
    have J := LamX.inv_table (t' := tk) (more := #[rawInt pos.line, rawInt pos.col, .ref c']) (h' := h'.push (keyO X params body scope ((X.mg "__name__").getD .none) ctv c')) I hP
      (fun b o hb e => Heap.get?_push_of_some _ (kp b o hb e)) (Heap.get?_push_of_some _ htab) h1 ⟨oc, flds, t, Heap.get?_push_of_some _ g1, g2, g3⟩
    have old : ∀ b o, hard o → H b = some o → upd (upd H L.P (.tbl (ps ++ #[rawInt pos.line, rawInt pos.col, .ref c']))) c' (LamX.CodeO c' (X.env.qual ++ "<lambda>")) b = some o := fun b o ho e => by
      have n1 : b ≠ c' := ne_of_none e nC
      have n2 : b ≠ L.P := fun z => by subst z; rw [hP] at e; cases e; exact ho.elim
      rw [upd_ne n1, upd_ne n2]
      exact e
    have ex : Ext H Hf (upd (upd H L.P (.tbl (ps ++ #[rawInt pos.line, rawInt pos.col, .ref c']))) c' (LamX.CodeO c' (X.env.qual ++ "<lambda>"))) Hf := by
      refine ⟨fun b o e => ?_, Same.refl _, sub, ⟨fun b o e => by
        have e' := sub.same b o e
        rcases sub.hd b o e with h | ⟨⟨φ, rfl⟩, _⟩
        · exact old b o h e'
        · have n1 : b ≠ c' := ne_of_none e' nC
          have n2 : b ≠ L.P := fun z => by subst z; rw [hP] at e'; cases e'
          rw [upd_ne n1, upd_ne n2]
          exact e', L.put H Hf _ sub.inv T1, sub.hd⟩, fun _ _ z => .inl z, fun _ z => .inl z⟩
      have n1 : b ≠ c' := ne_of_none e nC
      by_cases n2 : b = L.P
      · subst n2
        rw [hP] at e
        cases e
        exact .inr (.inr ⟨ps, _, rfl, by rw [upd_ne n1, upd_same]⟩)
      · exact .inl (by rw [upd_ne n1, upd_ne n2]; exact e)
    refine k _ c' _ ctv _ _ ex upd_same (fin hs J ?_ (Heap.get?_push_size _ rfl))
    have n1 : h'.objs.size ≠ c' := by omega
    have n2 : h'.objs.size ≠ L.P := Nat.ne_of_gt (Nat.lt_of_lt_of_le (Heap.lt_size inH) hs)
    rw [upd_ne n1, upd_ne n2]
    exact I.hok.fresh hs
/-- the key function's names: its parameter, what it captured -/
structure LamS (X : Cx) (scope : Scope) (q : Str) (fr : List Str) (js : List Nat) (params : Arguments) (body : Expr) : Prop where
  S : NdefX.NScope (q :: fr) [q] fr scope
  free : ∀ y ∈ scope.names, y.2 = .free → X.env.scope.names.lookup y.1 = some .cell ∨ X.env.scope.names.lookup y.1 = some .free
  frs : ∀ y ∈ fr, (y, NameKind.free) ∈ scope.names
  js : js.map (fun j => X.N[j]?) = fr.map some
  bind : ∀ (qual : Str) (cl : List (Str × Addr)) (pm cv ctv u : Value), bindArgs (PySem.W.kla_fn "<lambda>" qual params body scope cl pm cv ctv) ⟨[u], []⟩ = pure [(q, u)]
abbrev lamF (X : Cx) (params : Arguments) (scope : Scope) (c' : Addr) : NdefX.NF := ⟨"<lambda>", X.env.qual ++ "<lambda>", params, [], scope, cloFrom X.env.cells scope.names [], c'⟩
/-- the context of its body -/
abbrev lamX (X : Cx) (q : Str) (fr : List Str) (params : Arguments) (scope : Scope) (f c' : Addr) (s : Shared) (H : Hp) : Cx :=
  (NdefX.ncx CX0 X.prog X.w X.K X.mg X.base (q :: fr) (lamF X params scope c') f X.A.in1.in1 X.stack s H fun _ _ _ => False).nox
theorem lam_run {X : Cx} {pins : List (Addr × Obj)} {σ : L2.St} {H : Hp} {s : Shared} {f c' : Addr} {pm ctv : Value} {params : Arguments} {body : Expr} {scope : Scope} {q : Str} {fr : List Str} {js : List Nat} {k : Nat} {v : V} {u : Value} {Q : VK} {te : TE}
    (I : Inv X pins σ H s) (M : LamS X scope q fr js params body) (ho : s.heap.get? f = some (keyO X params body scope pm ctv c')) (hc : H c' = some (LamX.CodeO c' (X.env.qual ++ "<lambda>"))) (hr : Room (k + 1) X.A.in1.in1) (rv : RelV v u)
    (hb : Room k (X.A.in1.in1.deeper (NdefX.envF (lamF X params scope c') f s.heap.objs.size)) → PE (lamX X q fr params scope f c' s H) body te) (ht : te (NdefX.startF (q :: fr) [v] (js.map (NdefX.slotAt σ))) H Q) :
    wpAny (model X.prog X.w) X.A.in1.in1 (call (.ref f) [u]) (EP X pins σ Q) (fun _ _ => False) s := by
  have C : NdefX.CellsAt (cloFrom X.env.cells scope.names []) fr (js.map (NdefX.slotAt σ)) s.heap H := NdefX.cells_of I (NdefX.Caps.made I.ok M.free M.frs M.js)
  obtain ⟨⟨oc, flds, t, g1, g2, g3⟩, _, _⟩ := I.hok c' _ hc
  have rc : codeAny (model X.prog X.w) X.A.in1.in1 (.call (.ref f) ⟨[u], []⟩) (CR CX0 X.stack X.prog X.w H s Q fun _ _ _ => False) s := by
    refine PySem.W.kla_callFunE hr.depth ho rfl M.S.co M.S.gen rfl ⟨c', oc, flds, t, rfl, g1, g2, g3⟩ ?_
    rw [M.bind]
    refine wpAny_pure (wpAny_newFunctionEnv M.S.nocell (fun y hy => ?_) (fun h1 hn sb => ⟨I.nolimit.fresh _ sb, ?_⟩) M.S.kind)
    · rw [List.mem_singleton] at hy
      subst hy
      exact M.S.par q (by simp)
    · have kp : ∀ b o, s.heap.get? b = some o → h1.get? b = some o := fun b o e => sb.extBut b o (Nat.ne_of_lt (Heap.lt_size e)) (Heap.get?_push_of_some _ e)
      have J : Inv (NdefX.ncx CX0 X.prog X.w X.K X.mg X.base (q :: fr) (lamF X params scope c') f X.A.in1.in1 X.stack s H fun _ _ _ => False) [] (NdefX.startF (q :: fr) [v] (js.map (NdefX.slotAt σ))) H { s with heap := h1, toks := s.toks + 1 } :=
        NdefX.inv_startN (F := lamF X params scope c') M.S hr.hd I.env0.in1.in1 rfl (.cons rv .nil) C hn kp
      show codeAny _ _ (.expr body (NdefX.envF (lamF X params scope c') f s.heap.objs.size)) _ _
      refine PySem.W.kla_codeExpr (wpAny_mono ((hb (hr.deeper _)).nox.run [] _ _ H Q J ht) (fun w s' ⟨v', H', J', r', q'⟩ => ⟨v', H', J'.os, J'.bare, J'.base, J'.hok, r', q'⟩) fun _ _ z => z)
  refine wpAny_call (codeAny_mono rc fun r s' h => ?_)
  cases r with
  | error e => exact h.elim
  | ok fl =>
    cases fl with
    | ret w => exact I.after h
    | next => exact h.elim
    | brk => exact h.elim
    | cont => exact h.elim

/-! ### the sort -/
theorem ints_alike (ks : List Int) : PySem.W.AllAlike (ks.map PyData.int) ∧ PySem.W.Sortable (ks.map PyData.int) := by
  refine ⟨fun d hd e he => ?_, .inr fun d hd => ?_⟩
  · obtain ⟨i, _, rfl⟩ := List.mem_map.mp hd
    obtain ⟨j, _, rfl⟩ := List.mem_map.mp he
    rfl
  · obtain ⟨i, _, rfl⟩ := List.mem_map.mp hd
    exact ⟨fun z => (by cases z), fun _ z => (by cases z)⟩
def gone (h : Heap) (a : Addr) : Heap := h.update a fun o => { o with data := .freed }
theorem gone_at (h : Heap) (a : Addr) : (gone h a).get? a = none := by
  obtain ⟨objs, l⟩ := h
  have e : (objs.modify a fun o => { o with data := .freed })[a]? = (objs[a]?).map fun o => { o with data := .freed } := by rw [Array.getElem?_modify, if_pos rfl]
  show (match (objs.modify a fun o => { o with data := .freed })[a]? with
    | some ⟨_, _, .freed, _⟩ => none
    | o => o) = none
  rw [e]
  cases objs[a]? <;> rfl
theorem gone_ne {h : Heap} {a b : Addr} (e : b ≠ a) : (gone h a).get? b = h.get? b := Heap.get?_update_ne _ _ _ _ e
/-- where an object of our own lies: behind the frame's beginning, no cell, no pin -/
def Own (X : Cx) (pins : List (Addr × Obj)) (b : Addr) : Prop := (b ∈ X.ex ∨ X.s_0.heap.objs.size ≤ b) ∧ b ≠ X.env.locals ∧ (∀ x c, X.env.cells.lookup x = some c → c ≠ b) ∧ ∀ p ∈ X.pn ++ pins, p.1 ≠ b
theorem own_of {X : Cx} {pins : List (Addr × Obj)} {σ : L2.St} {H : Hp} {s : Shared} {b : Addr} (I : Inv X pins σ H s) (h : s.heap.objs.size ≤ b) : Own X pins b := by
  refine ⟨.inr (Nat.le_trans I.sz h), Nat.ne_of_gt (Nat.lt_of_lt_of_le I.lt h), fun x c e => ?_, fun p hp => ?_⟩
  · obtain ⟨v, o, ho, _⟩ := I.cell x c e
    exact Nat.ne_of_lt (Nat.lt_of_lt_of_le (Heap.lt_size ho) h)
  · exact Nat.ne_of_lt (Nat.lt_of_lt_of_le (Heap.lt_size (I.pin p hp).1) h)
theorem Own.cons {X : Cx} {pins : List (Addr × Obj)} {b : Addr} {p : Addr × Obj} (h : Own X pins b) (hp : p.1 ≠ b) : Own X (p :: pins) b := ⟨h.1, h.2.1, h.2.2.1, fun r hr => by
  rcases List.mem_append.mp hr with z | z
  · exact h.2.2.2 r (List.mem_append_left _ z)
  · rcases List.mem_cons.mp z with z | z
    · subst z; exact hp
    · exact h.2.2.2 r (List.mem_append_right _ z)⟩
/-- a list that is held by pins alone -/
theorem pin_cons {X : Cx} {pins : List (Addr × Obj)} {σ : L2.St} {H : Hp} {s : Shared} {a : Addr} {o : Obj} (I : Inv X pins σ H s) (g : s.heap.get? a = some o) (n : H a = none) (hl : a ≠ X.env.locals) (hf : a ∉ X.fs) (hd : ∀ v, o.data ≠ .cell v) : Inv X ((a, o) :: pins) σ H s :=
  I.pins_of fun p hp => by
    rcases List.mem_cons.mp hp with e | e
    · subst e; exact ⟨g, n, hl, hf, hd⟩
    · exact I.pin p (List.mem_append_right _ e)
theorem pin_tail {X : Cx} {pins : List (Addr × Obj)} {σ : L2.St} {H : Hp} {s : Shared} {p : Addr × Obj} (I : Inv X (p :: pins) σ H s) : Inv X pins σ H s := I.pins_of fun r hr => I.pin r (List.mem_append_right _ (List.mem_cons_of_mem _ hr))
theorem seq_nocell {c : String} {xs : Array Value} {n : Nat} (v : Option Value) : (seqObj c xs n).data ≠ .cell v := fun z => by cases z
theorem srt_rest {X : Cx} {pins : List (Addr × Obj)} {σ : L2.St} {H Hf : Hp} {s : Shared} {f a kS : Addr} {fo : Obj} {vs : List Value} {ks : List Int} {e1 : Nat} {P : PySem.Fin → Shared → Prop} {E : Value → Shared → Prop}
    (I : Inv X ((kS, seqObj "list" #[] 0) :: (a, seqObj "list" #[] e1) :: (f, fo) :: pins) σ H s) (sub : Sub H Hf) (ok : Own X ((a, seqObj "list" #[] e1) :: (f, fo) :: pins) kS) (oa : Own X pins a) (hl : ks.length = vs.length) (hz : vs.length ≤ sizeLine) (hu : X.A.in1.in1.units < cLine)
    (hv : PySem.W.EachIs (fun v (p : Nat × Int) => ∃ t, v = .int (p.1 : Int) t) vs ((List.range ks.length).zip ks))
    (turn : ∀ (i : Nat) v k, vs[i]? = some v → ks[i]? = some k → ∀ pins' s' H' Hf', Inv X pins' σ H' s' → (f, fo) ∈ pins' → Ext H Hf H' Hf' → wpAny (model X.prog X.w) X.A.in1.in1 (call (.ref f) [v]) (EP X pins' σ fun w H2 => w = .int k ∧ ∃ Hf2, Ext H' Hf' H2 Hf2) (fun _ _ => False) s')
    (h : ∀ s' H' Hf', Ext H Hf H' Hf' → H' a = none → Inv X pins σ (upd H' a (.lst ((srtP ks).map fun p => V.int (p.1 : Int)))) s' → P (.done (.ret .none)) s') :
    wpAny (model X.prog X.w) X.A.in1.in1 (ksk_rest a (.ref f) false vs.toArray e1 (.ref kS)) P E s := by
  have ne : a ≠ kS := ok.2.2.2 (a, seqObj "list" #[] e1) (by simp)
  unfold ksk_rest
  refine wpAny_bind (wpAny_rule ?_)
  first
    | rw [List.forIn_toArray]
    | (rw [← Array.forIn_toList]; simp only [List.toList_toArray])
    | rw [← Array.forIn_toList]
  refine wpAny_bind (ksk_fold (fun i s' => ∃ H' Hf' kA e, Inv X ((kS, seqObj "list" kA e) :: (a, seqObj "list" #[] e1) :: (f, fo) :: pins) σ H' s' ∧ Ext H Hf H' Hf' ∧ PySem.W.EachIs (fun v k => ∃ t, v = Value.int k t) kA.toList (ks.take i)) vs 0 s
    ⟨H, Hf, #[], 0, I, Ext.refl sub, by rw [List.take_zero]; exact .nil⟩ ?step ?done)
  case step =>
    rintro j x s' hx ⟨H', Hf', kA, e, I', ex, hk⟩
    rw [Nat.zero_add] at hk ⊢
    have hj : j < vs.length := (List.getElem?_eq_some_iff.mp hx).1
    obtain ⟨k, hkj⟩ : ∃ k, ks[j]? = some k := ⟨_, List.getElem?_eq_getElem (by omega)⟩
    have hka : kA.size ≤ vs.length := by
      have q := hk.length
      rw [Array.length_toList, List.length_take] at q
      omega
    refine wpAny_bind (wpAny_attempt (wpAny_mono (turn j x k hx hkj _ s' H' Hf' I' (by simp) ex) (fun v s2 ⟨w, H2, J, rv, hw, Hf2, e2⟩ => ?_) fun _ _ z => z.elim))
    subst hw
    obtain ⟨t, rfl⟩ := rv
    have gk := (J.pin (kS, seqObj "list" kA e) (by simp)).1
    obtain ⟨_, nk, _, fk, _⟩ := J.pin (kS, seqObj "list" kA e) (by simp)
    have J1 := pin_tail J
    have J2 : Inv X ((a, seqObj "list" #[] e1) :: (f, fo) :: pins) σ H2 { s2 with heap := s2.heap.update kS (Obj.mapSeq (·.push (.int k t))) } :=
      J1.turned (t' := s2.toks) (it := kS) (fun b o hb g => by rw [Heap.get?_update_ne _ _ _ _ hb]; exact g) nk ok.2.1 ok.1 ok.2.2.1 ok.2.2.2
    refine wpAny_bind (listUpdate_at gk rfl (wpAny_pure ⟨rfl, H2, Hf2, kA.push (.int k t), _, pin_cons J2 (get?_update_seq gk (·.push (.int k t))) nk ok.2.1 fk seq_nocell, ex.trans e2, ?_⟩) (by omega) (by rw [Array.size_push]; omega))
    have ek : ks.take (j + 1) = ks.take j ++ [k] := by rw [List.take_add_one, hkj]; rfl
    rw [ek, Array.toList_push]
    exact PySem.W.each_snoc ⟨t, rfl⟩ hk
  case done =>
    rintro s' ⟨H', Hf', kA, e, I', ex, hk⟩
    rw [Nat.zero_add, List.take_of_length_le (by omega)] at hk
    have hka : kA.size = vs.length := by
      have q := hk.length
      rw [Array.length_toList] at q
      omega
    have gk := (I'.pin (kS, seqObj "list" kA e) (by simp)).1
    have ga := (I'.pin (a, seqObj "list" #[] e1) (by simp)).1
    have na := (I'.pin (a, seqObj "list" #[] e1) (by simp)).2.1
    have nk := (I'.pin (kS, seqObj "list" kA e) (by simp)).2.1
    have rd : PySem.W.EachIs (fun v d => ∃ as, PySem.Reads s'.heap v d as) kA.toList (ks.map PyData.int) := by
      have q : ∀ {us : List Value} {is : List Int}, PySem.W.EachIs (fun v k => ∃ t, v = Value.int k t) us is → PySem.W.EachIs (fun v d => ∃ as, PySem.Reads s'.heap v d as) us (is.map PyData.int) := by
        intro us is h
        induction h with
        | nil => exact .nil
        | cons z _ ih => obtain ⟨t, rfl⟩ := z; exact .cons ⟨[], .int _ t⟩ ih
      exact q hk
    obtain ⟨q1, q2⟩ := ints_alike ks
    refine wpAny_bind (listItems_at gk rfl ?_)
    refine PySem.W.keyH_end (h₁ := gone s'.heap kS) (fun b o hb g => ?_) (gone_at _ _) gk ga (Ne.symm ne) (PySem.W.SortsAt.data rd q1 q2 fun d hd => ?_) (by rw [hka]) hz fun h' tk c' kp gA => ?_
    · by_cases z : b = kS
      · subst z; rw [gone_at] at g; cases g
      · rw [gone_ne z] at g; exact g
    · obtain ⟨i, _, rfl⟩ := List.mem_map.mp hd
      simpa [PyData.depth] using hu
    · have I1 := pin_tail (pin_tail (pin_tail I'))
      have ko : PySem.W.KeyedOut false (((List.range ks.length).zip ks).map fun p => PyData.int p.2) vs (PySem.W.sortVals (PySem.W.dataKind s'.heap (ks.map PyData.int)) false kA.toList vs) := by
        have e3 : (((List.range ks.length).zip ks).map fun p => PyData.int p.2) = ks.map PyData.int := by
          have e4 : ((List.range ks.length).zip ks).map Prod.snd = ks := List.map_snd_zip (Nat.le_of_eq List.length_range.symm)
          have e5 : (((List.range ks.length).zip ks).map fun p => PyData.int p.2) = (((List.range ks.length).zip ks).map Prod.snd).map PyData.int := by rw [List.map_map]; rfl
          rw [e5, e4]
        rw [e3]
        exact ⟨s'.heap, kA.toList, q1, rfl, rd⟩
      have eo := PySem.W.keyedOut_each (fun p : Nat × Int => PyData.int p.2) ko hv
      have vo : ∀ {us : List Value} {ps : List (Nat × Int)}, PySem.W.EachIs (fun v (p : Nat × Int) => ∃ t, v = Value.int (p.1 : Int) t) us ps → Vals (ps.map fun p => V.int (p.1 : Int)) us := by
        intro us ps h
        induction h with
        | nil => exact .nil
        | cons z _ ih => exact .cons z ih
      have kk : ∀ b o, b ≠ a → b ≠ kS → s'.heap.get? b = some o → h'.get? b = some o := fun b o h1 h2 g => kp b o h1 (by rw [gone_ne h2]; exact g)
      have tr : ∀ {b : Addr} {u : HO}, H' b = some u → b ≠ a ∧ b ≠ kS := fun {b u} g => ⟨ne_of_none g na, ne_of_none g nk⟩
      have olen : ((srtP ks).map fun p => V.int (p.1 : Int)).length ≤ sizeLine := by
        rw [List.length_map, srtP, List.length_mergeSort, List.length_zip, List.length_range]
        omega
      refine h _ H' Hf' ex na ?_
      refine I1.step (g' := s'.gens) (d' := s'.drawn) (ch := [a, kS]) (fun b hb => ?_) (fun b o _ _ hc g _ => ?_) (fun b o _ _ hc g _ => ⟨o.slots, ?_⟩) (fun b o hc g n => ?_) (fun b o hc g => ⟨o, ?_⟩) (fun b xs g => ?_) (fun b o u g => ?_) (fun b qs g => ⟨#[], ?_⟩) (fun m hn => ?_) (fun b u g => ?_) I1.bare
      · rcases List.mem_cons.mp hb with z | z
        · subst z; exact oa
        · rw [List.mem_singleton] at z
          subst z
          exact ⟨ok.1, ok.2.1, ok.2.2.1, fun p hp => ok.2.2.2 p (by
            rcases List.mem_append.mp hp with z | z
            · exact List.mem_append_left _ z
            · exact List.mem_append_right _ (List.mem_cons_of_mem _ (List.mem_cons_of_mem _ z)))⟩
      · simp only [List.mem_cons, List.not_mem_nil, or_false, not_or] at hc
        exact kk b o hc.1 hc.2 g
      · simp only [List.mem_cons, List.not_mem_nil, or_false, not_or] at hc
        exact kk b o hc.1 hc.2 g
      · simp only [List.mem_cons, List.not_mem_nil, or_false, not_or] at hc
        rw [upd_ne hc.1]; exact n
      · simp only [List.mem_cons, List.not_mem_nil, or_false, not_or] at hc
        exact kk b o hc.1 hc.2 g
      · rw [upd_ne (tr g).1]; exact g
      · rw [upd_ne (tr g).1]; exact g
      · rw [upd_ne (tr g).1, g]; simp
      · obtain ⟨ob, es, ep, g, r⟩ := hn
        exact ⟨ob, es, ep, kk _ ob (Ne.symm oa.2.1) (Ne.symm ok.2.1) g, r⟩
      · by_cases z : b = a
        · subst z
          rw [upd_same] at g
          cases g
          exact ⟨olen, _, _, vo eo, gA⟩
        · rw [upd_ne z] at g
          refine (I1.hok b u g).stay (fun d v hd q => ?_) (fun d q => by rw [upd_ne (tr q).1]; exact q) fun d xs q => by rw [upd_ne (tr q).1]; exact q
          have hne : d ≠ a ∧ d ≠ kS := by
            rcases hd with z | z
            · subst z; exact tr g
            · exact tr z
          exact kk d v hne.1 hne.2 q
theorem each_of_get {α β : Type} {R : α → β → Prop} : ∀ {as : List α} {bs : List β}, as.length = bs.length → (∀ (i : Nat) a b, as[i]? = some a → bs[i]? = some b → R a b) → PySem.W.EachIs R as bs
  | [], [], _, _ => .nil
  | [], _ :: _, h, _ => by simp at h
  | _ :: _, [], h, _ => by simp at h
  | a :: as, b :: bs, h, k => .cons (k 0 a b rfl rfl) (each_of_get (by simpa using h) fun i x y e1 e2 => k (i + 1) x y (by simpa using e1) (by simpa using e2))
/-! ### the expression -/
/-- a range object of our own -/
theorem rg_new {X : Cx} {a : Expr} {ta : TE} {p pos : Pos} {pins : List (Addr × Obj)} {s : Shared} {σ : L2.St} {H : Hp} {Q : Value → Shared → Prop} (hg : Gl X "range") (hm : X.mg "range" = none) (ha : PE X a ta) (na : starEach [a] X.env = (false, eval a X.env) :: starEach [] X.env) (I : Inv X pins σ H s) {R : V → Hp → Prop} (h : ta σ H R)
    (k : ∀ x H1, R x H1 → ∃ n, x = .int n ∧ ∀ r ob t u v s1, ob = ({ cls := .type "range", data := .fields #[.int 0 t, .int n u, .int 1 v] } : Obj) → Inv X ((r, ob) :: pins) σ H1 s1 → Q (.ref r) s1) :
    wpAny (model X.prog X.w) X.A (eval (.Call (.Name "range" p) [a] [] pos) X.env) Q X.xe s := by
  refine Call_ (ld_blt I hg hm boot_range (PyProof.Rows.callWith_type1 (one_arg ha I h (fun v s2 x H2 I2 r q => ?_) na) na))
  obtain ⟨n, rfl, q2⟩ := k x H2 q
  obtain ⟨t, rfl⟩ := r
  have J := I2.kept (t' := s2.toks + 1 + 1) (h' := s2.heap.push { cls := .type "range", data := .fields #[.int 0 s2.toks, .int n t, .int 1 (s2.toks + 1)] }) fun b u e => Heap.get?_push_of_some _ e
  exact call_range_1 (q2 _ _ _ _ _ _ rfl (pin_cons J (Heap.get?_push_size _ rfl) (I2.hok.fresh (Nat.le_refl _)) (Nat.ne_of_gt I2.lt) (I2.nofs (Nat.le_refl _)) fun v z => by cases z))
/-- sorted of a range by keys -/
theorem call_srt {X : Cx} {pins : List (Addr × Obj)} {σ : L2.St} {H Hf : Hp} {s : Shared} {f r : Addr} {fo ob : Obj} {n : Int} {ks : List Int} {t u v : Tok} {Q : Value → Shared → Prop} (hc : X.calm = true) (I : Inv X ((f, fo) :: (r, ob) :: pins) σ H s) (sub : Sub H Hf)
    (eo : ob = ({ cls := .type "range", data := .fields #[.int 0 t, .int n u, .int 1 v] } : Obj)) (hn : rngOk n = true) (hl : ks.length = n.toNat) (hu : X.A.in1.in1.units < cLine)
    (turn : ∀ (i : Nat) k, ks[i]? = some k → ∀ t pins' s' H' Hf', Inv X pins' σ H' s' → (f, fo) ∈ pins' → Ext H Hf H' Hf' → wpAny (model X.prog X.w) X.A.in1.in1 (call (.ref f) [.int (i : Int) t]) (EP X pins' σ fun w H2 => w = .int k ∧ ∃ Hf2, Ext H' Hf' H2 Hf2) (fun _ _ => False) s')
    (h : ∀ a s' H' Hf', Ext H Hf H' Hf' → H' a = none → Inv X pins σ (upd H' a (.lst ((srtP ks).map fun p => V.int (p.1 : Int)))) s' → Q (.ref a) s') :
    wpAny (model X.prog X.w) X.A (call (.builtin "sorted") [.ref r] [(Str.ofString "key", .ref f)]) Q X.xe s := by
  obtain ⟨b1, b2, b3⟩ := rngOk_some hn
  have hr : IsRange s.heap r 0 n 1 t u v := by
    have := (I.pin (r, ob) (by simp)).1
    rw [eo] at this
    exact this
  have hd : X.A.in1.handled = none := I.ok.hd hc
  refine call_function_entry_kw PyProof.Rows.kind_sorted PyProof.Rows.plain_sorted PyProof.Rows.entry_sorted (ksk_s1 _ _) ?_
  unfold Builtin.«sorted»
  refine wpAny_bind (m := checkCount "sorted" 1 1 _) (wpAny_pure ?_)
  refine wpAny_bind (collect_range (n := n.toNat) hd hr (small_one (by decide) (by decide) b1 b2) (by rw [rangeSize_nat, Int.sub_zero]) (by omega) fun h1 tk acc kp hit => ?_)
  have I1 : Inv X ((f, fo) :: (r, ob) :: pins) σ H { s with heap := h1, toks := tk } := I.kept kp
  have hal : acc.toList.length = n.toNat := by rw [Array.length_toList]; exact hit.1
  have hal2 : acc.toList.length ≤ sizeLine := by rw [hal, sizeLine_eq]; omega
  refine wpAny_bind (wpAny_newList ?_ hal2)
  have I2 : Inv X ((f, fo) :: (r, ob) :: pins) σ H { s with heap := h1.push (seqObj "list" acc.toList.toArray 0), toks := tk } := I1.kept (t' := tk) fun b o e => Heap.get?_push_of_some _ e
  have g2 : (h1.push (seqObj "list" acc.toList.toArray 0)).get? h1.objs.size = some (seqObj "list" acc.toList.toArray 0) := Heap.get?_push_size _ rfl
  have nA : H h1.objs.size = none := I1.hok.fresh (Nat.le_refl _)
  have oA : Own X ((f, fo) :: (r, ob) :: pins) h1.objs.size := own_of I1 (Nat.le_refl _)
  refine wpAny_bind (wpAny_holding (wpAny_call_entry_kw PyProof.Rows.slot_list_sort ⟨_, g2, rfl⟩ PyProof.Rows.entry_list_sort ?body (ksk_l1 _ _)))
  show wpAny (model X.prog X.w) X.A.in1.in1 (Builtin.«list.sort» ⟨[.ref h1.objs.size], [(Str.ofString "key", .ref f)]⟩) _ _ _
  rw [ksk_t1]
  unfold ksk_tree
  refine wpAny_bind (listItems_at g2 rfl ?_)
  refine wpAny_bind (listUpdate_at g2 rfl ?_ (by rw [List.size_toArray]; exact hal2) (Nat.zero_le _))
  have g3 := get?_update_seq g2 fun _ => (#[] : Array Value)
  have I3 : Inv X ((f, fo) :: (r, ob) :: pins) σ H { s with heap := (h1.push (seqObj "list" acc.toList.toArray 0)).update h1.objs.size (Obj.mapSeq fun _ => #[]), toks := tk } :=
    I2.turned (s := { s with heap := h1.push (seqObj "list" acc.toList.toArray 0), toks := tk }) (h' := (h1.push (seqObj "list" acc.toList.toArray 0)).update h1.objs.size (Obj.mapSeq fun _ => #[])) (t' := tk) (it := h1.objs.size) (fun b o hb g => by rw [Heap.get?_update_ne _ _ _ _ hb]; exact g) nA oA.2.1 oA.1 oA.2.2.1 oA.2.2.2
  refine wpAny_bind (seqEpoch_at g3 rfl ?_)
  refine wpAny_bind (wpAny_newTuple ?_ (by show acc.toList.toArray.toList.length ≤ _; exact hal2))
  refine wpAny_bind (wpAny_newList ?_ (Nat.zero_le _))
  refine wpAny_holding ?_
  have I4 := pin_cons I3 g3 nA oA.2.1 (I1.nofs (Nat.le_refl _)) seq_nocell
  have I5 := I4.kept (t' := tk) (h' := ((h1.push (seqObj "list" acc.toList.toArray 0)).update h1.objs.size (Obj.mapSeq fun _ => #[])).push (seqObj "tuple" acc.toList.toArray 0)) fun b o e => Heap.get?_push_of_some _ e
  have I6 := I5.kept (t' := tk) (h' := (((h1.push (seqObj "list" acc.toList.toArray 0)).update h1.objs.size (Obj.mapSeq fun _ => #[])).push (seqObj "tuple" acc.toList.toArray 0)).push (seqObj "list" #[] 0)) fun b o e => Heap.get?_push_of_some _ e
  have oK := own_of I5 (Nat.le_refl _)
  have nK := I5.hok.fresh (Nat.le_refl _)
  have I7 := pin_cons I6 (Heap.get?_push_size _ rfl) nK oK.2.1 (I5.nofs (Nat.le_refl _)) seq_nocell
  refine srt_rest (ks := ks) I7 sub oK ⟨oA.1, oA.2.1, oA.2.2.1, fun p hp => oA.2.2.2 p ((List.mem_append.mp hp).elim (fun z => List.mem_append_left _ z) fun z => List.mem_append_right _ (List.mem_cons_of_mem _ z))⟩ (by rw [hl, hal]) hal2 hu ?_ (fun i w k hi hk pins' s' H' Hf' J m e => ?_) fun s' H' Hf' e n J => ?_
  · refine each_of_get (by rw [List.length_zip, List.length_range, hal, hl]; omega) fun i w p hw hp => ?_
    obtain ⟨tt, rfl⟩ := hit.2 i w (by rw [← hw, Array.getElem?_toList])
    have e1 : p.1 = i := by
      rw [List.getElem?_zip_eq_some] at hp
      obtain ⟨q, _⟩ := hp
      rw [List.getElem?_range (by have := (List.getElem?_eq_some_iff.mp q).1; simpa using this)] at q
      exact (Option.some.inj q).symm
    exact ⟨tt, by rw [e1]; simp⟩
  · obtain ⟨tt, rfl⟩ := hit.2 i w (by rw [← hi]; simp)
    have := turn i k hk tt pins' s' H' Hf' J m e
    simpa using this
  · exact ⟨_, rfl, wpAny_pure ⟨_, rfl, h _ s' H' Hf' e n (pin_tail J)⟩⟩
theorem ite_none {c : Bool} {α : Type} {a : Option α} {b : α} (h : (if c = true then a else none) = some b) : c = true ∧ a = some b := by
  cases c
  · cases h
  · exact ⟨rfl, h⟩
theorem capsR_get : ∀ {js : List Nat} {ρ : Rho} {cs : List PyData}, capsR js ρ = some cs → cs.length = js.length ∧ ∀ (t : Nat) d, cs[t]? = some d → ∃ j, js[t]? = some j ∧ ρ[j]? = some (.val d)
  | [], ρ, cs, h => by cases h; exact ⟨rfl, fun t d z => by simp at z⟩
  | j :: js, ρ, cs, h => by
    obtain ⟨d, h1, h⟩ := Option.bind_eq_some_iff.mp h
    obtain ⟨r, h2, rfl⟩ := Option.map_eq_some_iff.mp h
    obtain ⟨q1, q2⟩ := capsR_get h2
    refine ⟨by rw [List.length_cons, List.length_cons, q1], fun t e z => ?_⟩
    cases t with
    | zero =>
      cases z
      refine ⟨j, rfl, ?_⟩
      unfold getV at h1
      split at h1
      · cases h1; assumption
      · cases h1
    | succ t => exact q2 t e (by simpa using z)
theorem keysR_get {f : PyData → Option PyData} : ∀ {l : List Nat} {ks : List Int}, keysR f l = some ks → ks.length = l.length ∧ ∀ (t : Nat) k, ks[t]? = some k → ∃ i, l[t]? = some i ∧ f (.int (i : Nat)) = some (.int k)
  | [], ks, h => by cases h; exact ⟨rfl, fun t d z => by simp at z⟩
  | i :: l, ks, h => by
    obtain ⟨d, h1, h⟩ := Option.bind_eq_some_iff.mp h
    obtain ⟨k, h3, h⟩ := Option.bind_eq_some_iff.mp h
    obtain ⟨r, h2, rfl⟩ := Option.map_eq_some_iff.mp h
    have := intOf_some h3
    subst this
    obtain ⟨q1, q2⟩ := keysR_get h2
    refine ⟨by rw [List.length_cons, List.length_cons, q1], fun t e z => ?_⟩
    cases t with
    | zero =>
      cases z
      exact ⟨i, rfl, h1⟩
    | succ t => exact q2 t e (by simpa using z)
theorem er_start {K : PySem.W.Frag} {σ : L2.St} {H Hf : Hp} {ρ : Rho} {js : List Nat} {cs : List PyData} {q : Str} {fr : List Str} {v : V} {d : PyData} (r : ER K σ H Hf ρ) (hc : capsR js ρ = some cs) (hl : js.length = fr.length) (hv : Rp K Hf v d) :
    ER K (NdefX.startF (q :: fr) [v] (js.map (NdefX.slotAt σ))) H Hf ((d :: cs).map .val) := by
  obtain ⟨c1, c2⟩ := capsR_get hc
  have e : NdefX.startF (q :: fr) [v] (js.map (NdefX.slotAt σ)) = some v :: js.map (NdefX.slotAt σ) := by
    unfold NdefX.startF
    have : (q :: fr).length - [v].length - (js.map (NdefX.slotAt σ)).length = 0 := by rw [List.length_cons, List.length_singleton, List.length_map]; omega
    rw [this]
    simp
  have nov : ∀ (i : Nat) (x : Sl), ((d :: cs).map Sl.val)[i]? = some x → ∃ y, x = .val y := fun i x h => by
    rw [List.getElem?_map] at h
    obtain ⟨y, _, h2⟩ := Option.map_eq_some_iff.mp h
    exact ⟨y, h2.symm⟩
  rw [e]
  refine ⟨by simp [c1], r.sub, fun i x h _ => ?_, fun i j si sj vi vj p hi _ _ _ oi _ => ?_⟩
  · cases i with
    | zero => cases h; exact ⟨v, rfl, hv⟩
    | succ i =>
      obtain ⟨x, rfl⟩ := nov _ _ h
      have h2 : cs[i]? = some x := by
        rw [List.map_cons, List.getElem?_cons_succ, List.getElem?_map] at h
        obtain ⟨y, h1, h2⟩ := Option.map_eq_some_iff.mp h
        cases h2
        exact h1
      obtain ⟨j, h3, h4⟩ := c2 i x h2
      obtain ⟨u, h5, h6⟩ := r.val j x h4
      exact ⟨u, by rw [List.getElem?_cons_succ, List.getElem?_map, h3, Option.map_some, NdefX.slotAt_of h5], h6⟩
  · obtain ⟨y, rfl⟩ := nov _ _ hi
    exact oi.elim
/-- sorted(range(n), key=lambda q: body) -/
theorem pf_srt {X : Cx} {a body : Expr} {fa fb : Rho → Option PyData} {params : Arguments} {scope : Scope} {lpos kpos p p2 p3 pos : Pos} {q : Str} {fr : List Str} {js : List Nat} {k : Nat} (hc : X.calm = true) (L : LamOk X) (M : LamS X scope q fr js params body) (hdf : defaultsOf params X.env = ([], []))
    (hg : Gl X "sorted") (hm : X.mg "sorted" = none) (hg2 : Gl X "range") (hm2 : X.mg "range" = none) (ha : PE X a (tF X.K fa)) (hs : ∀ es, starEach (a :: es) X.env = (false, eval a X.env) :: starEach es X.env) (hr : Room (k + 1) X.A.in1.in1)
    (hb : ∀ f c' s H, Room k (X.A.in1.in1.deeper (NdefX.envF (lamF X params scope c') f s.heap.objs.size)) → PE (lamX X q fr params scope f c' s H) body (tF X.K fb)) :
    PE X (.Call (.Name "sorted" p) [.Call (.Name "range" p2) [a] [] p3] [⟨some "key", .Lambda params body scope lpos, kpos⟩] pos) (tF X.K fun ρ => srtE false (fa ρ) (capsR js ρ) fb) := by
  refine ⟨fun pins s σ H Q I ⟨Hf, ρ, d, er, hd, kF⟩ => ?_⟩
  obtain ⟨x, h1, hd⟩ := Option.bind_eq_some_iff.mp hd
  obtain ⟨m, h2, hd⟩ := Option.bind_eq_some_iff.mp hd
  obtain ⟨h3, hd⟩ := ite_none hd
  obtain ⟨cs, h4, hd⟩ := Option.bind_eq_some_iff.mp hd
  obtain ⟨ks, h5, hd⟩ := Option.map_eq_some_iff.mp hd
  have hd : d = .list (srtD ks) := hd.symm
  subst hd
  have := intOf_some h2
  subst this
  obtain ⟨k1, k2⟩ := keysR_get h5
  have hv : ∀ y ∈ scope.names, y.2 = .free → ∃ c, X.env.cells.lookup y.1 = some c := fun y hy e => (M.free y hy e).elim (fun z => I.ok.has _ (.inl z)) fun z => I.ok.has _ (.inr z)
  have hjl : js.length = fr.length := by have := congrArg List.length M.js; simpa using this
  refine wpAny_Call_Name_kw (ld_blt I hg hm (u := .builtin "sorted") (by rfl) ?_)
  refine PyProof.Rows.callWith_kw (args_cons (rg_new hg2 hm2 ha (hs _) I ⟨Hf, ρ, _, er, h1, fun v H1 Hf1 e1 r1 => (⟨Hf1, e1, r1⟩ : ∃ Hf1, Ext H Hf H1 Hf1 ∧ Rp X.K Hf1 v (.int m))⟩ fun v H1 ⟨Hf1, e1, r1⟩ => ?_) rfl) rfl rfl rfl rfl
  cases r1
  refine ⟨m, rfl, fun r ob t u w s1 eo I1 => args_nil ?_⟩
  show wpAny _ _ (evalAll ((do let v ← eval (.Lambda params body scope lpos) X.env; standAt pos; pure v) :: [])) _ _ s1
  refine wpAny_evalAll_cons (wpAny_bind (lam_mk I1 L e1.sub hdf hv fun f c' pm ctv H2 s2 e2 hco I2 => wpAny_bind (wpAny_standAt (wpAny_pure (wpAny_evalAll_nil ?_)))))
  show wpAny _ _ (call (.builtin "sorted") [.ref r] [(Str.ofString "key", .ref f)]) _ _ _
  refine call_srt (ks := ks) hc I2 e2.sub eo h3 (by rw [k1, List.length_range]) (by have := hr.un; omega) (fun i k' hk t' pins' s' H' Hf' J mem e => ?_) fun a' s' H' Hf' e n J => ?_
  · obtain ⟨i', hi, hfk⟩ := k2 i k' hk
    have : i' = i := by
      rw [List.getElem?_range (by have := (List.getElem?_eq_some_iff.mp hi).1; simpa using this)] at hi
      exact (Option.some.inj hi).symm
    subst this
    have hco' : H' c' = some (LamX.CodeO c' (X.env.qual ++ "<lambda>")) := by
      rcases e.gr c' _ hco with z | ⟨z, _⟩ | ⟨ps, qs, z, _⟩
      · exact z
      · exact absurd z (L.may _ _)
      · cases z
    refine lam_run (v := .int (i' : Nat)) J M (J.pin _ (List.mem_append_right _ mem)).1 hco' hr ⟨t', rfl⟩ (fun hr' => hb f c' s' H' hr') ⟨Hf', _, .int k', er_start (er.ext (e1.trans (e2.trans e))) h4 hjl (.int _), hfk, fun v H3 Hf3 e3 r3 => ?_⟩
    cases r3
    exact ⟨rfl, Hf3, e3⟩
  · have z : ((srtP ks).map fun p => V.int (p.1 : Int)).length ≤ sizeLine := by
      obtain ⟨_, _, b3⟩ := rngOk_some h3
      rw [List.length_map, srtP, List.length_mergeSort, List.length_zip, List.length_range, k1, List.length_range, sizeLine_eq]
      omega
    have rr : ∀ Hx : Hp, RpAll X.K Hx ((srtP ks).map fun p => V.int (p.1 : Int)) (srtD ks) := fun Hx => by
      have := RpAll.of_ints (K := X.K) (H := Hx) ((srtP ks).map fun p => (p.1 : Int))
      rw [List.map_map, List.map_map] at this
      exact this
    exact ⟨.ref a', _, J, rfl, kF _ _ (upd Hf' a' (.lst ((srtP ks).map fun p => V.int (p.1 : Int)))) ((e1.trans (e2.trans e)).trans (Ext.alloc e.sub n (.lst _))) (.lst (.of upd_same) z (rr _))⟩
end Ev

/-! EvQ: objects: as arguments, their attributes and methods; functions as values. -/
namespace Ev
variable [Memo]
open PySem PySem.Spec PyProof.Rows L2
/-- arguments: objects where it is said, else data -/
def ArgAll (K : PySem.W.Frag) (H : Hp) : List Bool → List V → List PyData → Prop
  | [], [], [] => True
  | b :: fl, v :: vs, d :: ds => (if b = true then Memo.ob K H v d else Rp K H v d) ∧ ArgAll K H fl vs ds
  | _, _, _ => False
theorem ArgAll.mono {K : PySem.W.Frag} {H H' : Hp} (e : Same H H') : ∀ {fl : List Bool} {vs : List V} {ds : List PyData}, ArgAll K H fl vs ds → ArgAll K H' fl vs ds
  | [], [], [], _ => trivial
  | b :: fl, v :: vs, d :: ds, h => by
    refine ⟨?_, ArgAll.mono e h.2⟩
    have h1 := h.1
    cases b with
    | true => exact Memo.ob_mono e h1
    | false => exact Rp.mono e _ _ h1
  | [], [], _ :: _, h => h.elim
  | [], _ :: _, _, h => h.elim
  | _ :: _, [], _, h => h.elim
  | _ :: _, _ :: _, [], h => h.elim
theorem ArgAll.length {K : PySem.W.Frag} {H : Hp} : ∀ {fl : List Bool} {vs : List V} {ds : List PyData}, ArgAll K H fl vs ds → vs.length = ds.length ∧ fl.length = ds.length
  | [], [], [], _ => ⟨rfl, rfl⟩
  | b :: fl, v :: vs, d :: ds, h => by
    obtain ⟨h1, h2⟩ := ArgAll.length h.2
    exact ⟨by simp [h1], by simp [h2]⟩
  | [], [], _ :: _, h => h.elim
  | [], _ :: _, _, h => h.elim
  | _ :: _, [], _, h => h.elim
  | _ :: _, _ :: _, [], h => h.elim
theorem ArgAll.get {K : PySem.W.Frag} {H : Hp} : ∀ {fl : List Bool} {vs : List V} {ds : List PyData} {i : Nat} {d : PyData}, ArgAll K H fl vs ds → ds[i]? = some d → ∃ v b, vs[i]? = some v ∧ fl[i]? = some b ∧ if b = true then Memo.ob K H v d else Rp K H v d
  | [], [], [], _, _, _, h => by simp at h
  | b :: fl, v :: vs, d :: ds, 0, _, h, e => by
    cases e
    exact ⟨v, b, rfl, rfl, h.1⟩
  | b :: fl, v :: vs, d :: ds, i + 1, x, h, e => by
    obtain ⟨u, c, h1, h2, h3⟩ := ArgAll.get (i := i) h.2 (by simpa using e)
    exact ⟨u, c, by simpa using h1, by simpa using h2, h3⟩
  | [], [], _ :: _, _, _, h, _ => h.elim
  | [], _ :: _, _, _, _, h, _ => h.elim
  | _ :: _, [], _, _, _, h, _ => h.elim
  | _ :: _, _ :: _, [], _, _, h, _ => h.elim
/-- readings -/
def tOb (K : PySem.W.Frag) (f : Rho → Option PyData) : TE := fun σ H Q => ∃ Hf ρ d, ER K σ H Hf ρ ∧ f ρ = some d ∧ ∀ v H' Hf', Ext H Hf H' Hf' → Memo.ob K Hf' v d → Q v H'
def tAO (K : PySem.W.Frag) (fl : List Bool) (f : Rho → Option (List PyData)) : TA := fun σ H Q => ∃ Hf ρ ds, ER K σ H Hf ρ ∧ f ρ = some ds ∧ ∀ vs H' Hf', Ext H Hf H' Hf' → ArgAll K Hf' fl vs ds → Q vs H'
/-- what a def with objects among its arguments promises -/
def spG (K : PySem.W.Frag) (fl : List Bool) (f : List PyData → Option PyData) : Sp := fun vs H Q _ => ∃ Hf ds d, Sub H Hf ∧ ArgAll K Hf fl vs ds ∧ f ds = some d ∧ KF K H Hf d Q
/-- what a def promises that gives an object -/
def spB (K : PySem.W.Frag) (fl : List Bool) (f : List PyData → Option PyData) : Sp := fun vs H Q _ => ∃ Hf ds d, Sub H Hf ∧ ArgAll K Hf fl vs ds ∧ f ds = some d ∧ ∀ v H' Hf', Ext H Hf H' Hf' → Memo.ob K Hf' v d → Q v H'
/-- own places are younger -/
def Young (H0 H : Hp) (v : V) (j sm : PyData) (ts : List PyData) (kvs : List (PyData × PyData)) : Prop := ∀ p, Owns H v p (.mk j sm ts kvs) → H0 p = none
/-- what a method promises that changes what it puts together -/
def spM (K : PySem.W.Frag) (f : List PyData → Option PyData) : Sp := fun vs H Q _ => ∃ H0 Hf0 Hf u us j sm ts kvs ds d j' sm' ts' kvs', vs = u :: us ∧ Ext H0 Hf0 H Hf ∧ MkAt K H Hf u j sm ts kvs ∧ Young H0 H u j sm ts kvs ∧ RpAll K Hf us ds ∧ f (encM j sm ts kvs :: ds) = some (.tuple [d, encM j' sm' ts' kvs']) ∧
  ∀ v H' Hf', Ext H0 Hf0 H' Hf' → Same Hf Hf' → MkAt K H' Hf' u j' sm' ts' kvs' → Young H0 H' u j' sm' ts' kvs' → Rp K Hf' v d → Q v H'
/-- what the last of them promises -/
def spW (K : PySem.W.Frag) (f : List PyData → Option PyData) : Sp := fun vs H Q _ => ∃ H0 Hf0 Hf u us j sm ts kvs ds d, vs = u :: us ∧ Ext H0 Hf0 H Hf ∧ MkAt K H Hf u j sm ts kvs ∧ Young H0 H u j sm ts kvs ∧ RpAll K Hf us ds ∧ f (encM j sm ts kvs :: ds) = some d ∧
  ∀ v H' Hf', Ext H0 Hf0 H' Hf' → Rp K Hf' v d → Q v H'
/-- what the making of an object promises -/
def spInit (K : PySem.W.Frag) (C : Addr) (f : List PyData → Option PyData) : Sp := fun vs H Q _ => ∃ H0 Hf x dx v d d', vs = [.ref x, v] ∧ H0 x = none ∧ H0 dx = none ∧ dx ≠ x ∧ H = upd (upd H0 dx (.own x)) x (.ins C dx []) ∧ Sub H0 Hf ∧ Rp K Hf v d ∧ f [d] = some d' ∧
  ∀ H' Hf', Ext H0 Hf H' Hf' → Memo.ob K Hf' (.ref x) d' → Q .non H'
section
variable {X : Cx} {a e o : Expr} {es : List Expr} {fa fr : Rho → Option PyData} {fs : Rho → Option (List PyData)} {fl : List Bool} {pos p apos : Pos} {x m nm : Str} {i k j : Nat}
theorem pob_var (h : PE X e (tVar i)) : PE X e (tOb X.K (obV i)) := by
  refine PEimp h fun σ H Q ⟨Hf, ρ, d, er, hd, kF⟩ => ?_
  unfold obV at hd
  split at hd
  · rename_i d' q
    cases hd
    obtain ⟨v, h1, h2⟩ := er.ob i d q
    exact ⟨v, h1, kF v H Hf (Ext.refl er.sub) h2⟩
  · cases hd
theorem pob_const {v : V} {d : PyData} (h : PE X e (tC v)) (r : ∀ H, Memo.ob X.K H v d) : PE X e (tOb X.K fun _ => some d) := by
  refine PEimp h fun σ H Q ⟨Hf, ρ, d', er, hd, kF⟩ => ?_
  cases hd
  exact kF v H Hf (Ext.refl er.sub) (r _)
theorem po_nil : PA X [] (tAO X.K [] fun _ => some []) := PAimp pa_nil fun σ H Q ⟨Hf, ρ, ds, er, hd, kF⟩ => by
  cases hd
  exact kF [] H Hf (Ext.refl er.sub) trivial
theorem po_consF (ha : PE X a (tF X.K fa)) (hr : PA X es (tAO X.K fl fs)) (hs : starEach (a :: es) X.env = (false, eval a X.env) :: starEach es X.env) : PA X (a :: es) (tAO X.K (false :: fl) fun ρ => (fa ρ).bind fun d => (fs ρ).map (d :: ·)) := by
  refine PAimp (pa_cons ha hr hs) fun σ H Q ⟨Hf, ρ, ds, er, hd, kF⟩ => ?_
  obtain ⟨x, h1, hd⟩ := Option.bind_eq_some_iff.mp hd
  obtain ⟨xs, h2, rfl⟩ := Option.map_eq_some_iff.mp hd
  exact ⟨Hf, ρ, x, er, h1, fun v H1 Hf1 e1 r1 => ⟨Hf1, ρ, xs, er.ext e1, h2, fun vs H2 Hf2 e2 r2 => kF (v :: vs) H2 Hf2 (e1.trans e2) ⟨by rw [if_neg (by simp)]; exact r1.mono e2.fr _ _, r2⟩⟩⟩
theorem po_consO (ha : PE X a (tOb X.K fa)) (hr : PA X es (tAO X.K fl fs)) (hs : starEach (a :: es) X.env = (false, eval a X.env) :: starEach es X.env) : PA X (a :: es) (tAO X.K (true :: fl) fun ρ => (fa ρ).bind fun d => (fs ρ).map (d :: ·)) := by
  refine PAimp (pa_cons ha hr hs) fun σ H Q ⟨Hf, ρ, ds, er, hd, kF⟩ => ?_
  obtain ⟨x, h1, hd⟩ := Option.bind_eq_some_iff.mp hd
  obtain ⟨xs, h2, rfl⟩ := Option.map_eq_some_iff.mp hd
  exact ⟨Hf, ρ, x, er, h1, fun v H1 Hf1 e1 r1 => ⟨Hf1, ρ, xs, er.ext e1, h2, fun vs H2 Hf2 e2 r2 => kF (v :: vs) H2 Hf2 (e1.trans e2) ⟨by rw [if_pos rfl]; exact Memo.ob_mono e2.fr r1, r2⟩⟩⟩
/-- what is known of what puts things together, when it is ready -/
def MkOb (K : PySem.W.Frag) : Prop := ∀ H v j sm ts t, Memo.ob K H v (.list [j, sm, ts, t]) → Memo.dOk ∧ ∃ x dx vj vs p q kvs, v = .ref x ∧ H x = some (.ins Memo.cm dx (mkFs vj vs p q)) ∧ Memo.ob K H vj j ∧ Rp K H vs sm ∧ Rp K H (.ref p) ts ∧ t = .dict kvs ∧ Memo.ob K H (.ref q) t
/-- its class -/
structure MkCl (K : PySem.W.Frag) : Prop where
  cls : Cls K Memo.cm
  na : ∀ nm : Str, nm = "judge" ∨ nm = "some" ∨ nm = "things" ∨ nm = "put_links" → NoAttr K Memo.cm nm
/-- attributes' names that are known -/
def atNm (k : Nat) (nm : Str) : Prop := (k = 4 → nm = "some") ∧ (k = 5 → nm = "things")
omit [Memo] in
theorem lk_some {vj vs : V} {p q : Addr} : (mkFs vj vs p q).lookup ("some" : Str) = some vs := by rfl
omit [Memo] in
theorem lk_things {vj vs : V} {p q : Addr} : (mkFs vj vs p q).lookup ("things" : Str) = some (V.ref p) := by rfl
omit [Memo] in
theorem lk_judge {vj vs : V} {p q : Addr} : (mkFs vj vs p q).lookup ("judge" : Str) = some vj := by rfl
omit [Memo] in
theorem lk_links {vj vs : V} {p q : Addr} : (mkFs vj vs p q).lookup ("put_links" : Str) = some (V.ref q) := by rfl
/-- where attributes' values are -/
def AtJ (K : PySem.W.Frag) (k : Nat) (nm : Str) : Prop := ∀ H v ds y, Memo.ob K H v (.tuple ds) → ds[k]? = some y → ∃ q C dx fs u, v = .ref q ∧ H q = some (.ins C dx fs) ∧ Cls K C ∧ NoAttr K C nm ∧ fs.lookup nm = some u ∧ Rp K H u y
theorem attr_gen {σ : L2.St} {H Hf : Hp} {ρ : Rho} {d : PyData} {Q : VK} (hn : atNm k nm) (mo : MkOb X.K) (mc : Memo.dOk → MkCl X.K) (at_ : AtJ X.K k nm) (er : ER X.K σ H Hf ρ) (hd : attrR i k ρ = some d) (kF : ∀ v, Rp X.K Hf v d → Q v H) : tFld X.K (tVar i) nm σ H Q := by
  cases q : ρ[i]? with
  | none => simp only [attrR, q] at hd; cases hd
  | some s =>
    cases s with
    | ob c =>
      simp only [attrR, q] at hd
      obtain ⟨v, h1, h2⟩ := er.ob i _ q
      split at hd
      · rename_i ds z
        cases z
        obtain ⟨r, C, dx, fs, u, rfl, g1, g2, g3, g4, g5⟩ := at_ _ _ _ _ h2 hd
        exact ⟨.ref r, h1, r, C, dx, fs, u, rfl, er.sub.same _ _ g1, g2, g3, g4, kF u g5⟩
      · rename_i j sm ts t z
        cases z
        obtain ⟨dk, x, dx, vj, vs, p, r, kvs, rfl, a1, a2, a3, a4, a5, a6⟩ := mo _ _ _ _ _ _ h2
        by_cases c4 : k = 4
        · subst c4
          rw [if_pos rfl] at hd
          cases hd
          have en := hn.1 rfl
          subst en
          exact ⟨.ref x, h1, x, _, dx, _, vs, rfl, er.sub.same _ _ a1, (mc dk).cls, (mc dk).na _ (.inr (.inl rfl)), lk_some, kF vs a3⟩
        · rw [if_neg c4] at hd
          by_cases c5 : k = 5
          · subst c5
            rw [if_pos rfl] at hd
            cases hd
            have en := hn.2 rfl
            subst en
            exact ⟨.ref x, h1, x, _, dx, _, .ref p, rfl, er.sub.same _ _ a1, (mc dk).cls, (mc dk).na _ (.inr (.inr (.inl rfl))), lk_things, kF (.ref p) a4⟩
          · rw [if_neg c5] at hd; cases hd
      · rename_i z; cases z
      · cases hd
    | mk j sm ts kvs =>
      simp only [attrR, q] at hd
      obtain ⟨v, h1, x, dx, vj, vs, p, r, tvs, rfl, a1, a2, a3, a4, a5, a6, a7, a8, a9, a10, a11, a12⟩ := er.mk_ i q
      by_cases c4 : k = 4
      · subst c4
        rw [if_pos rfl] at hd
        cases hd
        have en := hn.1 rfl
        subst en
        exact ⟨.ref x, h1, x, _, dx, _, vs, rfl, a1, (mc a11).cls, (mc a11).na _ (.inr (.inl rfl)), lk_some, kF vs a4⟩
      · rw [if_neg c4] at hd; cases hd
    | un => simp only [attrR, q] at hd; cases hd
    | val _ => simp only [attrR, q] at hd; cases hd
    | own _ => simp only [attrR, q] at hd; cases hd
    | dic _ _ => simp only [attrR, q] at hd; cases hd
    | odc _ => simp only [attrR, q] at hd; cases hd
/-- o.nm -/
theorem pf_attr (he : PE X e (tVar i)) (hb : attributeBase e nm X.env (eval e X.env) = eval e X.env) (hn : atNm k nm) (mo : MkOb X.K) (mc : Memo.dOk → MkCl X.K) (at_ : AtJ X.K k nm) : PE X (.Attribute e nm pos) (tF X.K (attrR i k)) :=
  PEimp (pe_fld he hb) fun σ H Q ⟨Hf, ρ, d, er, hd, kF⟩ => attr_gen hn mo mc at_ er hd fun v r => kF.here er.sub r
theorem bor_attr (he : PE X e (tVar i)) (hb : attributeBase e nm X.env (eval e X.env) = eval e X.env) (hn : atNm k nm) (mo : MkOb X.K) (mc : Memo.dOk → MkCl X.K) (at_ : AtJ X.K k nm) : PE X (.Attribute e nm pos) (tBm X.K fun ρ => bor (.attr i k) ρ (attrR i k ρ)) := by
  refine PEimp (pe_fld he hb) fun σ H Q ⟨Hf, ρ, d, er, hd, kF⟩ => ?_
  by_cases c : ∃ a sm ts kvs, ρ[i]? = some (.mk a sm ts kvs) ∧ k = 5
  · obtain ⟨a, sm, ts, kvs, q, rfl⟩ := c
    simp only [bor, q, if_pos] at hd
    cases hd
    have en := hn.2 rfl
    subst en
    obtain ⟨v, h1, x, dx, vj, vs, p, r, tvs, rfl, a1, a2, a3, a4, a5, a6, a7, a8, a9, a10, a11, a12⟩ := er.mk_ i q
    exact ⟨.ref x, h1, x, _, dx, _, .ref p, rfl, a1, (mc a11).cls, (mc a11).na _ (.inr (.inr (.inl rfl))), lk_things, kF (.ref p) H Hf (Ext.refl er.sub) (.inr ⟨p, tvs, ts, rfl, rfl, a5, a6, a7⟩)⟩
  · have e1 : bor (.attr i k) ρ (attrR i k ρ) = attrR i k ρ := by
      show (match ρ[i]? with | some (.mk _ _ ts _) => if k = 5 then some (PyData.list ts) else attrR i k ρ | _ => attrR i k ρ) = _
      split
      · rename_i a sm ts kvs q
        rw [if_neg fun c5 => c ⟨a, sm, ts, kvs, q, c5⟩]
      · rfl
    have hd : bor (.attr i k) ρ (attrR i k ρ) = some d := hd
    rw [e1] at hd
    exact attr_gen hn mo mc at_ er hd fun v r => kF v H Hf (Ext.refl er.sub) (.inl r)
/-- o.judge -/
theorem judge_gen {σ : L2.St} {H Hf : Hp} {ρ : Rho} {d : PyData} {Q : VK} (mo : MkOb X.K) (mc : Memo.dOk → MkCl X.K) (er : ER X.K σ H Hf ρ) (hd : obJ i ρ = some d) (kF : ∀ v, Memo.ob X.K Hf v d → Q v H) : tFld X.K (tVar i) "judge" σ H Q := by
  unfold obJ at hd
  split at hd
  · rename_i a sm ts t q
    cases hd
    obtain ⟨v, h1, h2⟩ := er.ob i _ q
    obtain ⟨dk, x, dx, vj, vs, p, r, kvs, rfl, a1, a2, a3, a4, a5, a6⟩ := mo _ _ _ _ _ _ h2
    exact ⟨.ref x, h1, x, _, dx, _, vj, rfl, er.sub.same _ _ a1, (mc dk).cls, (mc dk).na _ (.inl rfl), lk_judge, kF vj a2⟩
  · rename_i a sm ts t q
    cases hd
    obtain ⟨v, h1, x, dx, vj, vs, p, r, tvs, rfl, a1, a2, a3, a4, a5, a6, a7, a8, a9, a10, a11, a12⟩ := er.mk_ i q
    exact ⟨.ref x, h1, x, _, dx, _, vj, rfl, a1, (mc a11).cls, (mc a11).na _ (.inl rfl), lk_judge, kF vj a3⟩
  · cases hd
theorem pob_judge (he : PE X e (tVar i)) (hb : attributeBase e "judge" X.env (eval e X.env) = eval e X.env) (mo : MkOb X.K) (mc : Memo.dOk → MkCl X.K) : PE X (.Attribute e "judge" pos) (tOb X.K (obJ i)) :=
  PEimp (pe_fld he hb) fun σ H Q ⟨Hf, ρ, d, er, hd, kF⟩ => judge_gen mo mc er hd fun v r => kF v H Hf (Ext.refl er.sub) r
/-- o.judge.nm -/
theorem pf_attr2 (he : PE X e (tVar i)) (hb : attributeBase e "judge" X.env (eval e X.env) = eval e X.env) (mo : MkOb X.K) (mc : Memo.dOk → MkCl X.K) (at_ : AtJ X.K k nm) : PE X (.Attribute (.Attribute e "judge" p) nm pos) (tF X.K fun ρ => attrD k (obJ i ρ)) := by
  refine PEimp (pe_fld (pob_judge (pos := p) he hb mo mc) rfl) fun σ H Q ⟨Hf, ρ, d, er, hd, kF⟩ => ?_
  have hd : attrD k (obJ i ρ) = some d := hd
  cases q : obJ i ρ with
  | none => rw [q] at hd; cases hd
  | some c =>
    rw [q] at hd
    unfold attrD at hd
    split at hd
    · rename_i ds z
      cases z
      refine ⟨Hf, ρ, _, er, q, fun v H' Hf' e' r => ?_⟩
      obtain ⟨y, C, dx, fs, u, rfl, g1, g2, g3, g4, g5⟩ := at_ _ _ _ _ r hd
      exact ⟨y, C, dx, fs, u, rfl, e'.sub.same _ _ g1, g2, g3, g4, (kF.ext e').here e'.sub g5⟩
    · cases hd
/-- the dict of links, when all is ready -/
def rTab (K : PySem.W.Frag) (g : List (PyData × PyData) → PyData → Option PyData) : V → V → Hp → VK → Prop := fun x y H Q => ∃ Hf kvs dk d, Sub H Hf ∧ Memo.ob K Hf x (.dict kvs) ∧ Rp K Hf y dk ∧ g kvs dk = some d ∧ KF K H Hf d Q
theorem links_gen {σ : L2.St} {H Hf : Hp} {ρ : Rho} {kvs : List (PyData × PyData)} {Q : VK} (mo : MkOb X.K) (mc : Memo.dOk → MkCl X.K) (er : ER X.K σ H Hf ρ) (hd : tabM i ρ = some kvs) (kF : ∀ v, Memo.ob X.K Hf v (.dict kvs) → Q v H) : tFld X.K (tVar i) "put_links" σ H Q := by
  unfold tabM at hd
  split at hd
  · rename_i a sm ts t q
    cases hd
    obtain ⟨v, h1, h2⟩ := er.ob i _ q
    obtain ⟨dk, x, dx, vj, vs, p, r, kvs, rfl, a1, a2, a3, a4, a5, a6⟩ := mo _ _ _ _ _ _ h2
    cases a5
    exact ⟨.ref x, h1, x, _, dx, _, .ref r, rfl, er.sub.same _ _ a1, (mc dk).cls, (mc dk).na _ (.inr (.inr (.inr rfl))), lk_links, kF (.ref r) a6⟩
  · cases hd
/-- what dicts of one's own, and tables, obey -/
def tNewD : TE := fun _ H Q => ∀ p, H p = none → (p == sysModules) = false → Q (.ref p) (upd H p (.ext (Memo.dic p [])))
def rPutD (K : PySem.W.Frag) : TSet := fun o i v H Q => ∃ Hf p kvs dk d, o = .ref p ∧ Sub H Hf ∧ DOwn K H Hf p kvs ∧ Rp K Hf i dk ∧ keyOk dk = true ∧ Rp K Hf v d ∧ kvs.length < 1000000 ∧
  ∀ xs : List Ent, (xs.map (·.1)).Nodup → DEnts K Hf xs (dPut dk d kvs) → Q (upd H p (.ext (Memo.dic p xs)))
structure DRules (X : Cx) : Prop where
  new : ∀ pos, PE X (.Dict [] [] pos) tNewD
  put : PSet X (rPutD X.K)
  get : IxR X (rTab X.K fun kvs k => if keyOk k then tabGet k kvs else none)
  isin : OpR X (compareOp .In) fun x y => rTab X.K (fun kvs k => if keyOk k then some (.bool (tabGet k kvs).isSome) else none) y x
  notin : OpR X (compareOp .NotIn) fun x y => rTab X.K (fun kvs k => if keyOk k then some (.bool (!(tabGet k kvs).isSome)) else none) y x
def DicRules (P : Program) (w : World) (K : PySem.W.Frag) : Prop := Memo.dOk → ∀ X : Cx, X.prog = P → X.w = w → X.K = K → X.A.in1.units + 8 < cLine → DRules X
/-- f(.., object, ..) -/
theorem callO_in {K : PySem.W.Frag} {f : List PyData → Option PyData} {E : XK} {σ : L2.St} {H : Hp} {Q : VK} (h : tF K (fun ρ => (fs ρ).bind f) σ H Q) : tCall (spG K fl f) [] E (tAO K fl fs) σ H Q := by
  obtain ⟨Hf, ρ, d, er, hd, kF⟩ := h
  obtain ⟨ds, h1, hd⟩ := Option.bind_eq_some_iff.mp hd
  refine ⟨Hf, ρ, ds, er, h1, fun vs H' Hf' e r => ?_⟩
  show spG K fl f (vs ++ []) H' Q E
  rw [List.append_nil]
  exact ⟨Hf', ds, d, e.sub, r, hd, kF.ext e⟩
/-- the shape of a method's receiver -/
def HkS : Hk → PyData → Prop
  | .jd, d => ∃ ds, d = .tuple ds
  | .mr, d => ∃ j sm ts t, d = .list [j, sm, ts, t]
  | .fn, _ => False
omit [Memo] in
theorem headK_sh {hk : Hk} {f : List PyData → Option PyData} {r d : PyData} {ds : List PyData} (hm : hk ≠ .fn) (hd : headK hk f (r :: ds) = some d) : HkS hk r ∧ f (r :: ds) = some d := by
  unfold headK at hd
  split at hd
  · exact absurd rfl hm
  · rename_i h3; cases h3; exact ⟨⟨_, rfl⟩, hd⟩
  · rename_i h3; cases h3; exact ⟨⟨_, _, _, _, rfl⟩, hd⟩
  · cases hd
/-- o.m(..) -/
theorem meth_in {K : PySem.W.Frag} {C : Addr} {hk : Hk} {f : List PyData → Option PyData} {E : XK} {σ : L2.St} {H : Hp} {Q : VK} (hm : hk ≠ .fn) (hob : ∀ H v d, Memo.ob K H v d → HkS hk d → ∃ q dx gs, v = .ref q ∧ H q = some (.ins C dx gs) ∧ gs.lookup m = none)
    (h : tF K (fun ρ => (fr ρ).bind fun d => (fs ρ).bind fun ds => headK hk f (d :: ds)) σ H Q) : tMeth C m (spG K (true :: fl) f) [] E (tOb K fr) (tAO K fl fs) σ H Q := by
  obtain ⟨Hf, ρ, d, er, hd, kF⟩ := h
  obtain ⟨r, h1, hd⟩ := Option.bind_eq_some_iff.mp hd
  obtain ⟨ds, h2, hd⟩ := Option.bind_eq_some_iff.mp hd
  have sh := headK_sh hm hd
  refine ⟨Hf, ρ, r, er, h1, fun v H1 Hf1 e1 r1 => ?_⟩
  obtain ⟨q, dx, gs, rfl, g1, g2⟩ := hob _ _ _ r1 sh.1
  refine ⟨q, dx, gs, rfl, e1.sub.same _ _ g1, g2, Hf1, ρ, ds, er.ext e1, h2, fun vs H2 Hf2 e2 r2 => ?_⟩
  show spG K (true :: fl) f (.ref q :: (vs ++ [])) H2 Q E
  rw [List.append_nil]
  exact ⟨Hf2, r :: ds, d, e2.sub, ⟨by rw [if_pos rfl]; exact Memo.ob_mono e2.fr r1, r2⟩, sh.2, (kF.ext e1).ext e2⟩
/-- C(a) -/
theorem make_in {K : PySem.W.Frag} {C : Addr} {f : List PyData → Option PyData} {E : XK} {σ : L2.St} {H : Hp} {Q : VK} (h : tOb K (fun ρ => (fa ρ).bind fun y => f [y]) σ H Q) : tMake C (spInit K C f) [] E (tAs K fun ρ => (fa ρ).bind fun d => (some []).map (d :: ·)) σ H Q := by
  obtain ⟨Hf, ρ, d, er, hd, kF⟩ := h
  obtain ⟨y, h1, hd⟩ := Option.bind_eq_some_iff.mp hd
  refine ⟨Hf, ρ, [y], er, by (show (fa ρ).bind _ = _); rw [h1]; rfl, fun vs H1 Hf1 e1 r1 z dx hz hdx hne => ?_⟩
  cases r1 with
  | cons r1 r2 =>
    cases r2
    exact ⟨H1, Hf1, z, dx, _, y, d, rfl, hz, hdx, hne, rfl, e1.sub, r1, hd, fun H' Hf' e r => ⟨rfl, kF _ H' Hf' (e1.trans e) r⟩⟩
/-- f(..), which gives an object -/
theorem bld_in {K : PySem.W.Frag} {f : List PyData → Option PyData} {E : XK} {σ : L2.St} {H : Hp} {Q : VK} (h : tOb K (fun ρ => (fs ρ).bind f) σ H Q) : tCall (spB K fl f) [] E (tAO K fl fs) σ H Q := by
  obtain ⟨Hf, ρ, d, er, hd, kF⟩ := h
  obtain ⟨ds, h1, hd⟩ := Option.bind_eq_some_iff.mp hd
  refine ⟨Hf, ρ, ds, er, h1, fun vs H' Hf' e r => ?_⟩
  show spB K fl f (vs ++ []) H' Q E
  rw [List.append_nil]
  exact ⟨Hf', ds, d, e.sub, r, hd, fun v H2 Hf2 e2 r2 => kF v H2 Hf2 (e.trans e2) r2⟩
/-- g(..), g a slot that holds a function -/
theorem pf_callV {run : Nat → List PyData → Option PyData} {CX : CXT} {lv : Nat} {E : XK} (hN : X.N[i]? = some x) (hv : Vis X.env.scope x) (hd : (x == ("__debug__" : Str)) = false) (hcd : (x == ("__classdict__" : Str)) = false) (hr : Room lv X.A) (hx : Passes CX X E)
    (fv : ∀ H v j, Memo.ob X.K H v (.int j) → ∃ g fd ps, v = .ref g ∧ PySem.W.keepIn X.K (.ref g) = true ∧ Binds X.K fd ps [] ∧ FnOk X.prog X.w X.K X.mg X.base CX lv g fd ps (spD X.K (run j.toNat)))
    (ha : PA X (e :: es) (tAs X.K fs)) (he : starEach (e :: es) X.env = (false, eval e X.env) :: starEach es X.env) (hpl : (backTo pos (starEach es X.env)).any (·.1) = false) :
    PE X (.Call (.Name x p) (e :: es) [] pos) (tF X.K fun ρ => (fs ρ).bind (runV run (obV i ρ))) := by
  refine ⟨fun pins s σ H Q I h => ?_⟩
  obtain ⟨Hf, ρ, d, er, hd', kF⟩ := h
  obtain ⟨ds, h1, hd'⟩ := Option.bind_eq_some_iff.mp hd'
  unfold runV at hd'
  split at hd'
  · rename_i j q
    unfold obV at q
    split at q
    · rename_i d2 q2
      cases q
      obtain ⟨v, g1, g2⟩ := er.ob i _ q2
      obtain ⟨g, fd, ps, rfl, g3, g4, g5⟩ := fv _ _ _ g2
      refine wpAny_Call_Name_kw (thn ((pe_var (pos := p) hN hv hd hcd).run pins s σ H (fun v H1 => v = .ref g ∧ H1 = H) I ⟨.ref g, g1, rfl, rfl⟩) fun u s1 ⟨v, H1, I1, r1, q1⟩ => ?_)
      obtain ⟨ev, eH⟩ := q1
      subst ev
      rw [eH] at I1
      obtain rfl : u = Value.ref g := r1
      refine PySem.W.callWith_K (first := []) (h₀ := X.base) I.ok.mod.kin g3 (thn (ha.run pos pins s1 σ H _ I1 ⟨Hf, ρ, ds, er, h1, fun vs H2 Hf2 e2 r2 => (⟨Hf2, e2, r2⟩ : ∃ Hf2, Ext H Hf H2 Hf2 ∧ RpAll X.K Hf2 vs ds)⟩) fun us s2 ⟨vs, H2, I2, r, Hf2, e2, r2⟩ => ⟨I2.kIn, ?_⟩) he hpl
      exact run_fn (ds := []) (dvs := []) g5 hr g4 .nil hx I2 r (by rw [List.append_nil]; exact ⟨Hf2, ds, d, e2.sub, r2, hd', kF.ext e2⟩)
    · cases q
  · cases hd'
/-- a method call on one line -/
theorem ev_meth {env : Env} {l : List Expr} (hb : attributeBase o m env (eval o env) = eval o env) (hf : methodCallForm (l.length + ([] : List Keyword).length) (backTo pos (starEach l env)) (backToKw pos (keywordEach [] env)) = true) (hl : (apos.endLine == pos.line) = true) :
    eval (.Call (.Attribute o m apos) l [] pos) env = (do
      let ov ← eval o env
      standAt apos.atName
      let (f, first) ← holding [ov] (getMethod ov m (plainOf o env))
      callWith pos f first (backTo pos (starEach l env)) (backToKw pos (keywordEach [] env))) := by
  rw [arm_eval_Call, hb]
  congr 1
  funext ov
  congr 1
  funext _
  exact mcall_line hf hl
end
end Ev

/-! EvG: when a text of the small language is that of an expression; then it computes what the expression does. -/
namespace Ev
variable [Memo]
open PySem PySem.Spec PyProof.Rows L2

/-! ### the look -/
def visB (sc : Scope) (x : Str) : Bool := match sc.names.lookup x with
  | some .local => true
  | some .cell => true
  | some .free => true
  | _ => false
def locB (sc : Scope) (x : Str) : Bool := match sc.names.lookup x with
  | some .local => true
  | some .cell => true
  | _ => false
def glB (sc : Scope) (x : Str) : Bool := match sc.names.lookup x with
  | some .globalImplicit => true
  | _ => false
def dbgB (x : Str) : Bool := (x == ("__debug__" : Str)) || (x == ("__classdict__" : Str))
def plainE : Expr → Bool
  | .Starred _ _ => false
  | .Set _ _ _ => false
  | .Slice _ _ _ _ => false
  | .ListComp _ _ _ _ => true
  | .SetComp _ _ _ _ => false
  | .DictComp _ _ _ _ _ => false
  | _ => true
def ownOf (N : List Str) (sc : Scope) : List (Str × Nat) := sc.names.filterMap fun y => match y.2 with
  | .local => (N.idxOf? y.1).map fun i => (y.1, i)
  | .cell => (N.idxOf? y.1).map fun i => (y.1, i)
  | _ => none
def bltStr : Blt → Str
  | .len => "len" | .int => "int" | .tuple => "tuple" | .list => "list" | .sorted => "sorted" | .all => "all" | .any => "any" | .str => "str"
def isBool : Expr → Bool
  | .BoolOp _ _ _ => true
  | _ => false
/-- names of a target that may be stored: fn tells which cells are the block's own -/
def tgB (N : List Str) (sc : Scope) (own : Str → Bool) (i : Nat) : Expr → Bool
  | .Name x _ => decide (N[i]? = some x) && locB sc x && (own x || decide (sc.names.lookup x = some .local))
  | _ => false
def tgBs (N : List Str) (sc : Scope) (own : Str → Bool) : List Nat → List Expr → Bool
  | [], [] => true
  | i :: is, e :: es => tgB N sc own i e && tgBs N sc own is es
  | _, _ => false
def chkT (N : List Str) (sc : Scope) (own : Str → Bool) : Tg → Expr → Bool
  | .nm i, e => tgB N sc own i e
  | .tp is, .Tuple es _ _ => tgBs N sc own is es
  | .tp _, _ => false

/-- the keys of a display are these texts -/
def dkB : List Str → List (Option Expr) → Bool
  | [], [] => true
  | k :: ks, some (.Constant (.str y) _ _) :: es => decide (k = y) && dkB ks es
  | _, _ => false
def dkOk (ks : List Str) : Bool := decide ks.Nodup && !ks.isEmpty && decide (ks.length ≤ 15)
theorem dkB_len : ∀ {ks : List Str} {es : List (Option Expr)}, dkB ks es = true → es.length = ks.length ∧ es.all (·.isSome) = true
  | [], [], _ => ⟨rfl, rfl⟩
  | [], _ :: _, h => by simp [dkB] at h
  | _ :: _, [], h => by simp [dkB] at h
  | k :: ks, e :: es, h => by
    unfold dkB at h
    split at h
    · rename_i h1 h2; cases h1
    · rename_i h1 h2
      cases h1; cases h2
      simp only [Bool.and_eq_true] at h
      obtain ⟨a, b⟩ := dkB_len h.2
      exact ⟨by rw [List.length_cons, List.length_cons, a], by simpa using b⟩
    · cases h
def isDic : PyData → Bool
  | .dict _ => true
  | _ => false
mutual
/-- is a key function made here? -/
def srtS : QS → Bool
  | .srt _ _ _ _ _ _ _ => true
  | .iff _ _ a b => srtSs a || srtSs b
  | .for _ _ _ b => srtSs b
  | .whl _ b => srtSs b
  | _ => false
def srtSs : QSs → Bool
  | .nil => false
  | .cons s r => srtS s || srtSs r
end
/-- which parameters are objects; the text behind -/
def oxF (F : FDef) : List Nat := match F.body with
  | .cons (.obs is) _ => is
  | _ => []
def bodyF (F : FDef) : QSs := match F.body with
  | .cons (.obs _) r => r
  | .cons .mks r => r
  | b => b
def flF (F : FDef) : List Bool := (List.range F.ps.length).map fun i => (oxF F).contains i
def isOb : PX → Bool
  | .obj _ => true
  | .fnv _ => true
  | .new _ _ => true
  | .bld _ _ => true
  | .obJ _ => true
  | _ => false
/-- what may stand ahead of a method's name without more -/
def baseB : Expr → Bool
  | .Name _ _ => true
  | .Constant _ _ _ => true
  | .Attribute _ _ _ => true
  | .Call _ (_ :: _) _ _ => true
  | _ => false
def atB (k : Nat) (nm : Str) : Bool := (decide (k ≠ 4) || decide (nm = "some")) && (decide (k ≠ 5) || decide (nm = "things"))
theorem at_nm {k : Nat} {nm : Str} (h : atB k nm = true) : atNm k nm := by
  simp only [atB, Bool.and_eq_true, Bool.or_eq_true, decide_eq_true_eq] at h
  exact ⟨fun e => h.1.resolve_left fun n => n e, fun e => h.2.resolve_left fun n => n e⟩
def flA : PXs → List Bool
  | .nil => []
  | .cons p ps => isOb p :: flA ps
section
variable (T : Tab) (N : List Str)
mutual
def chk : PX → Scope → Expr → Bool
  | .var i, sc, e => match e with
    | .Name x _ => decide (N[i]? = some x) && visB sc x && !dbgB x
    | _ => false
  | .lit d, _, e => match d, e with
    | .int i, .Constant (.int j) _ _ => decide (i = j)
    | .str x, .Constant (.str y) _ _ => decide (x = y) && decide (x.length ≤ 1000) && PyData.strOk x
    | .bool a, .Constant (.bool b) _ _ => decide (a = b)
    | .none, .Constant .none _ _ => true
    | _, _ => false
  | .glb g, sc, e => match e, T.glb g with
    | .Name x _, some (y, d) => decide (x = y) && glB sc x && !dbgB x && !isDic d
    | _, _ => false
  | .bin op a b, sc, e => match e with
    | .BinOp l o r _ => decide (o = bopOp op) && chk a sc l && chk b sc r
    | _ => false
  | .neg a, sc, e => match e with
    | .UnaryOp .USub l _ => chk a sc l
    | _ => false
  | .not a, sc, e => match e with
    | .UnaryOp .Not l _ => chk a sc l
    | _ => false
  | .and a b, sc, e => match e with
    | .BoolOp .And [x, y] _ => chk a sc x && chk b sc y
    | .BoolOp .And (x :: y :: z :: r) pos => chk a sc x && chk b sc (.BoolOp .And (y :: z :: r) pos)
    | _ => false
  | .or a b, sc, e => match e with
    | .BoolOp .Or [x, y] _ => chk a sc x && chk b sc y
    | .BoolOp .Or (x :: y :: z :: r) pos => chk a sc x && chk b sc (.BoolOp .Or (y :: z :: r) pos)
    | _ => false
  | .cmp op a b, sc, e => match e with
    | .Compare l [o] [r] _ => decide (o = copOp op) && chk a sc l && chk b sc r
    | _ => false
  | .isN ng a, sc, e => match e with
    | .Compare l [o] [.Constant .none _ _] _ => decide (o = if ng then .IsNot else .Is) && chk a sc l
    | _ => false
  | .isTr ng a, sc, e => match e with
    | .Compare l [o] [.Constant (.bool true) _ _] _ => decide (o = if ng then .IsNot else .Is) && chk a sc l
    | _ => false
  | .chain o1 o2 a b c, sc, e => match e with
    | .Compare l [p1, p2] [m, r] _ => decide (p1 = copOp o1) && decide (p2 = copOp o2) && chk a sc l && chk b sc m && chk c sc r
    | _ => false
  | .ife c a b, sc, e => match e with
    | .IfExp t l r _ => chk c sc t && chk a sc l && chk b sc r
    | _ => false
  | .tup es, sc, e => match e with
    | .Tuple l _ _ => chks es sc l
    | _ => false
  | .lst es, sc, e => match e with
    | .List l _ => chks es sc l
    | _ => false
  | .ix a i, sc, e => match e with
    | .Subscript l r _ => chk a sc l && chk i sc r
    | _ => false
  | .slc a lo hi, sc, e => match e with
    | .Subscript l (.Slice none none none _) _ => chk a sc l && (match lo with | .omit => true | _ => false) && (match hi with | .omit => true | _ => false)
    | .Subscript l (.Slice (some x) none none _) _ => chk a sc l && chk lo sc x && (match hi with | .omit => true | _ => false)
    | .Subscript l (.Slice none (some y) none _) _ => chk a sc l && (match lo with | .omit => true | _ => false) && chk hi sc y
    | .Subscript l (.Slice (some x) (some y) none _) _ => chk a sc l && chk lo sc x && chk hi sc y
    | _ => false
  | .omit, _, _ => false
  | .rev a, sc, e => match e with
    | .Subscript l (.Slice none none (some (.UnaryOp .USub (.Constant (.int j) _ _) _)) _) _ => decide (j = 1) && chk a sc l
    | _ => false
  | .call f es, sc, e => match e, T.fn f with
    | .Call (.Name x _) (a :: l) [] _, some F => decide (x = F.name) && glB sc x && !dbgB x && !srtSs F.body && (oxF F).isEmpty && !T.mt f && decide (F.kd = .pl) && chks es sc (a :: l)
    | _, _ => false
  | .blt b a, sc, e => match e with
    | .Call (.Name x _) [l] [] _ => decide (x = bltStr b) && glB sc x && chk a sc l
    | _ => false
  | .isI a t, sc, e => match e with
    | .Call (.Name x _) [l, .Name y _] [] _ => decide (x = "isinstance") && decide (y = tyStr t) && glB sc x && glB sc y && chk a sc l
    | _ => false
  | .join o a, sc, e => match e with
    | .Call (.Attribute l m apos) [r] [] pos => decide (m = "join") && baseB l && (apos.endLine == pos.line) && chk o sc l && chk a sc r
    | _ => false
  | .split o a, sc, e => match e with
    | .Call (.Attribute l m apos) [r] [] pos => decide (m = "split") && baseB l && (apos.endLine == pos.line) && chk o sc l && chk a sc r
    | _ => false
  | .index o a, sc, e => match e with
    | .Call (.Attribute l m apos) [r] [] pos => decide (m = "index") && baseB l && (apos.endLine == pos.line) && chk o sc l && chk a sc r
    | _ => false
  | .lc ws elt tg it c, sc, e => match e with
    | .ListComp el [⟨t, i, ifs, 0⟩] scope _ => decide (ws = (ownOf N scope).map (·.2)) && blkC N sc scope (ownOf N scope) && chkI it sc t i
      && chkT N (relS scope sc) (fun x => scope.names.lookup x == some .cell) tg t && (tgIds tg).all (fun i => decide (i ∈ ws))
      && (match ifs with
        | [] => (match c with | .lit (.bool true) => true | _ => false)
        | [x] => chk c (relS scope sc) x
        | _ => false) && chk elt (relS scope sc) el
    | _ => false
  | .pick ks es k, sc, e => match e with
    | .Subscript (.Dict keys vals _) r _ => dkB ks keys && dkOk ks && decide (keys.length = vals.length) && chks es sc vals && chk k sc r
    | _ => false
  | .getd ks es k d, sc, e => match e with
    | .Call (.Attribute (.Dict keys vals _) m apos) [r, f] [] pos => decide (m = "get") && (apos.endLine == pos.line) && dkB ks keys && dkOk ks && decide (keys.length = vals.length) && chks es sc vals && chk k sc r && chk d sc f
    | _ => false
  | .pickV i k, sc, e => match e with
    | .Subscript (.Name x _) r _ => decide (N[i]? = some x) && visB sc x && !dbgB x && chk k sc r
    | _ => false
  | .rngL a, sc, e => match e with
    | .Call (.Name x _) [.Call (.Name y _) [l] [] _] [] _ => decide (x = "list") && decide (y = "range") && glB sc x && glB sc y && chk a sc l
    | _ => false
  | .inG neg k g, sc, e => match e, T.glb g with
    | .Compare l [o] [.Name x _] _, some (y, d) => decide (o = if neg then .NotIn else .In) && decide (x = y) && glB sc x && !dbgB x && isDic d && chk k sc l
    | _, _ => false
  | .pickG g k, sc, e => match e, T.glb g with
    | .Subscript (.Name x _) r _, some (y, d) => decide (x = y) && glB sc x && !dbgB x && isDic d && chk k sc r
    | _, _ => false
  | .sset a, sc, e => match e with
    | .Call (.Name x _) [.Call (.Name y _) [l] [] _] [] _ => decide (x = "sorted") && decide (y = "set") && glB sc x && glB sc y && chk a sc l
    | _ => false
  | .attr i k, sc, e => match e, T.at_ k with
    | .Attribute (.Name x _) m _, some nm => decide (N[i]? = some x) && visB sc x && !dbgB x && decide (m = nm) && atB k nm
    | _, _ => false
  | .attr2 i k, sc, e => match e, T.at_ k with
    | .Attribute (.Attribute (.Name x _) m1 _) m _, some nm => decide (N[i]? = some x) && visB sc x && !dbgB x && decide (m1 = "judge") && decide (m = nm)
    | _, _ => false
  | .obJ _, _, _ => false
  | .inT ng i k, sc, e => match e with
    | .Compare l [o] [.Attribute (.Name x _) m _] _ => decide (o = if ng then .NotIn else .In) && decide (N[i]? = some x) && visB sc x && !dbgB x && decide (m = "put_links") && chk k sc l && T.dk
    | _ => false
  | .getT i k, sc, e => match e with
    | .Subscript (.Attribute (.Name x _) m _) r _ => decide (N[i]? = some x) && visB sc x && !dbgB x && decide (m = "put_links") && chk k sc r && T.dk
    | _ => false
  | .mkw f j s, sc, e => match e, T.fn f with
    | .Call (.Attribute (.Call (.Name y _) [.Name z _, se] [] _) m apos) [] [] pos, some F => decide (m = F.name) && (apos.endLine == pos.line) && decide (F.kd = .wld) && !srtSs F.body && T.mt f && decide (y = "Maker") && glB sc y && decide (N[j]? = some z) && visB sc z && !dbgB z && chk s sc se && T.dk
    | _, _ => false
  | .obj _, _, _ => false
  | .fnv _, _, _ => false
  | .new _ _, _, _ => false
  | .bld _ _, _, _ => false
  | .callO m f es, sc, e => match m, e, T.fn f with
    | .fn, .Call (.Name x _) (a :: l) [] _, some F => decide (x = F.name) && glB sc x && !dbgB x && !srtSs F.body && !T.mt f && !(oxF F).isEmpty && decide (F.kd = .pl) && decide (flA es = flF F) && chkAs es sc (a :: l)
    | hk, .Call (.Attribute o m apos) (a :: l) [] pos, some F => decide (hk = if T.mm f then .mr else .jd) && decide (m = F.name) && (apos.endLine == pos.line) && !srtSs F.body && T.mt f && decide (F.kd = .pl) && decide (flA es = flF F) && (match es with | .cons p _ => isOb p | .nil => false) && decide (l.length < 20) && chkAs es sc (o :: a :: l)
    | _, _, _ => false
  | .callV i es, sc, e => match e with
    | .Call (.Name x _) (a :: l) [] _ => decide (N[i]? = some x) && visB sc x && !dbgB x && chks es sc (a :: l)
    | _ => false
  | .pickO i k, sc, e => match e with
    | .Subscript (.Name x _) r _ => decide (N[i]? = some x) && visB sc x && !dbgB x && chk k sc r && T.dk
    | _ => false
/-- arguments, some of them objects -/
def chkAs : PXs → Scope → List Expr → Bool
  | .nil, _, es => match es with
    | [] => true
    | _ => false
  | .cons (.obj i) ps, sc, es => match es with
    | .Name x _ :: es => decide (N[i]? = some x) && visB sc x && !dbgB x && chkAs ps sc es
    | _ => false
  | .cons (.fnv f) ps, sc, es => match es, T.fn f with
    | .Name x _ :: es, some F => decide (x = F.name) && glB sc x && !dbgB x && !srtSs F.body && (oxF F).isEmpty && !T.mt f && decide (F.kd = .pl) && T.fv f && chkAs ps sc es
    | _, _ => false
  | .cons (.new c j) ps, sc, es => match es, T.nw c with
    | .Call (.Name x _) [l] [] _ :: es, some nm => decide (x = nm) && glB sc x && !dbgB x && chk j sc l && chkAs ps sc es
    | _, _ => false
  | .cons (.bld f bs) ps, sc, es => match es, T.fn f with
    | .Call (.Name x _) (a :: l) [] _ :: es, some F => decide (x = F.name) && glB sc x && !dbgB x && !srtSs F.body && !T.mt f && decide (F.kd = .bld) && decide (flA bs = flF F) && chkAs bs sc (a :: l) && chkAs ps sc es
    | _, _ => false
  | .cons (.obJ i) ps, sc, es => match es with
    | .Attribute (.Name x _) m _ :: es => decide (N[i]? = some x) && visB sc x && !dbgB x && decide (m = "judge") && chkAs ps sc es
    | _ => false
  | .cons p ps, sc, es => match es with
    | e :: es => chk p sc e && chkAs ps sc es
    | _ => false
def chks : PXs → Scope → List Expr → Bool
  | .nil, _, es => match es with
    | [] => true
    | _ => false
  | .cons p ps, sc, es => match es with
    | e :: es => chk p sc e && chks ps sc es
    | _ => false
def chkI : PIt → Scope → Expr → Expr → Bool
  | .seq a, sc, _, e => chk a sc e
  | .rng1 a, sc, _, e => match e with
    | .Call (.Name x _) [l] [] _ => decide (x = "range") && glB sc x && chk a sc l
    | _ => false
  | .rng2 a b, sc, _, e => match e with
    | .Call (.Name x _) [l, r] [] _ => decide (x = "range") && glB sc x && chk a sc l && chk b sc r
    | _ => false
  | .enum a, sc, t, e => match t, e with
    | .Tuple _ _ _, .Call (.Name x _) [l] [] _ => decide (x = "enumerate") && glB sc x && chk a sc l
    | _, _ => false
  | .zip a b, sc, t, e => match t, e with
    | .Tuple _ _ _, .Call (.Name x _) [l, r] [] _ => decide (x = "zip") && glB sc x && chk a sc l && chk b sc r
    | _, _ => false
end
end
/-- the built-ins' names -/
def bNames : List Str := ["len", "int", "tuple", "list", "sorted", "all", "any", "str", "isinstance", "bool", "range", "enumerate", "zip", "set"]

/-- what the making promises of one that puts things together -/
def spMI (K : PySem.W.Frag) : Sp := fun vs H Q _ => ∃ H0 Hf x dx vj us, vs = [.ref x, vj, us] ∧ H0 x = none ∧ H0 dx = none ∧ dx ≠ x ∧ H = upd (upd H0 dx (.own x)) x (.ins Memo.cm dx []) ∧ Sub H0 Hf ∧
  ∀ H' p q, Ext H0 Hf H' Hf → H' x = some (.ins Memo.cm dx (mkFs vj us p q)) → H' p = some (.lst []) → H' q = some (.ext (Memo.dic q [])) → H0 p = none → H0 q = none → (q == sysModules) = false → Q .non H'
def hkOf (b : Bool) : Hk := if b then .mr else .jd
/-- what is known of objects -/
structure ObOk (T : Tab) (n : Nat) (P : Program) (w : World) (K : PySem.W.Frag) (mg : Str → Option Value) (base : Heap) : Prop where
  at_ : ∀ k nm, T.at_ k = some nm → AtJ K k nm
  mo : MkOb K
  mc : Memo.dOk → MkCl K
  dk : T.dk = true → Memo.dOk
  dr : DicRules P w K
  mt : ∀ f F, T.fn f = some F → T.mt f = true → F.kd = .pl → srtSs F.body = false → ∃ C a fd, Cls K C ∧ Meth K C F.name a ∧ Binds K fd F.ps [] ∧ FnOk P w K mg base CX0 (T.c * n) a fd F.ps (spG K (flF F) (T.run n f)) ∧
    ∀ H v d, Memo.ob K H v d → HkS (hkOf (T.mm f)) d → ∃ q dx gs, v = .ref q ∧ H q = some (.ins C dx gs) ∧ gs.lookup F.name = none
  mu : ∀ f F, T.fn f = some F → T.mt f = true → F.kd = .mut → srtSs F.body = false → ∃ a fd, Meth K Memo.cm F.name a ∧ Binds K fd F.ps [] ∧ FnOk P w K mg base CX0 (T.c * n) a fd F.ps (spM K (T.run n f)) ∧ ∀ vj vs p q, (mkFs vj vs p q).lookup F.name = none
  wd : ∀ f F, T.fn f = some F → T.mt f = true → F.kd = .wld → srtSs F.body = false → ∃ a fd, Meth K Memo.cm F.name a ∧ Binds K fd F.ps [] ∧ FnOk P w K mg base CX0 (T.c * n) a fd F.ps (spW K (T.run n f)) ∧ ∀ vj vs p q, (mkFs vj vs p q).lookup F.name = none
  fo : ∀ f F, T.fn f = some F → T.mt f = false → F.kd = .pl → srtSs F.body = false → (oxF F).isEmpty = false → ∃ a fd, mg F.name = some (.ref a) ∧ PySem.W.keepIn K (.ref a) = true ∧ Binds K fd F.ps [] ∧ FnOk P w K mg base CX0 (T.c * n) a fd F.ps (spG K (flF F) (T.run n f))
  bo : ∀ f F, T.fn f = some F → T.mt f = false → F.kd = .bld → srtSs F.body = false → ∃ a fd, mg F.name = some (.ref a) ∧ PySem.W.keepIn K (.ref a) = true ∧ Binds K fd F.ps [] ∧ FnOk P w K mg base CX0 (T.c * n) a fd F.ps (spB K (flF F) (T.run n f))
  nw : ∀ c nm, T.nw c = some nm → (∀ ds, T.run n c ds = none) ∨ ∃ C fI fd lv, mg nm = some (.ref C) ∧ Mk K C fI ∧ Binds K fd ["self", "row"] [] ∧ lv + 1 ≤ T.c * n ∧ FnOk P w K mg base CX0 lv fI fd ["self", "row"] (spInit K C (T.run n c))
  mw : ∀ f F, T.fn f = some F → T.mt f = true → F.kd = .wld → (∀ ds, T.run n f ds = none) ∨ ∃ fI fd lv, mg "Maker" = some (.ref Memo.cm) ∧ Mk K Memo.cm fI ∧ Binds K fd ["self", "judge", "some"] [] ∧ lv + 1 ≤ T.c * n ∧ FnOk P w K mg base CX0 lv fI fd ["self", "judge", "some"] (spMI K)
  fv : ∀ H v j, Memo.ob K H v (.int j) → ∃ F, T.fn j.toNat = some F ∧ srtSs F.body = false ∧ (oxF F).isEmpty = true ∧ T.mt j.toNat = false ∧ F.kd = .pl ∧ ∃ g, v = .ref g ∧ mg F.name = some (.ref g)
  fvI : ∀ H f F g, T.fv f = true → T.fn f = some F → srtSs F.body = false → (oxF F).isEmpty = true → T.mt f = false → F.kd = .pl → mg F.name = some (.ref g) → Memo.ob K H (.ref g) (.int (f : Nat))
/-- where an expression stands -/
structure Cok (T : Tab) (n : Nat) (X : Cx) : Prop where
  nd : X.N.Nodup
  calm : X.calm = true
  xe : X.xe = fun _ _ => False
  kind : X.env.scope.kind = .function
  room : Room (T.c * n) X.A
  blt : ∀ x ∈ bNames, X.mg x = none
  glb : ∀ g x d, T.glb g = some (x, d) → ∃ u v, X.mg x = some u ∧ RelV v u ∧ ((∀ H, Rp X.K H v d) ∨ ∃ kvs, d = .dict kvs ∧ GDic X.K X.w v kvs)
  ob : ObOk T n X.prog X.w X.K X.mg X.base
  fn : ∀ f F, T.fn f = some F → srtSs F.body = false → (oxF F).isEmpty = true → T.mt f = false → F.kd = .pl → ∃ a fd, X.mg F.name = some (.ref a) ∧ PySem.W.keepIn X.K (.ref a) = true ∧ Binds X.K fd F.ps [] ∧ FnOk X.prog X.w X.K X.mg X.base CX0 (T.c * n) a fd F.ps (spD X.K (T.run n f))
abbrev Tab.G (T : Tab) : Nat → Option PyData := fun g => (T.glb g).map (·.2)
abbrev ev (T : Tab) (n : Nat) (p : PX) : Rho → Option PyData := evE T.G (T.run n) p

section
variable {T : Tab} {n : Nat} {X : Cx}
theorem chk_plain : ∀ (p : PX) {N : List Str} {sc : Scope} {e : Expr}, chk T N p sc e = true → plainE e = true
  | p, N, sc, .Starred a b, h => by cases p <;> simp [chk] at h
  | p, N, sc, .Set a b c, h => by cases p <;> simp [chk] at h
  | p, N, sc, .Slice a b c d, h => by cases p <;> simp [chk] at h
  | p, N, sc, .SetComp a b c d, h => by cases p <;> simp [chk] at h
  | p, N, sc, .DictComp a b c d f, h => by cases p <;> simp [chk] at h
  | _, _, _, .BoolOp .., _ => rfl
  | _, _, _, .NamedExpr .., _ => rfl
  | _, _, _, .BinOp .., _ => rfl
  | _, _, _, .UnaryOp .., _ => rfl
  | _, _, _, .Lambda .., _ => rfl
  | _, _, _, .IfExp .., _ => rfl
  | _, _, _, .Dict .., _ => rfl
  | _, _, _, .ListComp .., _ => rfl
  | _, _, _, .GeneratorExp .., _ => rfl
  | _, _, _, .Await .., _ => rfl
  | _, _, _, .Yield .., _ => rfl
  | _, _, _, .YieldFrom .., _ => rfl
  | _, _, _, .Compare .., _ => rfl
  | _, _, _, .Call .., _ => rfl
  | _, _, _, .FormattedValue .., _ => rfl
  | _, _, _, .JoinedStr .., _ => rfl
  | _, _, _, .Constant .., _ => rfl
  | _, _, _, .Attribute .., _ => rfl
  | _, _, _, .Subscript .., _ => rfl
  | _, _, _, .Name .., _ => rfl
  | _, _, _, .List .., _ => rfl
  | _, _, _, .Tuple .., _ => rfl
theorem star_of {e : Expr} (h : plainE e = true) (es : List Expr) (env : Env) : starEach (e :: es) env = (false, eval e env) :: starEach es env := by
  cases e <;> first | rfl | exact nomatch h
theorem mark_of {e : Expr} (h : plainE e = true) (op : CmpOp) : behindInMarks op e = false := by
  cases e <;> first | rfl | exact nomatch h
theorem ix_of {e : Expr} (h : plainE e = true) : PlainIx e := by
  intro o i
  cases e <;> first | rfl | exact nomatch h
theorem fold_of {e : Expr} (h : plainE e = true) (env : Env) : ∀ x, foldedSetIterable e env x = pure x := by
  intro x
  cases e <;> first | rfl | exact nomatch h
theorem base_of {e : Expr} (h : baseB e = true) (m : Str) (env : Env) (w : Sem Value) : attributeBase e m env w = w := by
  cases e with
  | Call f l k p =>
    cases l with
    | nil => exact nomatch h
    | cons a l => cases f <;> rfl
  | _ => first | rfl | exact nomatch h
theorem vis_of {sc : Scope} {x : Str} (h : visB sc x = true) : Vis sc x := by
  unfold visB at h
  unfold Vis
  split at h <;> simp_all
theorem loc_of {sc : Scope} {x : Str} (h : locB sc x = true) : L2.Loc sc x := by
  unfold locB at h
  unfold L2.Loc
  split at h <;> simp_all
theorem gl_of {x : Str} (h : glB X.env.scope x = true) : Gl X x := by
  unfold glB at h
  show X.env.scope.names.lookup x = _
  split at h <;> simp_all
theorem dbg_of {x : Str} (h : (!dbgB x) = true) : (x == ("__debug__" : Str)) = false ∧ (x == ("__classdict__" : Str)) = false := by
  simp only [dbgB, Bool.not_eq_true', Bool.or_eq_false_iff] at h
  exact h
def isNew : PX → Bool
  | .lst _ => true
  | .split _ _ => true
  | .lc _ _ _ _ _ => true
  | _ => false
def isLc : Expr → Bool
  | .ListComp _ _ _ _ => true
  | _ => false
/-- the parts of a comprehension -/
def LcOk (X : Cx) (el t i : Expr) (ifs : List Expr) (scope : Scope) (f : Rho → Option PyData) : Prop := ∃ (own : List (Str × Nat)) (wi : TI) (g : TG) (tt : TT) (te : TE), PI X t i wi ∧ BlkOk X.N X.env.scope scope own ∧
  (∀ (s : Shared) (H : Hp) (C : Addr) (cl : List (Str × Addr)) (fp : List Addr), PG (X.blk s H scope (compEnvC scope cl C X.env) fp) t g) ∧
  (∀ (s : Shared) (H : Hp) (C : Addr) (cl : List (Str × Addr)) (fp : List Addr), PTs (X.blk s H scope (compEnvC scope cl C X.env) fp) ifs tt) ∧
  (∀ (s : Shared) (H : Hp) (C : Addr) (cl : List (Str × Addr)) (fp : List Addr), PE (X.blk s H scope (compEnvC scope cl C X.env) fp) el te) ∧
  (∀ x, foldedSetIterable i X.env x = pure x) ∧ (∀ σ H Q, tO X.K f σ H Q → tLc wi g tt te (own.map (·.2)) σ H Q)
/-- the three ways in which an expression is run -/
structure Snd (T : Tab) (n : Nat) (X : Cx) (p : PX) (e : Expr) : Prop where
  f : PE X e (tF X.K (ev T n p))
  b : PE X e (tBm X.K fun ρ => bor p ρ (ev T n p ρ))
  t : PT X e (tT X.K (ev T n p))
  w : isBool e = true → PW X e (tT X.K (ev T n p))
  o : isNew p = true → PE X e (tO X.K (ev T n p))
  l : ∀ el t i ifs scope pos, e = .ListComp el [⟨t, i, ifs, 0⟩] scope pos → LcOk X el t i ifs scope (ev T n p)
/-- one that is no name, no test -/
theorem Snd.of {p : PX} {e : Expr} (hv : ∀ i, p ≠ .var i) (h : PE X e (tF X.K (ev T n p))) (he : ∀ whole, isTrue e X.env whole = (do let v ← whole; standAt e.pos; holding [v] (truthy v))) (hb : isBool e = false) (hn : isNew p = false := by rfl) (hl : isLc e = false := by rfl) (ha : ∀ i k, p ≠ .attr i k := by intro _ _ z; cases z) : Snd T n X p e :=
  ⟨h, bor_F hv h ha, pt_of h he, fun z => (by rw [hb] at z; cases z), fun z => (by rw [hn] at z; cases z), fun el t i ifs scope pos z => (by subst z; cases hl)⟩
theorem mem_bNames {x : Str} (h : (bNames.contains x) = true) : x ∈ bNames := by simpa using h
theorem bltStr_mem : ∀ b : Blt, bltStr b ∈ bNames := by intro b; cases b <;> (unfold bNames bltStr; simp)
theorem tyStr_mem : ∀ b : Ty, tyStr b ∈ bNames := by intro b; cases b <;> (unfold bNames tyStr; simp)
/-- list(range(n)) -/
theorem pf_rngL {a : Expr} {fa : Rho → Option PyData} {p q pos pos2 : Pos} (hc : X.calm = true) (hg : Gl X "list") (hm : X.mg "list" = none) (hg2 : Gl X "range") (hm2 : X.mg "range" = none) (ha : PE X a (tF X.K fa)) (hs : ∀ es, starEach (a :: es) X.env = (false, eval a X.env) :: starEach es X.env) :
    PE X (.Call (.Name "list" p) [.Call (.Name "range" q) [a] [] pos2] [] pos) (tF X.K fun ρ => (fa ρ).bind fun x => (intOf x).bind fun n => if rngOk n then some (.list (rgD n)) else none) := by
  refine PEimp (pe_listRg hc hg hm (prg_1 hg2 hm2 ha (hs _)) rfl) fun σ H Q ⟨Hf, ρ, ds, er, hd, k⟩ => ?_
  obtain ⟨x, h1, hd⟩ := Option.bind_eq_some_iff.mp hd
  obtain ⟨n, h2, hd⟩ := Option.bind_eq_some_iff.mp hd
  obtain ⟨h3, rfl⟩ := ite_some hd
  obtain ⟨b1, b2, b3⟩ := rngOk_some h3
  have := intOf_some h2
  subst this
  refine ⟨Hf, ρ, _, er, h1, fun v H' Hf' e r => ?_⟩
  cases r
  refine ⟨n, rfl, ⟨by omega, by omega, b1, b2, by omega⟩, ?_⟩
  have e2 : rgD n = ((List.range (n - 0).toNat).map fun (i : Nat) => (0 : Int) + (i : Int)).map PyData.int := by
    unfold rgD
    rw [List.map_map, Int.sub_zero]
    exact List.map_congr_left fun i _ => by simp
  have e3 : rgV 0 n = ((List.range (n - 0).toNat).map fun (i : Nat) => (0 : Int) + (i : Int)).map V.int := by
    unfold rgV
    rw [List.map_map]
    rfl
  rw [e3]
  refine (k.ext e).newL e.sub ?_ ?_
  · rw [List.length_map, List.length_map, List.length_range, sizeLine_eq]; omega
  · rw [e2]; exact RpAll.of_ints _
end
end Ev

/-! EvH: the look is sound for expressions. -/
namespace Ev
variable [Memo]
open PySem PySem.Spec PyProof.Rows L2
variable {T : Tab} {n : Nat}
theorem Cok.blk {X : Cx} (C : Cok T n X) (s : Shared) (H : Hp) {scope : Scope} (cl : List (Str × Addr)) (c : Addr) (fp : List Addr) (hk : scope.kind = .function) : Cok T n (X.blk s H scope (compEnvC scope cl c X.env) fp) :=
  ⟨C.nd, C.calm, rfl, hk, C.room, C.blt, C.glb, C.ob, C.fn⟩
theorem pg_of {X : Cx} {N : List Str} {sc : Scope} {own : Str → Bool} (hN : X.N = N) (nd : N.Nodup) (hs : X.env.scope = sc) (ho : ∀ x, own x = true → X.fn x = true) : ∀ {i : Nat} {e : Expr}, tgB N sc own i e = true → PG X e (gName i)
  | i, e, h => by
    unfold tgB at h
    split at h
    · simp only [Bool.and_eq_true, Bool.or_eq_true, decide_eq_true_eq] at h
      obtain ⟨⟨h1, h2⟩, h3⟩ := h
      subst hN hs
      exact pg_name nd h1 (loc_of h2) (h3.imp (ho _) id)
    · cases h
theorem tg_plain {N : List Str} {sc : Scope} {own : Str → Bool} {i : Nat} {e : Expr} (h : tgB N sc own i e = true) : ∃ x p, e = .Name x p := by
  unfold tgB at h
  split at h
  · exact ⟨_, _, rfl⟩
  · cases h
theorem pgs_of {X : Cx} {N : List Str} {sc : Scope} {own : Str → Bool} (hN : X.N = N) (nd : N.Nodup) (hs : X.env.scope = sc) (ho : ∀ x, own x = true → X.fn x = true) : ∀ {is : List Nat} {es : List Expr}, tgBs N sc own is es = true →
    PGs X es (gAll is) ∧ (assignEach es X.env).length = is.length ∧ (assignEach es X.env).findIdx? (·.1) = none
  | [], [], _ => ⟨pgs_nil, rfl, rfl⟩
  | [], _ :: _, h => by simp [tgBs] at h
  | _ :: _, [], h => by simp [tgBs] at h
  | i :: is, e :: es, h => by
    simp only [tgBs, Bool.and_eq_true] at h
    obtain ⟨h1, h2⟩ := h
    obtain ⟨g1, g2, g3⟩ := pgs_of hN nd hs ho h2
    obtain ⟨x, p, rfl⟩ := tg_plain h1
    refine ⟨pgs_cons (pg_of hN nd hs ho h1) g1 rfl, ?_, ?_⟩
    · show (assignEach es X.env).length + 1 = _
      rw [g2]; rfl
    · show List.findIdx? (·.1) ((false, _) :: assignEach es X.env) = none
      rw [List.findIdx?_cons]
      simp [g3]
theorem tg_of {X : Cx} {N : List Str} {sc : Scope} {own : Str → Bool} (hN : X.N = N) (nd : N.Nodup) (hs : X.env.scope = sc) (ho : ∀ x, own x = true → X.fn x = true) (hc : X.calm = true) {tg : Tg} {e : Expr} (h : chkT N sc own tg e = true) : PG X e (tgG X.K tg) := by
  cases tg with
  | nm i => exact pg_of hN nd hs ho h
  | tp is =>
    unfold chkT at h
    split at h
    · rename_i h'; cases h'
    · rename_i h'
      cases h'
      obtain ⟨g1, g2, g3⟩ := pgs_of hN nd hs ho h
      exact pg_tup hc g1 g2 g3
    · cases h
theorem PTsimp {X : Cx} {ifs : List Expr} {t t' : TT} (h : PTs X ifs t) (i : ∀ σ H Q, t' σ H Q → t σ H Q) : PTs X ifs t' := ⟨fun pins s σ H Q I q => h.run pins s σ H Q I (i _ _ _ q)⟩

theorem chkI_plain : ∀ (it : PIt) {N : List Str} {sc : Scope} {t e : Expr}, chkI T N it sc t e = true → plainE e = true
  | .seq a, N, sc, t, e, h => by unfold chkI at h; exact chk_plain a h
  | .rng1 a, N, sc, t, e, h => by
    unfold chkI at h
    split at h
    · rfl
    · cases h
  | .rng2 a b, N, sc, t, e, h => by
    unfold chkI at h
    split at h
    · rfl
    · cases h
  | .enum a, N, sc, t, e, h => by
    unfold chkI at h
    split at h
    · rfl
    · cases h
  | .zip a b, N, sc, t, e, h => by
    unfold chkI at h
    split at h
    · rfl
    · cases h
theorem pd_of {X : Cx} {pos : Pos} {keys : List (Option Expr)} {values : List Expr} {trs : List (TE × TE)} {ks : List Str} {fs : Rho → Option (List PyData)} (h : PPs X pos keys values trs) (ok : PrOk X.K trs ks fs) (h1 : dkB ks keys = true) (h2 : dkOk ks = true) (h3 : keys.length = values.length) : PE X (.Dict keys values pos) (tDc X.K ks fs) := by
  simp only [dkOk, Bool.and_eq_true, decide_eq_true_eq] at h2
  obtain ⟨⟨h4, h5⟩, h6⟩ := h2
  obtain ⟨g1, g2⟩ := dkB_len h1
  refine pd_disp h ok h4 g2 h3 (fun e => ?_) (by omega) h6
  subst e
  have : ks = [] := List.eq_nil_of_length_eq_zero g1.symm
  subst this
  cases h5
theorem Cok.dr {X : Cx} (C : Cok T n X) (d : Memo.dOk) : DRules X := C.ob.dr d X rfl rfl rfl (by have := C.room.un; show X.A.units + 1 + 8 < _; omega)
/-- an item of a table -/
theorem pf_pickO {X : Cx} {e r : Expr} {i : Nat} {fk : Rho → Option PyData} {pos : Pos} (D : DRules X) (hv : PE X e (tVar i)) (hk : PE X r (tF X.K fk)) (hs : PlainIx r) : PE X (.Subscript e r pos) (tF X.K fun ρ => (fk ρ).bind (tabD (obV i ρ))) := by
  refine PEimp (pe_ix D.get (pob_var hv) hk hs) fun σ H Q ⟨Hf, ρ, d, er, hd, kF⟩ => ?_
  obtain ⟨y, h1, hd⟩ := Option.bind_eq_some_iff.mp hd
  cases q : obV i ρ with
  | none => rw [q] at hd; cases hd
  | some t =>
    cases t with
    | dict kvs =>
      rw [q] at hd
      exact ⟨Hf, ρ, _, er, q, fun v H1 Hf1 e1 r1 => ⟨Hf1, ρ, y, er.ext e1, h1, fun w H2 Hf2 e2 r2 => ⟨Hf2, kvs, y, d, e2.sub, Memo.ob_mono e2.fr r1, r2, hd, (kF.ext e1).ext e2⟩⟩⟩
    | _ => rw [q] at hd; cases hd
theorem all_star (pos : Pos) (env : Env) : ∀ l : List Expr, l.all plainE = true → (backTo pos (starEach l env)).any (·.1) = false ∧ (backTo pos (starEach l env)).all (fun x => !x.1) = true
  | [], _ => ⟨rfl, rfl⟩
  | e :: l, h => by
    rw [List.all_cons, Bool.and_eq_true] at h
    obtain ⟨h1, h2⟩ := all_star pos env l h.2
    rw [star_of h.1]
    refine ⟨?_, ?_⟩
    · show (false || (backTo pos (starEach l env)).any (·.1)) = false
      rw [h1]; rfl
    · show (!false && (backTo pos (starEach l env)).all (fun x => !x.1)) = true
      rw [h2]; rfl
theorem chks_plain : ∀ (ps : PXs) {N : List Str} {sc : Scope} {es : List Expr}, chks T N ps sc es = true → es.all plainE = true
  | .nil, N, sc, es, h => by
    unfold chks at h
    split at h
    · rfl
    · cases h
  | .cons p ps, N, sc, es, h => by
    unfold chks at h
    split at h
    · simp only [Bool.and_eq_true] at h
      rw [List.all_cons, chk_plain p h.1, chks_plain ps h.2]; rfl
    · cases h
theorem chkAs_nil {N : List Str} {sc : Scope} (p : PX) (ps : PXs) : chkAs T N (.cons p ps) sc [] = false := by
  cases p <;> simp [chkAs]
theorem chkAs_tail {N : List Str} {sc : Scope} {e : Expr} {es : List Expr} (p : PX) (ps : PXs) (hp : isOb p = false) (h : chkAs T N (.cons p ps) sc (e :: es) = true) : chk T N p sc e = true ∧ chkAs T N ps sc es = true := by
  cases p <;> first | (cases hp; done) | (unfold chkAs at h; rw [Bool.and_eq_true] at h; exact h) | (simp only [chkAs, Bool.and_eq_true] at h; exact h)
theorem chkAs_head {N : List Str} {sc : Scope} {e : Expr} {es : List Expr} (p : PX) (ps : PXs) (hp : isOb p = true) (h : chkAs T N (.cons p ps) sc (e :: es) = true) : chkAs T N (.cons p .nil) sc [e] = true ∧ chkAs T N ps sc es = true ∧ plainE e = true ∧ ∀ m env w, attributeBase e m env w = w := by
  have e0 : chkAs T N .nil sc [] = true := by unfold chkAs; rfl
  cases p with
  | obj i =>
    unfold chkAs at h
    split at h
    · rename_i x xp es' q
      cases q
      rw [Bool.and_eq_true] at h
      refine ⟨?_, h.2, rfl, fun _ _ _ => rfl⟩
      unfold chkAs
      dsimp only
      rw [e0, Bool.and_true]
      exact h.1
    · cases h
  | fnv f =>
    unfold chkAs at h
    split at h
    · rename_i x xp es' F q hF
      cases q
      rw [Bool.and_eq_true] at h
      refine ⟨?_, h.2, rfl, fun _ _ _ => rfl⟩
      unfold chkAs
      rw [hF]
      dsimp only
      rw [e0, Bool.and_true]
      exact h.1
    · cases h
  | new c j =>
    unfold chkAs at h
    split at h
    · rename_i x xp l pos es' nm q hF
      cases q
      rw [Bool.and_eq_true] at h
      refine ⟨?_, h.2, rfl, fun _ _ _ => rfl⟩
      unfold chkAs
      rw [hF]
      dsimp only
      rw [e0, Bool.and_true]
      exact h.1
    · cases h
  | bld c j =>
    unfold chkAs at h
    split at h
    · rename_i x xp a l pos es' nm q hF
      cases q
      rw [Bool.and_eq_true] at h
      refine ⟨?_, h.2, rfl, fun _ _ _ => rfl⟩
      unfold chkAs
      rw [hF]
      dsimp only
      rw [e0, Bool.and_true]
      exact h.1
    · cases h
  | obJ i =>
    unfold chkAs at h
    split at h
    · rename_i x xp m mp es' q
      cases q
      rw [Bool.and_eq_true] at h
      refine ⟨?_, h.2, rfl, fun _ _ _ => rfl⟩
      unfold chkAs
      dsimp only
      rw [e0, Bool.and_true]
      exact h.1
    · cases h
  | _ => cases hp
theorem chkAs_plain : ∀ (ps : PXs) {N : List Str} {sc : Scope} {es : List Expr}, chkAs T N ps sc es = true → es.all plainE = true
  | .nil, N, sc, es, h => by
    unfold chkAs at h
    split at h
    · rfl
    · cases h
  | .cons p ps, N, sc, es, h => by
    cases es with
    | nil => rfl
    | cons e es =>
      cases hp : isOb p with
      | true =>
        obtain ⟨_, h1, h2, _⟩ := chkAs_head p ps hp h
        rw [List.all_cons, h2, chkAs_plain ps h1]; rfl
      | false =>
        obtain ⟨h1, h2⟩ := chkAs_tail p ps hp h
        rw [List.all_cons, chk_plain p h1, chkAs_plain ps h2]; rfl
mutual
theorem sndE : ∀ (p : PX) (X : Cx) (e : Expr), Cok T n X → chk T X.N p X.env.scope e = true → Snd T n X p e
  | .var i, X, e, C, h => by
    unfold chk at h
    split at h
    · rename_i x pos
      simp only [Bool.and_eq_true, decide_eq_true_eq] at h
      obtain ⟨⟨h1, h2⟩, h3⟩ := h
      have hv := pe_var (X := X) (pos := pos) h1 (vis_of h2) (dbg_of h3).1 (dbg_of h3).2
      have ee : ev T n (.var i) = getV i := by funext ρ; rw [ev, evE]
      refine ⟨by rw [ee]; exact pf_var hv, by rw [ee]; exact bor_var hv, by rw [ee]; exact pt_of (pf_var hv) fun _ => rfl, (fun z => nomatch z), (fun z => nomatch z), fun _ _ _ _ _ _ z => nomatch z⟩
    · cases h
  | .lit d, X, e, C, h => by
    have ee : ev T n (.lit d) = fun _ => some d := by funext ρ; rw [ev, evE]
    unfold chk at h
    split at h
    · have := of_decide_eq_true h; subst this
      exact Snd.of (fun _ => PX.noConfusion) (by rw [ee]; exact pf_const pe_int fun _ => .int _) (fun _ => rfl) rfl
    · simp only [Bool.and_eq_true, decide_eq_true_eq] at h
      obtain ⟨⟨rfl, h2⟩, h3⟩ := h
      exact Snd.of (fun _ => PX.noConfusion) (by rw [ee]; exact pf_const pe_str fun _ => .str _ (Nat.le_of_lt (small1000 h2)) h3) (fun _ => rfl) rfl
    · have := of_decide_eq_true h; subst this
      exact Snd.of (fun _ => PX.noConfusion) (by rw [ee]; exact pf_const pe_bl fun _ => .bl _) (fun _ => rfl) rfl
    · exact Snd.of (fun _ => PX.noConfusion) (by rw [ee]; exact pf_const pe_non fun _ => .non) (fun _ => rfl) rfl
    · cases h
  | .glb g, X, e, C, h => by
    unfold chk at h
    split at h
    · rename_i x pos y d hg
      simp only [Bool.and_eq_true, decide_eq_true_eq, Bool.not_eq_true'] at h
      obtain ⟨⟨⟨rfl, h2⟩, h3⟩, h7⟩ := h
      have h3 : (!dbgB x) = true := by rw [h3]; rfl
      obtain ⟨u, v, h4, h5, h6⟩ := C.glb g x d hg
      have h6 : ∀ H, Rp X.K H v d := by
        rcases h6 with h6 | ⟨kvs, rfl, _⟩
        · exact h6
        · cases h7
      have ee : ev T n (.glb g) = fun _ => some d := by
        funext ρ; rw [ev, evE, Tab.G, hg]
        cases d <;> first | rfl | cases h7
      exact Snd.of (fun _ => PX.noConfusion) (by rw [ee]; exact pf_const (pe_glob (gl_of h2) h4 h5 (dbg_of h3).1) h6) (fun _ => rfl) rfl
    · cases h
  | .bin op a b, X, e, C, h => by
    have ee : ev T n (.bin op a b) = fun ρ => (ev T n a ρ).bind fun x => (ev T n b ρ).bind fun y => bop op x y := by funext ρ; rw [ev, evE]
    unfold chk at h
    split at h
    · simp only [Bool.and_eq_true, decide_eq_true_eq] at h
      obtain ⟨⟨rfl, h2⟩, h3⟩ := h
      exact Snd.of (fun _ => PX.noConfusion) (by rw [ee]; exact pf_bin (sndE a X _ C h2).f (sndE b X _ C h3).f) (fun _ => rfl) rfl
    · cases h
  | .neg a, X, e, C, h => by
    have ee : ev T n (.neg a) = fun ρ => (ev T n a ρ).bind fun x => (intOf x).map fun i => .int (-i) := by funext ρ; rw [ev, evE]
    unfold chk at h
    split at h
    · exact Snd.of (fun _ => PX.noConfusion) (by rw [ee]; exact pf_neg (sndE a X _ C h).f) (fun _ => rfl) rfl
    · cases h
  | .not a, X, e, C, h => by
    have ee : ev T n (.not a) = fun ρ => (boolOf (ev T n a ρ)).map fun b => .bool (!b) := by funext ρ; rw [ev, evE]
    unfold chk at h
    split at h
    · have S := sndE a X _ C h
      exact ⟨by rw [ee]; exact pf_not S.f, bor_F (fun _ => PX.noConfusion) (by rw [ee]; exact pf_not S.f), by rw [ee]; exact ptt_not S.t, (fun z => nomatch z), (fun z => nomatch z), fun _ _ _ _ _ _ z => nomatch z⟩
    · cases h
  | .and a b, X, e, C, h => by
    have ee : ev T n (.and a b) = fAnd (ev T n a) (ev T n b) := by funext ρ; rw [ev, evE]
    unfold chk at h
    split at h
    · rename_i x y pos
      simp only [Bool.and_eq_true] at h
      have S1 := sndE a X _ C h.1
      have S2 := sndE b X _ C h.2
      have hF : PE X (.BoolOp .And [x, y] pos) (tF X.K (ev T n (.and a b))) := by rw [ee]; exact pf_and S1.f (pe_one S2.f)
      have hW : PW X (.BoolOp .And [x, y] pos) (tT X.K (ev T n (.and a b))) := by rw [ee]; exact pw_andF S1.t (pw_and1 S2.t)
      exact ⟨hF, bor_F (fun _ => PX.noConfusion) hF, hW.pt, fun _ => hW, (fun z => nomatch z), fun _ _ _ _ _ _ z => nomatch z⟩
    · rename_i x y z r pos
      simp only [Bool.and_eq_true] at h
      have S1 := sndE a X _ C h.1
      have S2 := sndE b X _ C h.2
      have hF : PE X (.BoolOp .And (x :: y :: z :: r) pos) (tF X.K (ev T n (.and a b))) := by rw [ee]; exact pf_and S1.f S2.f
      have hW : PW X (.BoolOp .And (x :: y :: z :: r) pos) (tT X.K (ev T n (.and a b))) := by rw [ee]; exact pw_andF S1.t (S2.w rfl)
      exact ⟨hF, bor_F (fun _ => PX.noConfusion) hF, hW.pt, fun _ => hW, (fun z => nomatch z), fun _ _ _ _ _ _ z => nomatch z⟩
    · cases h
  | .or a b, X, e, C, h => by
    have ee : ev T n (.or a b) = fOr (ev T n a) (ev T n b) := by funext ρ; rw [ev, evE]
    unfold chk at h
    split at h
    · rename_i x y pos
      simp only [Bool.and_eq_true] at h
      have S1 := sndE a X _ C h.1
      have S2 := sndE b X _ C h.2
      have hF : PE X (.BoolOp .Or [x, y] pos) (tF X.K (ev T n (.or a b))) := by rw [ee]; exact pf_or S1.f (pe_one S2.f)
      have hW : PW X (.BoolOp .Or [x, y] pos) (tT X.K (ev T n (.or a b))) := by rw [ee]; exact pw_orF S1.t (pw_or1 S2.t)
      exact ⟨hF, bor_F (fun _ => PX.noConfusion) hF, hW.pt, fun _ => hW, (fun z => nomatch z), fun _ _ _ _ _ _ z => nomatch z⟩
    · rename_i x y z r pos
      simp only [Bool.and_eq_true] at h
      have S1 := sndE a X _ C h.1
      have S2 := sndE b X _ C h.2
      have hF : PE X (.BoolOp .Or (x :: y :: z :: r) pos) (tF X.K (ev T n (.or a b))) := by rw [ee]; exact pf_or S1.f S2.f
      have hW : PW X (.BoolOp .Or (x :: y :: z :: r) pos) (tT X.K (ev T n (.or a b))) := by rw [ee]; exact pw_orF S1.t (S2.w rfl)
      exact ⟨hF, bor_F (fun _ => PX.noConfusion) hF, hW.pt, fun _ => hW, (fun z => nomatch z), fun _ _ _ _ _ _ z => nomatch z⟩
    · cases h
  | .cmp op a b, X, e, C, h => by
    have ee : ev T n (.cmp op a b) = fCmp op (fun ρ => bor a ρ (ev T n a ρ)) (fun ρ => bor b ρ (ev T n b ρ)) := by funext ρ; rw [ev, evE]
    have hu : X.A.units + 65 < cLine := by have := C.room.un; omega
    unfold chk at h
    split at h
    · rename_i l o r pos
      simp only [Bool.and_eq_true, decide_eq_true_eq] at h
      obtain ⟨⟨rfl, h2⟩, h3⟩ := h
      have S1 := sndE a X _ C h2
      have S2 := sndE b X _ C h3
      have hF : PE X (.Compare l [copOp op] [r] pos) (tF X.K (ev T n (.cmp op a b))) := by rw [ee]; exact pf_cmp hu S1.b S2.b (mark_of (chk_plain b h3) _)
      exact ⟨hF, bor_F (fun _ => PX.noConfusion) hF, by rw [ee]; exact ptt_cmp hu S1.b S2.b (mark_of (chk_plain b h3) _), (fun z => nomatch z), (fun z => nomatch z), fun _ _ _ _ _ _ z => nomatch z⟩
    · cases h
  | .isN ng a, X, e, C, h => by
    have ee : ev T n (.isN ng a) = fIsN ng (fun ρ => bor a ρ (ev T n a ρ)) := by funext ρ; rw [ev, evE]
    unfold chk at h
    split at h
    · rename_i l o j pos' pos
      simp only [Bool.and_eq_true, decide_eq_true_eq] at h
      obtain ⟨rfl, h2⟩ := h
      have S1 := sndE a X _ C h2
      have hF : PE X (.Compare l [if ng then .IsNot else .Is] [.Constant .none j pos'] pos) (tF X.K (ev T n (.isN ng a))) := by rw [ee]; exact pf_isN S1.b
      exact ⟨hF, bor_F (fun _ => PX.noConfusion) hF, by rw [ee]; exact ptt_isN S1.b, (fun z => nomatch z), (fun z => nomatch z), fun _ _ _ _ _ _ z => nomatch z⟩
    · cases h
  | .isTr ng a, X, e, C, h => by
    have ee : ev T n (.isTr ng a) = fIsTr ng (ev T n a) := by funext ρ; rw [ev, evE]
    unfold chk at h
    split at h
    · rename_i l o j pos' pos
      simp only [Bool.and_eq_true, decide_eq_true_eq] at h
      obtain ⟨rfl, h2⟩ := h
      have S1 := sndE a X _ C h2
      have hF : PE X (.Compare l [if ng then .IsNot else .Is] [.Constant (.bool true) j pos'] pos) (tF X.K (ev T n (.isTr ng a))) := by rw [ee]; exact pf_isTr S1.f
      exact ⟨hF, bor_F (fun _ => PX.noConfusion) hF, by rw [ee]; exact ptt_isTr S1.f, (fun z => nomatch z), (fun z => nomatch z), fun _ _ _ _ _ _ z => nomatch z⟩
    · cases h
  | .chain o1 o2 a b c, X, e, C, h => by
    have ee : ev T n (.chain o1 o2 a b c) = fChain o1 o2 (ev T n a) (ev T n b) (ev T n c) := by funext ρ; rw [ev, evE]
    have hu : X.A.units + 65 < cLine := by have := C.room.un; omega
    unfold chk at h
    split at h
    · rename_i l p1 p2 m r pos
      simp only [Bool.and_eq_true, decide_eq_true_eq] at h
      obtain ⟨⟨⟨⟨rfl, rfl⟩, h3⟩, h4⟩, h5⟩ := h
      have S1 := sndE a X _ C h3
      have S2 := sndE b X _ C h4
      have S3 := sndE c X _ C h5
      have m1 := mark_of (chk_plain b h4) (copOp o1)
      have m2 := mark_of (chk_plain c h5) (copOp o2)
      have hF : PE X (.Compare l [copOp o1, copOp o2] [m, r] pos) (tF X.K (ev T n (.chain o1 o2 a b c))) := by rw [ee]; exact PEimp (pe_chain (cop_ok hu o1) (cop_ok hu o2) S1.f S2.f S3.f (by simp [lastMarks, m1, m2])) fun σ H Q q => chain_in q
      have hT : PT X (.Compare l [copOp o1, copOp o2] [m, r] pos) (tT X.K (ev T n (.chain o1 o2 a b c))) := by
        rw [ee]
        refine PTimp (pt_chain (cop_ok hu o1) (cop_ok hu o2) S1.f S2.f S3.f (by simp [lastMarks, m1, m2])) fun σ H Q ⟨Hf, ρ, d, er, hd, k⟩ => ?_
        refine chain_in ⟨Hf, ρ, _, er, boolOf_some hd, fun v H' Hf' e r => ?_⟩
        cases r
        exact ⟨d, rfl, k H' Hf' e⟩
      exact ⟨hF, bor_F (fun _ => PX.noConfusion) hF, hT, (fun z => nomatch z), (fun z => nomatch z), fun _ _ _ _ _ _ z => nomatch z⟩
    · cases h
  | .ife c a b, X, e, C, h => by
    have ee : ev T n (.ife c a b) = fun ρ => (boolOf (ev T n c ρ)).bind fun x => if x then ev T n a ρ else ev T n b ρ := by funext ρ; rw [ev, evE]
    unfold chk at h
    split at h
    · rename_i tt ll rr pos
      simp only [Bool.and_eq_true] at h
      have Sa := sndE a X _ C h.1.2
      have Sb := sndE b X _ C h.2
      have Sc := sndE c X _ C h.1.1
      have hF : PE X (.IfExp tt ll rr pos) (tF X.K (ev T n (.ife c a b))) := by rw [ee]; exact pf_ife Sc.t Sa.f Sb.f
      exact ⟨hF, bor_F (fun _ => PX.noConfusion) hF, by rw [ee]; exact ptt_ife Sc.t Sa.t Sb.t, (fun z => nomatch z), (fun z => nomatch z), fun _ _ _ _ _ _ z => nomatch z⟩
    · cases h
  | .tup es, X, e, C, h => by
    have ee : ev T n (.tup es) = fun ρ => (evEs T.G (T.run n) es ρ).bind fun ds => if ds.length ≤ 1000 then some (.tuple ds) else none := by funext ρ; rw [ev, evE]
    unfold chk at h
    split at h
    · exact Snd.of (fun _ => PX.noConfusion) (by rw [ee]; exact pf_tup (sndEs es X _ C h)) (fun _ => rfl) rfl
    · cases h
  | .lst es, X, e, C, h => by
    have ee : ev T n (.lst es) = fun ρ => (evEs T.G (T.run n) es ρ).bind fun ds => if ds.length ≤ 1000 then some (.list ds) else none := by funext ρ; rw [ev, evE]
    unfold chk at h
    split at h
    · rename_i l pos
      have hO : PE X (.List l pos) (tO X.K (ev T n (.lst es))) := by rw [ee]; exact po_lst (sndEs es X _ C h)
      have hF : PE X (.List l pos) (tF X.K (ev T n (.lst es))) := PEimp hO fun σ H Q q => by
        refine tO_F (fun ρ d hd => ?_) q
        rw [ee] at hd
        obtain ⟨ds, h1, hd⟩ := Option.bind_eq_some_iff.mp hd
        by_cases c : ds.length ≤ 1000
        · rw [if_pos c] at hd; cases hd; exact ⟨ds, rfl⟩
        · rw [if_neg c] at hd; cases hd
      exact ⟨hF, bor_F (fun _ => PX.noConfusion) hF, pt_of hF fun _ => rfl, (fun z => nomatch z), (fun _ => hO), fun _ _ _ _ _ _ z => nomatch z⟩
    · cases h
  | .ix a i, X, e, C, h => by
    have ee : ev T n (.ix a i) = fun ρ => (bor a ρ (ev T n a ρ)).bind fun x => (ev T n i ρ).bind fun y => ixD x y := by funext ρ; rw [ev, evE]
    unfold chk at h
    split at h
    · simp only [Bool.and_eq_true] at h
      exact Snd.of (fun _ => PX.noConfusion) (by rw [ee]; exact pf_ix (sndE a X _ C h.1).b (sndE i X _ C h.2).f (ix_of (chk_plain i h.2))) (fun _ => rfl) rfl
    · cases h
  | .slc a lo hi, X, e, C, h => by
    have ee : ev T n (.slc a lo hi) = fun ρ => (bor a ρ (ev T n a ρ)).bind fun x => (slP lo (ev T n lo ρ)).bind fun l => (slP hi (ev T n hi ρ)).bind fun h => slD x l h := by funext ρ; rw [ev, evE]
    have part : ∀ (q : PX) (x : Expr), chk T X.N q X.env.scope x = true → (fun ρ => slP q (ev T n q ρ)) = fun ρ => (ev T n q ρ).bind fun l => (intOf l).map some := by
      intro q x hq
      funext ρ
      cases q <;> first | rfl | (unfold chk at hq; cases hq)
    have om : ∀ (q : PX), (match q with | .omit => true | _ => false) = true → (fun ρ => slP q (ev T n q ρ)) = fun _ => some none := by
      intro q hq
      funext ρ
      cases q <;> first | rfl | cases hq
    have fin : ∀ {l : Expr} {x y : Option Expr} {p2 pos : Pos}, chk T X.N a X.env.scope l = true → PO X x (tPO X.K fun ρ => slP lo (ev T n lo ρ)) → PO X y (tPO X.K fun ρ => slP hi (ev T n hi ρ)) → Snd T n X (.slc a lo hi) (.Subscript l (.Slice x y none p2) pos) :=
      fun h1 h2 h3 => Snd.of (fun _ => PX.noConfusion) (by rw [ee]; exact pf_slc (sndE a X _ C h1).b h2 h3) (fun _ => rfl) rfl
    unfold chk at h
    split at h
    · simp only [Bool.and_eq_true] at h
      obtain ⟨⟨h1, h2⟩, h3⟩ := h
      exact fin h1 (by rw [om _ h2]; exact po_noneF) (by rw [om _ h3]; exact po_noneF)
    · simp only [Bool.and_eq_true] at h
      obtain ⟨⟨h1, h2⟩, h3⟩ := h
      exact fin h1 (by rw [part _ _ h2]; exact po_someF (sndE lo X _ C h2).f) (by rw [om _ h3]; exact po_noneF)
    · simp only [Bool.and_eq_true] at h
      obtain ⟨⟨h1, h2⟩, h3⟩ := h
      exact fin h1 (by rw [om _ h2]; exact po_noneF) (by rw [part _ _ h3]; exact po_someF (sndE hi X _ C h3).f)
    · simp only [Bool.and_eq_true] at h
      obtain ⟨⟨h1, h2⟩, h3⟩ := h
      exact fin h1 (by rw [part _ _ h2]; exact po_someF (sndE lo X _ C h2).f) (by rw [part _ _ h3]; exact po_someF (sndE hi X _ C h3).f)
    · cases h
  | .omit, X, e, C, h => by unfold chk at h; cases h
  | .rev a, X, e, C, h => by
    have ee : ev T n (.rev a) = fun ρ => (bor a ρ (ev T n a ρ)).bind revD := by funext ρ; rw [ev, evE]
    unfold chk at h
    split at h
    · simp only [Bool.and_eq_true, decide_eq_true_eq] at h
      obtain ⟨rfl, h2⟩ := h
      exact Snd.of (fun _ => PX.noConfusion) (by rw [ee]; exact pf_revA (sndE a X _ C h2).b) (fun _ => rfl) rfl
    · cases h
  | .call f es, X, e, C, h => by
    have ee : ev T n (.call f es) = fun ρ => (evEs T.G (T.run n) es ρ).bind (T.run n f) := by funext ρ; rw [ev, evE]
    unfold chk at h
    split at h
    · rename_i x p a l pos F hF
      simp only [Bool.and_eq_true, decide_eq_true_eq] at h
      obtain ⟨⟨⟨⟨⟨⟨⟨rfl, h2⟩, h3⟩, h5⟩, h6⟩, h7⟩, h8⟩, h4⟩ := h
      obtain ⟨fa, fd, k1, k2, k3, k4⟩ := C.fn f F hF (by simpa using h5) h6 (by simpa using h7) h8
      have A := sndEs es X _ C h4
      have pl : plainE a = true := by
        cases es with
        | nil => simp [chks] at h4
        | cons q qs => unfold chks at h4; simp only [Bool.and_eq_true] at h4; exact chk_plain q h4.1
      have pls : ∀ (ps : PXs) (l : List Expr), chks T X.N ps X.env.scope l = true → (backTo pos (starEach l X.env)).any (·.1) = false := by
        intro ps
        induction ps using PXs.rec (motive_1 := fun _ => True) (motive_3 := fun _ => True) with
        | nil => intro l hl; unfold chks at hl; split at hl; · rfl
                 · cases hl
        | cons q qs _ ih =>
          intro l hl
          unfold chks at hl
          split at hl
          · rename_i e' es'
            simp only [Bool.and_eq_true] at hl
            rw [star_of (chk_plain q hl.1)]
            show (false || (backTo pos (starEach es' X.env)).any (·.1)) = false
            rw [ih _ hl.2]; rfl
          · cases hl
        | _ => trivial
      have pl2 : (backTo pos (starEach l X.env)).any (·.1) = false := by
        cases es with
        | nil => simp [chks] at h4
        | cons q qs => unfold chks at h4; simp only [Bool.and_eq_true] at h4; exact pls qs l h4.2
      exact Snd.of (fun _ => PX.noConfusion) (by rw [ee]; exact PEimp (pe_call k4 C.room (gl_of h2) k1 k2 k3 .nil pass0 A (dbg_of h3).1 (star_of pl _ _) pl2) fun σ H Q q => call_in q) (fun _ => rfl) rfl
    · cases h
  | .blt b a, X, e, C, h => by
    have ee : ev T n (.blt b a) = fun ρ => (bor a ρ (ev T n a ρ)).bind fun x => blt b x := by funext ρ; rw [ev, evE]
    unfold chk at h
    split at h
    · rename_i x p l pos
      simp only [Bool.and_eq_true, decide_eq_true_eq] at h
      obtain ⟨⟨rfl, h2⟩, h3⟩ := h
      have S := sndE a X _ C h3
      have st := fun es => star_of (chk_plain a h3) es X.env
      have hm := C.blt _ (bltStr_mem b)
      have A := pa_one S.b (st [])
      refine Snd.of (fun _ => PX.noConfusion) ?_ (fun _ => rfl) rfl
      rw [ee]
      cases b with
      | len => exact PEimp (pe_callB blt_len (gl_of h2) hm PySem.boot_len A (by decide) (by decide) (st []) rfl) fun σ H Q q => blt_in q
      | int => exact PEimp (pe_callTy blt_int (gl_of h2) hm PyProof.Rows.boot_int A (by decide) (by decide) (st []) rfl) fun σ H Q q => blt_in q
      | tuple => exact PEimp (pe_callTy blt_tuple (gl_of h2) hm PyProof.Rows.boot_tuple A (by decide) (by decide) (st []) rfl) fun σ H Q q => blt_in q
      | list => exact PEimp (pe_callTy blt_list (gl_of h2) hm PyProof.Rows.boot_list A (by decide) (by decide) (st []) rfl) fun σ H Q q => blt_in q
      | all => exact PEimp (pe_callB (blt_all C.calm) (gl_of h2) hm PyProof.Rows.boot_all A (by decide) (by decide) (st []) rfl) fun σ H Q q => blt_in q
      | any => exact PEimp (pe_callB (blt_any C.calm) (gl_of h2) hm PyProof.Rows.boot_any A (by decide) (by decide) (st []) rfl) fun σ H Q q => blt_in q
      | sorted => exact PEimp (pe_callB (blt_sorted (by have := C.room.un; omega)) (gl_of h2) hm PyProof.Rows.boot_sorted A (by decide) (by decide) (st []) rfl) fun σ H Q q => blt_in q
      | str => exact PEimp (pe_callTy blt_str (gl_of h2) hm PyProof.Rows.boot_str A (by decide) (by decide) (st []) rfl) fun σ H Q q => blt_in q
    · cases h
  | .isI a t, X, e, C, h => by
    have ee : ev T n (.isI a t) = fun ρ => (bor a ρ (ev T n a ρ)).map fun x => .bool (isTy t x) := by funext ρ; rw [ev, evE]
    unfold chk at h
    split at h
    · simp only [Bool.and_eq_true, decide_eq_true_eq] at h
      obtain ⟨⟨⟨⟨rfl, rfl⟩, h3⟩, h4⟩, h5⟩ := h
      have hm := C.blt "isinstance" (by unfold bNames; simp)
      exact Snd.of (fun _ => PX.noConfusion) (by rw [ee]; exact pf_isI (gl_of h3) hm (gl_of h4) (C.blt _ (tyStr_mem t)) (sndE a X _ C h5).b (fun es => star_of (chk_plain a h5) es _)) (fun _ => rfl) rfl
    · cases h
  | .join o a, X, e, C, h => by
    have ee : ev T n (.join o a) = fun ρ => (ev T n o ρ).bind fun x => (bor a ρ (ev T n a ρ)).bind fun y => joinD x y := by
      funext ρ; rw [ev, evE]
    have hu : X.A.units + 65 < cLine := by have := C.room.un; omega
    unfold chk at h
    split at h
    · rename_i l m apos r pos
      simp only [Bool.and_eq_true, decide_eq_true_eq] at h
      obtain ⟨⟨⟨⟨rfl, h2⟩, h3⟩, h4⟩, h5⟩ := h
      have st := fun es => star_of (chk_plain a h5) es X.env
      refine Snd.of (fun _ => PX.noConfusion) ?_ (fun _ => rfl) rfl
      rw [ee]
      refine PEimp (pe_bm PySem.F.plainAttrs_str PySem.F.slot_str_join PySem.F.type_str_join joinD_ok (sndE o X _ C h4).f (pa_cons (sndE a X _ C h5).b pa_nil (st [])) (base_of h2 _ _ _) (by rw [st]; rfl) h3 (st []) rfl) fun σ H Q ⟨Hf, ρ, d, er, hd, k⟩ => ?_
      obtain ⟨x, h6, hd⟩ := Option.bind_eq_some_iff.mp hd
      obtain ⟨y, h7, hd⟩ := Option.bind_eq_some_iff.mp hd
      refine ⟨Hf, ρ, x, er, h6, fun v H1 Hf1 e1 r1 => ⟨?_, Hf1, ρ, y, er.ext e1, h7, fun w H2 Hf2 e2 r2 => ⟨w, Hf2, x, y, d, rfl, e2.sub, .inl (r1.mono e2.fr _ _), r2, hd, (k.ext e1).ext e2⟩⟩⟩
      cases x with
      | str s =>
        cases r1
        rfl
      | _ => exact nomatch hd
    · cases h
  | .split o a, X, e, C, h => by
    have ee : ev T n (.split o a) = fun ρ => (ev T n o ρ).bind fun x => (ev T n a ρ).bind fun y => splitD x y := by
      funext ρ; rw [ev, evE]
    unfold chk at h
    split at h
    · rename_i l m apos r pos
      simp only [Bool.and_eq_true, decide_eq_true_eq] at h
      obtain ⟨⟨⟨⟨rfl, h2⟩, h3⟩, h4⟩, h5⟩ := h
      have st := fun es => star_of (chk_plain a h5) es X.env
      have hO : PE X (.Call (.Attribute l "split" apos) [r] [] pos) (tO X.K (ev T n (.split o a))) := by
        rw [ee]
        refine PEimp (pe_bm PySem.F.plainAttrs_str PySem.F.slot_str_split PySem.F.type_str_split splitO_ok (sndE o X _ C h4).f (pa_cons (sndE a X _ C h5).f pa_nil (st [])) (base_of h2 _ _ _) (by rw [st]; rfl) h3 (st []) rfl) fun σ H Q ⟨Hf, ρ, ds, er, hd, k⟩ => ?_
        obtain ⟨x, h6, hd⟩ := Option.bind_eq_some_iff.mp hd
        obtain ⟨y, h7, hd⟩ := Option.bind_eq_some_iff.mp hd
        obtain ⟨sx, sy, rfl, rfl, _⟩ := splitD_some hd
        refine ⟨Hf, ρ, _, er, h6, fun v H1 Hf1 e1 r1 => ⟨?_, Hf1, ρ, _, er.ext e1, h7, fun w H2 Hf2 e2 r2 => ⟨w, Hf2, _, _, ds, rfl, e2.sub, r1.mono e2.fr _ _, r2, hd, fun p vs hp z rr => ?_⟩⟩⟩
        · cases r1
          rfl
        · have e12 := e1.trans e2
          exact k p vs _ Hf2 (e12.trans (Ext.allocO e2.sub hp _)) (e12.free hp) upd_same (sub_none e2.sub hp) z rr
      have hl : ∀ ρ d, ev T n (.split o a) ρ = some d → ∃ ds, d = .list ds := by
        intro ρ d hd
        rw [ee] at hd
        obtain ⟨x, h6, hd⟩ := Option.bind_eq_some_iff.mp hd
        obtain ⟨y, h7, hd⟩ := Option.bind_eq_some_iff.mp hd
        obtain ⟨sx, sy, rfl, rfl, _, _, e⟩ := splitD_some hd
        exact ⟨_, e⟩
      have hF : PE X (.Call (.Attribute l "split" apos) [r] [] pos) (tF X.K (ev T n (.split o a))) := PEimp hO fun σ H Q q => tO_F hl q
      exact ⟨hF, bor_F (fun _ => PX.noConfusion) hF, pt_of hF fun _ => rfl, (fun z => nomatch z), (fun _ => hO), fun _ _ _ _ _ _ z => nomatch z⟩
    · cases h
  | .index o a, X, e, C, h => by
    have ee : ev T n (.index o a) = fun ρ => (bor o ρ (ev T n o ρ)).bind fun x => (ev T n a ρ).bind fun y => idxD x y := by
      funext ρ; rw [ev, evE]
    have hu : X.A.units + 65 < cLine := by have := C.room.un; omega
    unfold chk at h
    split at h
    · rename_i l m apos r pos
      simp only [Bool.and_eq_true, decide_eq_true_eq] at h
      obtain ⟨⟨⟨⟨rfl, h2⟩, h3⟩, h4⟩, h5⟩ := h
      have st := fun es => star_of (chk_plain a h5) es X.env
      refine Snd.of (fun _ => PX.noConfusion) ?_ (fun _ => rfl) rfl
      rw [ee]
      refine PEimp (pe_bm PySem.F.plainAttrs_list PySem.F.slot_list_index PySem.F.type_list_index (idxD_ok hu) (sndE o X _ C h4).b (pa_cons (sndE a X _ C h5).f pa_nil (st [])) (base_of h2 _ _ _) (by rw [st]; rfl) h3 (st []) rfl) fun σ H Q ⟨Hf, ρ, d, er, hd, k⟩ => ?_
      obtain ⟨x, h6, hd⟩ := Option.bind_eq_some_iff.mp hd
      obtain ⟨y, h7, hd⟩ := Option.bind_eq_some_iff.mp hd
      refine ⟨Hf, ρ, x, er, h6, fun v H1 Hf1 e1 r1 => ⟨?_, Hf1, ρ, y, er.ext e1, h7, fun w H2 Hf2 e2 r2 => ⟨w, Hf2, x, y, d, rfl, e2.sub, r1.ext e2, .inl r2, hd, (k.ext e1).ext e2⟩⟩⟩
      cases x with
      | list ds =>
        obtain ⟨p, vs, rfl, s1, _, _⟩ := r1.list e1.sub
        exact .inl ⟨rfl, vs, s1⟩
      | _ => cases y <;> exact nomatch hd
    · cases h
  | .lc ws elt tg it c, X, e, C, h => by
    have ee : ev T n (.lc ws elt tg it c) = fun ρ => (evI T.G (T.run n) true it ρ).bind fun ds => (compR tg (fun ρ1 => boolOf (ev T n c ρ1)) (fun ρ1 => ev T n elt ρ1) (wipeR ρ ws) ds).map .list := by funext ρ; rw [ev, evE]
    unfold chk at h
    split at h
    · rename_i el t i ifs scope pos
      simp only [Bool.and_eq_true, decide_eq_true_eq] at h
      obtain ⟨⟨⟨⟨⟨⟨h1, h2⟩, h3⟩, h4⟩, h5⟩, h6⟩, h7⟩ := h
      have B := blkOk_by h2
      have hTs : ∀ (s : Shared) (H : Hp) (c' : Addr) (cl : List (Str × Addr)) (fp : List Addr), PTs (X.blk s H scope (compEnvC scope cl c' X.env) fp) ifs (tT X.K (ev T n c)) := by
        intro s H c' cl fp
        split at h6
        · split at h6
          · have e2 : ev T n (.lit (.bool true)) = fun _ => some (.bool true) := by funext ρ; rw [ev, evE]
            rw [e2]
            refine PTsimp pts_nil fun σ H Q ⟨Hf, ρ, b, er, hb, k⟩ => ?_
            cases hb
            exact k H Hf (Ext.refl er.sub)
          · cases h6
        · exact pts_one (sndE c (X.blk s H scope (compEnvC scope cl c' X.env) fp) _ (C.blk s H cl c' fp B.kind) h6).t
        · cases h6
      have hL : LcOk X el t i ifs scope (ev T n (.lc ws elt tg it c)) := by
        refine ⟨ownOf X.N scope, tI X.K true (evI T.G (T.run n) true it), tgG X.K tg, tT X.K (ev T n c), tF X.K (ev T n elt), sndI it true X t i C h3, B,
          (fun s H c' cl fp => tg_of (X := X.blk s H scope (compEnvC scope cl c' X.env) fp) rfl C.nd rfl (fun x hx => hx) C.calm h4), hTs,
          (fun s H c' cl fp => (sndE elt (X.blk s H scope (compEnvC scope cl c' X.env) fp) el (C.blk s H cl c' fp B.kind) h7).f), fold_of (chkI_plain it h3) _, fun σ H Q q => ?_⟩
        rw [ee] at q
        rw [← h1]
        exact lc_in (fun i hi => of_decide_eq_true (List.all_eq_true.mp h5 i hi)) q
      have hO : PE X (.ListComp el [⟨t, i, ifs, 0⟩] scope pos) (tO X.K (ev T n (.lc ws elt tg it c))) := by
        obtain ⟨own, wi, g, tt, te, a1, a2, a3, a4, a5, a6, a7⟩ := hL
        exact PEimp (pe_lc C.calm C.nd a1 a2 a3 a4 a5 a6) a7
      have hF : PE X (.ListComp el [⟨t, i, ifs, 0⟩] scope pos) (tF X.K (ev T n (.lc ws elt tg it c))) := PEimp hO fun σ H Q q => by
        refine tO_F (fun ρ d hd => ?_) q
        rw [ee] at hd
        obtain ⟨ds, h1, hd⟩ := Option.bind_eq_some_iff.mp hd
        obtain ⟨ds', h1, rfl⟩ := Option.map_eq_some_iff.mp hd
        exact ⟨ds', rfl⟩
      exact ⟨hF, bor_F (fun _ => PX.noConfusion) hF, pt_of hF fun _ => rfl, (fun z => nomatch z), (fun _ => hO), fun _ _ _ _ _ _ z => by cases z; exact hL⟩
    · cases h
  | .pick ks es k, X, e, C, h => by
    have ee : ev T n (.pick ks es k) = fun ρ => (evEs T.G (T.run n) es ρ).bind fun ds => (ev T n k ρ).bind fun x => pickX ks ds x := by funext ρ; rw [ev, evE]
    have hu : X.A.units + 65 < cLine := by have := C.room.un; omega
    unfold chk at h
    split at h
    · rename_i keys vals dpos r pos
      simp only [Bool.and_eq_true, decide_eq_true_eq] at h
      obtain ⟨⟨⟨⟨h1, h2⟩, h3⟩, h4⟩, h5⟩ := h
      obtain ⟨trs, P, O⟩ := sndPs es X dpos ks keys vals C h1 h3 h4
      exact Snd.of (fun _ => PX.noConfusion) (by rw [ee]; exact pf_pick hu (pd_of P O h1 h2 h3) (sndE k X _ C h5).f (ix_of (chk_plain k h5))) (fun _ => rfl) rfl
    · cases h
  | .getd ks es k d, X, e, C, h => by
    have ee : ev T n (.getd ks es k d) = fun ρ => (evEs T.G (T.run n) es ρ).bind fun ds => (ev T n k ρ).bind fun x => (ev T n d ρ).bind fun y => getX ks ds x y := by funext ρ; rw [ev, evE]
    have hu : X.A.units + 65 < cLine := by have := C.room.un; omega
    unfold chk at h
    split at h
    · rename_i keys vals dpos m apos r f pos
      simp only [Bool.and_eq_true, decide_eq_true_eq] at h
      obtain ⟨⟨⟨⟨⟨⟨⟨rfl, h0⟩, h1⟩, h2⟩, h3⟩, h4⟩, h5⟩, h6⟩ := h
      obtain ⟨trs, P, O⟩ := sndPs es X dpos ks keys vals C h1 h3 h4
      have s1 := fun es => star_of (chk_plain k h5) es X.env
      have s2 := fun es => star_of (chk_plain d h6) es X.env
      exact Snd.of (fun _ => PX.noConfusion) (by rw [ee]; exact pf_getd hu (pd_of P O h1 h2 h3) (sndE k X _ C h5).f (sndE d X _ C h6).f ⟨rfl, by rw [s1, s2]; rfl, h0, by rw [s1, s2]; rfl⟩) (fun _ => rfl) rfl
    · cases h
  | .pickV i k, X, e, C, h => by
    have ee : ev T n (.pickV i k) = fun ρ => (ev T n k ρ).bind fun x => pickS ρ i x := by funext ρ; rw [ev, evE]
    have hu : X.A.units + 65 < cLine := by have := C.room.un; omega
    unfold chk at h
    split at h
    · rename_i x xpos r pos
      simp only [Bool.and_eq_true, decide_eq_true_eq] at h
      obtain ⟨⟨⟨h1, h2⟩, h3⟩, h4⟩ := h
      have hd := dbg_of h3
      exact Snd.of (fun _ => PX.noConfusion) (by rw [ee]; exact pd_var (pe_var h1 (vis_of h2) hd.1 hd.2) hu (sndE k X _ C h4).f (ix_of (chk_plain k h4))) (fun _ => rfl) rfl
    · cases h
  | .rngL a, X, e, C, h => by
    have ee : ev T n (.rngL a) = fun ρ => (ev T n a ρ).bind fun x => (intOf x).bind fun n => if rngOk n then some (.list (rgD n)) else none := by funext ρ; rw [ev, evE]
    unfold chk at h
    split at h
    · simp only [Bool.and_eq_true, decide_eq_true_eq] at h
      obtain ⟨⟨⟨⟨rfl, rfl⟩, h3⟩, h4⟩, h5⟩ := h
      exact Snd.of (fun _ => PX.noConfusion) (by rw [ee]; exact pf_rngL C.calm (gl_of h3) (C.blt "list" (by unfold bNames; simp)) (gl_of h4) (C.blt "range" (by unfold bNames; simp)) (sndE a X _ C h5).f (fun es => star_of (chk_plain a h5) es _)) (fun _ => rfl) rfl
    · cases h
  | .inG neg k g, X, e, C, h => by
    unfold chk at h
    split at h
    · rename_i l o x xp pos y d hg
      simp only [Bool.and_eq_true, decide_eq_true_eq] at h
      obtain ⟨⟨⟨⟨⟨rfl, rfl⟩, h2⟩, h3⟩, h4⟩, h5⟩ := h
      obtain ⟨u, v, g1, g2, g3⟩ := C.glb g x d hg
      cases d with
      | dict kvs =>
        have D : GDic X.K X.w v kvs := by
          rcases g3 with g3 | ⟨kvs', e, D⟩
          · cases g3 X.H_0
          · cases e; exact D
        have ee : ev T n (.inG neg k g) = fun ρ => (ev T n k ρ).bind fun x => gdHas neg (some (.dict kvs)) x := by
          funext ρ; rw [ev, evE, Tab.G, hg]; rfl
        have S := sndE k X _ C h5
        have hb : PE X (.Name x xp) (tC v) := pe_glob (gl_of h2) g1 g2 (dbg_of h3).1
        have hF : PE X (.Compare l [if neg then .NotIn else .In] [.Name x xp] pos) (tF X.K (ev T n (.inG neg k g))) := by rw [ee]; exact pf_inG D S.f hb rfl
        exact ⟨hF, bor_F (fun _ => PX.noConfusion) hF, by rw [ee]; exact ptt_inG D S.f hb rfl, (fun z => nomatch z), (fun z => nomatch z), fun _ _ _ _ _ _ z => nomatch z⟩
      | _ => cases h4
    · cases h
  | .pickG g k, X, e, C, h => by
    unfold chk at h
    split at h
    · rename_i x xp r pos y d hg
      simp only [Bool.and_eq_true, decide_eq_true_eq] at h
      obtain ⟨⟨⟨⟨rfl, h2⟩, h3⟩, h4⟩, h5⟩ := h
      obtain ⟨u, v, g1, g2, g3⟩ := C.glb g x d hg
      cases d with
      | dict kvs =>
        have D : GDic X.K X.w v kvs := by
          rcases g3 with g3 | ⟨kvs', e, D⟩
          · cases g3 X.H_0
          · cases e; exact D
        have ee : ev T n (.pickG g k) = fun ρ => (ev T n k ρ).bind fun x => gdGet (some (.dict kvs)) x := by
          funext ρ; rw [ev, evE, Tab.G, hg]; rfl
        have S := sndE k X _ C h5
        have hb : PE X (.Name x xp) (tC v) := pe_glob (gl_of h2) g1 g2 (dbg_of h3).1
        exact Snd.of (fun _ => PX.noConfusion) (by rw [ee]; exact pf_pickG D S.f hb (ix_of (chk_plain k h5))) (fun _ => rfl) rfl
      | _ => cases h4
    · cases h
  | .sset a, X, e, C, h => by
    have ee : ev T n (.sset a) = fun ρ => (bor a ρ (ev T n a ρ)).bind ssetD := by funext ρ; rw [ev, evE]
    have hu : X.A.units + 65 < cLine := by have := C.room.un; omega
    unfold chk at h
    split at h
    · simp only [Bool.and_eq_true, decide_eq_true_eq] at h
      obtain ⟨⟨⟨⟨rfl, rfl⟩, h3⟩, h4⟩, h5⟩ := h
      exact Snd.of (fun _ => PX.noConfusion) (by rw [ee]; exact pf_sset C.calm hu (gl_of h3) (C.blt "sorted" (by unfold bNames; simp)) (gl_of h4) (C.blt "set" (by unfold bNames; simp)) (sndE a X _ C h5).b (fun es => star_of (chk_plain a h5) es _)) (fun _ => rfl) rfl
    · cases h
  | .attr i k, X, e, C, h => by
    have ee : ev T n (.attr i k) = attrR i k := by funext ρ; rw [ev, evE]
    unfold chk at h
    split at h
    · rename_i x xp m pos nm hnm
      simp only [Bool.and_eq_true, decide_eq_true_eq] at h
      obtain ⟨⟨⟨⟨h1, h2⟩, h3⟩, rfl⟩, h4⟩ := h
      have hd := dbg_of h3
      have hv := pe_var (X := X) (pos := xp) h1 (vis_of h2) hd.1 hd.2
      have hF : PE X (.Attribute (.Name x xp) m pos) (tF X.K (ev T n (.attr i k))) := by rw [ee]; exact pf_attr hv rfl (at_nm h4) C.ob.mo C.ob.mc (C.ob.at_ k _ hnm)
      refine ⟨hF, ?_, pt_of hF fun _ => rfl, (fun z => nomatch z), (fun z => nomatch z), fun _ _ _ _ _ _ z => nomatch z⟩
      rw [ee]
      exact bor_attr hv rfl (at_nm h4) C.ob.mo C.ob.mc (C.ob.at_ k _ hnm)
    · cases h
  | .attr2 i k, X, e, C, h => by
    have ee : ev T n (.attr2 i k) = fun ρ => attrD k (obJ i ρ) := by funext ρ; rw [ev, evE]
    unfold chk at h
    split at h
    · rename_i x xp m1 mp m pos nm hnm
      simp only [Bool.and_eq_true, decide_eq_true_eq] at h
      obtain ⟨⟨⟨⟨h1, h2⟩, h3⟩, rfl⟩, rfl⟩ := h
      have hd := dbg_of h3
      exact Snd.of (fun _ => PX.noConfusion) (by rw [ee]; exact pf_attr2 (pe_var h1 (vis_of h2) hd.1 hd.2) rfl C.ob.mo C.ob.mc (C.ob.at_ k _ hnm)) (fun _ => rfl) rfl
    · cases h
  | .obJ i, X, e, C, h => by unfold chk at h; cases h
  | .inT ng i k, X, e, C, h => by
    have ee : ev T n (.inT ng i k) = fun ρ => (ev T n k ρ).bind (tabIn ng (tabM i ρ)) := by funext ρ; rw [ev, evE]
    unfold chk at h
    split at h
    · rename_i l o x xp m mp pos
      simp only [Bool.and_eq_true, decide_eq_true_eq] at h
      obtain ⟨⟨⟨⟨⟨⟨rfl, h1⟩, h2⟩, h3⟩, rfl⟩, h4⟩, h5⟩ := h
      have hd := dbg_of h3
      have D := C.dr (C.ob.dk h5)
      have hv := pe_var (X := X) (pos := xp) h1 (vis_of h2) hd.1 hd.2
      have S := sndE k X _ C h4
      have gen : ∀ {σ : L2.St} {H : Hp} {Q : VK} {g : List (PyData × PyData) → PyData → Option PyData}, (∀ kvs x, tabIn ng (some kvs) x = g kvs x) → tF X.K (fun ρ => (ev T n k ρ).bind (tabIn ng (tabM i ρ))) σ H Q → tF X.K (ev T n k) σ H fun v H1 => tFld X.K (tVar i) "put_links" σ H1 fun u H2 => rTab X.K g u v H2 Q := by
        intro σ H Q g hg ⟨Hf, ρ, d, er, hd, kF⟩
        obtain ⟨y, q1, hd⟩ := Option.bind_eq_some_iff.mp hd
        cases q : tabM i ρ with
        | none => rw [q] at hd; cases hd
        | some kvs =>
          rw [q, hg] at hd
          exact ⟨Hf, ρ, y, er, q1, fun v H1 Hf1 e1 r1 => links_gen C.ob.mo C.ob.mc (er.ext e1) q fun u ou => ⟨Hf1, kvs, y, d, e1.sub, ou, r1, hd, kF.ext e1⟩⟩
      have hF : PE X (.Compare l [if ng then .NotIn else .In] [.Attribute (.Name x xp) "put_links" mp] pos) (tF X.K (ev T n (.inT ng i k))) := by
        rw [ee]
        cases ng with
        | true =>
          refine PEimp (pe_cmpR D.notin S.f (pe_fld hv rfl) rfl) fun σ H Q q => gen (fun kvs x => ?_) q
          show (if keyOk x = true then some (PyData.bool (xor true (tabGet x kvs).isSome)) else none) = _
          rw [Bool.true_xor]
        | false =>
          refine PEimp (pe_cmpR D.isin S.f (pe_fld hv rfl) rfl) fun σ H Q q => gen (fun kvs x => ?_) q
          show (if keyOk x = true then some (PyData.bool (xor false (tabGet x kvs).isSome)) else none) = _
          rw [Bool.false_xor]
      have hT : PT X (.Compare l [if ng then .NotIn else .In] [.Attribute (.Name x xp) "put_links" mp] pos) (tT X.K (ev T n (.inT ng i k))) := by
        rw [ee]
        cases ng with
        | true =>
          refine PTimp (pt_cmpR D.notin S.f (pe_fld hv rfl) rfl) fun σ H Q ⟨Hf, ρ, d, er, hd, k⟩ => ?_
          refine gen (fun kvs x => ?_) ⟨Hf, ρ, _, er, boolOf_some hd, fun v H' Hf' e r => ?_⟩
          · show (if keyOk x = true then some (PyData.bool (xor true (tabGet x kvs).isSome)) else none) = _
            rw [Bool.true_xor]
          · cases r
            exact ⟨d, rfl, k H' Hf' e⟩
        | false =>
          refine PTimp (pt_cmpR D.isin S.f (pe_fld hv rfl) rfl) fun σ H Q ⟨Hf, ρ, d, er, hd, k⟩ => ?_
          refine gen (fun kvs x => ?_) ⟨Hf, ρ, _, er, boolOf_some hd, fun v H' Hf' e r => ?_⟩
          · show (if keyOk x = true then some (PyData.bool (xor false (tabGet x kvs).isSome)) else none) = _
            rw [Bool.false_xor]
          · cases r
            exact ⟨d, rfl, k H' Hf' e⟩
      exact ⟨hF, bor_F (fun _ => PX.noConfusion) hF, hT, (fun z => nomatch z), (fun z => nomatch z), fun _ _ _ _ _ _ z => nomatch z⟩
    · cases h
  | .getT i k, X, e, C, h => by
    have ee : ev T n (.getT i k) = fun ρ => (ev T n k ρ).bind (tabAt (tabM i ρ)) := by funext ρ; rw [ev, evE]
    unfold chk at h
    split at h
    · rename_i x xp m mp r pos
      simp only [Bool.and_eq_true, decide_eq_true_eq] at h
      obtain ⟨⟨⟨⟨⟨h1, h2⟩, h3⟩, rfl⟩, h4⟩, h5⟩ := h
      have hd := dbg_of h3
      have D := C.dr (C.ob.dk h5)
      have hv := pe_var (X := X) (pos := xp) h1 (vis_of h2) hd.1 hd.2
      have S := sndE k X _ C h4
      refine Snd.of (fun _ => PX.noConfusion) ?_ (fun _ => rfl) rfl
      rw [ee]
      refine PEimp (pe_ix D.get (pe_fld hv rfl) S.f (ix_of (chk_plain k h4))) fun σ H Q ⟨Hf, ρ, d, er, hd, kF⟩ => ?_
      obtain ⟨y, q1, hd⟩ := Option.bind_eq_some_iff.mp hd
      cases q : tabM i ρ with
      | none => rw [q] at hd; cases hd
      | some kvs =>
        rw [q] at hd
        exact links_gen C.ob.mo C.ob.mc er q fun u ou => ⟨Hf, ρ, y, er, q1, fun v H1 Hf1 e1 r1 => ⟨Hf1, kvs, y, d, e1.sub, Memo.ob_mono e1.fr ou, r1, hd, kF.ext e1⟩⟩
    · cases h
  | .mkw f j s, X, e, C, h => by
    have ee : ev T n (.mkw f j s) = fun ρ => (ev T n s ρ).bind (mkwR (T.run n f) (obV j ρ)) := by funext ρ; rw [ev, evE]
    unfold chk at h
    split at h
    · rename_i y yp z zp se p1 m apos pos F hF
      simp only [Bool.and_eq_true, decide_eq_true_eq] at h
      obtain ⟨⟨⟨⟨⟨⟨⟨⟨⟨⟨⟨rfl, h1⟩, h2⟩, h3⟩, h4⟩, rfl⟩, h5⟩, h6⟩, h7⟩, h8⟩, h9⟩, h10⟩ := h
      have dk := C.ob.dk h10
      have hd := dbg_of h8
      have hv := pe_var (X := X) (pos := zp) h6 (vis_of h7) hd.1 hd.2
      have S := sndE s X _ C h9
      refine Snd.of (fun _ => PX.noConfusion) ?_ (fun _ => rfl) rfl
      rw [ee]
      rcases C.ob.mw f F hF h4 h2 with hn | ⟨fI, fdI, lv, g1, g2, g3, g4, g5⟩
      · refine ⟨fun pins s' σ H Q I ⟨Hf, ρ, d, er, hd, kF⟩ => ?_⟩
        obtain ⟨a, _, hd⟩ := Option.bind_eq_some_iff.mp hd
        obtain ⟨b, _, hd⟩ := Option.bind_eq_some_iff.mp hd
        rw [hn] at hd; cases hd
      · obtain ⟨a, fd, k1, k2, k3, k4⟩ := C.ob.wd f F hF h4 h2 (by simpa using h3)
        have A := po_consO (fl := [false]) (pob_var hv) (po_consF S.f po_nil (star_of (chk_plain s h9) _ _)) (star_of (by rfl : plainE (.Name z zp) = true) _ _)
        have M := pe_make (X := X) (x := "Maker") (p := yp) (pos := p1) g2 g5 (C.room.mono g4) (gl_of h5) g1 g3 .nil pass0 A rfl (star_of (by rfl : plainE (.Name z zp) = true) _ _) (by rw [star_of (chk_plain s h9)]; rfl)
        refine PEimp (pe_meth0 (pl := plainOf (.Call (.Name "Maker" yp) [.Name z zp, se] [] p1) X.env) M (C.ob.mc dk).cls k1 k3 C.room k2 .nil pass0 (ev_meth rfl rfl h1)) fun σ H Q ⟨Hf, ρ, d, er, hd, kF⟩ => ?_
        obtain ⟨sd, q1, hd⟩ := Option.bind_eq_some_iff.mp hd
        obtain ⟨jd, q2, hd⟩ := Option.bind_eq_some_iff.mp hd
        refine ⟨Hf, ρ, [jd, sd], er, ?_, fun vs H1 Hf1 e1 r1 x dx hx hdx hne => ?_⟩
        · show (obV j ρ).bind _ = _
          rw [q2]
          show ((ev T n s ρ).bind fun d => (some []).map (d :: ·)).map (jd :: ·) = _
          rw [q1]; rfl
        · match vs, r1 with
          | [vj, us], r1 =>
            have rj : Memo.ob X.K Hf1 vj jd := r1.1
            have rs : Rp X.K Hf1 us sd := r1.2.1
            refine ⟨H1, Hf1, x, dx, vj, us, rfl, hx, hdx, hne, rfl, e1.sub, fun H' p q ex hx' hp' hq' hp hq hsy => ⟨rfl, ?_⟩⟩
            refine ⟨x, dx, _, rfl, hx', k4 _ _ _ _, ?_⟩
            have nf : ∀ {b : Addr}, H1 b = none → Hf1 b = none := fun hb => sub_none e1.sub hb
            refine ⟨H1, Hf1, Hf1, .ref x, [], jd, sd, [], [], [], d, rfl, ex, ?_, fun b ob => ?_, .nil, hd, fun v H2 Hf2 e2 r2 => kF v H2 Hf2 (e1.trans e2) r2⟩
            · exact ⟨x, dx, vj, us, p, q, [], rfl, hx', nf hx, rj, rs, hp', Nat.zero_le _, .nil, nf hp, nf hq, fun m => (by
                obtain ⟨φ, z⟩ := Memo.may_ext e1.sub.inv m
                rw [hq] at z; cases z), dk, hsy, [], hq', .nil, .nil⟩
            · rcases ob with ob | ⟨x2, dx2, vj2, us2, p2, q2', o1, o2, o3⟩
              · cases ob; exact hx
              · cases o1
                rw [hx'] at o2
                obtain ⟨_, _, rfl, rfl⟩ := mkFs_inj (by have := Option.some.inj o2; injection this)
                rcases o3 with rfl | rfl
                · exact hp
                · exact hq
    · cases h
  | .obj i, X, e, C, h => by unfold chk at h; cases h
  | .fnv f, X, e, C, h => by unfold chk at h; cases h
  | .new c j, X, e, C, h => by unfold chk at h; cases h
  | .bld c j, X, e, C, h => by unfold chk at h; cases h
  | .callO m f es, X, e, C, h => by
    unfold chk at h
    split at h
    · rename_i x p a l pos F hF
      simp only [Bool.and_eq_true, decide_eq_true_eq] at h
      obtain ⟨⟨⟨⟨⟨⟨⟨⟨rfl, h2⟩, h3⟩, h5⟩, h6⟩, h7⟩, h9⟩, h8⟩, h4⟩ := h
      obtain ⟨fa, fd, k1, k2, k3, k4⟩ := C.ob.fo f F hF (by simpa using h6) h9 (by simpa using h5) (by simpa using h7)
      have A := sndAs es X _ C h4
      rw [h8] at A
      have ap := chkAs_plain es h4
      rw [List.all_cons, Bool.and_eq_true] at ap
      have ee : ev T n (.callO .fn f es) = fun ρ => (evEs T.G (T.run n) es ρ).bind (T.run n f) := by funext ρ; rw [ev, evE]; rfl
      exact Snd.of (fun _ => PX.noConfusion) (by rw [ee]; exact PEimp (pe_call k4 C.room (gl_of h2) k1 k2 k3 .nil pass0 A (dbg_of h3).1 (star_of ap.1 _ _) (all_star _ _ l ap.2).1) fun σ H Q q => callO_in q) (fun _ => rfl) rfl
    · rename_i m _ _ _ o m' apos a l pos F hF
      simp only [Bool.and_eq_true, decide_eq_true_eq] at h
      obtain ⟨⟨⟨⟨⟨⟨⟨⟨⟨hk0, rfl⟩, h2⟩, h3⟩, h5⟩, h9⟩, h6⟩, h7⟩, h8⟩, h4⟩ := h
      have hkn : m ≠ .fn := by rw [hk0]; cases T.mm f <;> (intro z; cases z)
      obtain ⟨Cc, fa, fd, k1, k2, k3, k4, k5⟩ := C.ob.mt f F hF h5 h9 (by simpa using h3)
      have ap := chkAs_plain es h4
      rw [List.all_cons, List.all_cons, Bool.and_eq_true, Bool.and_eq_true] at ap
      cases es with
      | nil => cases h7
      | cons r rs =>
        have h7 : isOb r = true := h7
        obtain ⟨R, A, _, hb⟩ := chkAs_head r rs h7 h4
        have Ro := sndOb r X o C h7 R
        have As := sndAs rs X _ C A
        rw [← h6] at k4
        have hk : flA (.cons r rs) = true :: flA rs := by rw [flA, h7]
        rw [hk] at k4
        have hf : methodCallForm ((a :: l).length + ([] : List Keyword).length) (backTo pos (starEach (a :: l) X.env)) (backToKw pos (keywordEach [] X.env)) = true := by
          have h1 := (all_star pos X.env (a :: l) (by rw [List.all_cons, ap.2.1, ap.2.2]; rfl)).2
          show ((backTo pos (starEach (a :: l) X.env)).all (fun x => !x.1) && true && decide ((a :: l).length + 0 + 0 < 30)) = true
          rw [h1, decide_eq_true (by rw [List.length_cons]; omega)]
          rfl
        have ee : ev T n (.callO m f (.cons r rs)) = fun ρ => (ev T n r ρ).bind fun d => (evEs T.G (T.run n) rs ρ).bind fun ds => headK m (T.run n f) (d :: ds) := by
          funext ρ
          have e1 : ∀ (g : List PyData → Option PyData) (x : Option PyData) (y : Option (List PyData)), ((x.bind fun d => y.map (d :: ·)).bind (headK m g)) = x.bind fun d => y.bind fun ds => headK m g (d :: ds) := by
            intro g x y
            cases x <;> cases y <;> rfl
          rw [ev, evE, evEs]
          exact e1 _ _ _
        exact Snd.of (fun _ => PX.noConfusion) (by rw [ee]; exact PEimp (pe_meth (pl := plainOf o X.env) Ro k1 k2 k4 C.room k3 .nil pass0 As (star_of ap.2.1 _ _) (all_star _ _ l ap.2.2).1 (ev_meth (hb _ _ _) hf h2)) fun σ H Q q => meth_in hkn (fun H v d ho hs => k5 H v d ho (by rw [hk0] at hs; exact hs)) q) (fun _ => rfl) rfl
    · cases h
  | .callV i es, X, e, C, h => by
    have ee : ev T n (.callV i es) = fun ρ => (evEs T.G (T.run n) es ρ).bind (runV (T.run n) (obV i ρ)) := by funext ρ; rw [ev, evE]
    unfold chk at h
    split at h
    · rename_i x p a l pos
      simp only [Bool.and_eq_true, decide_eq_true_eq] at h
      obtain ⟨⟨⟨h1, h2⟩, h3⟩, h4⟩ := h
      have A := sndEs es X _ C h4
      have ap := chks_plain es h4
      rw [List.all_cons, Bool.and_eq_true] at ap
      have hfv : ∀ H v j, Memo.ob X.K H v (.int j) → ∃ g fd ps, v = .ref g ∧ PySem.W.keepIn X.K (.ref g) = true ∧ Binds X.K fd ps [] ∧ FnOk X.prog X.w X.K X.mg X.base CX0 (T.c * n) g fd ps (spD X.K (T.run n j.toNat)) := by
        intro H v j hv
        obtain ⟨F, g1, g2, g3, g4, g6, g, rfl, g5⟩ := C.ob.fv H v j hv
        obtain ⟨fa, fd, k1, k2, k3, k4⟩ := C.fn _ F g1 g2 g3 g4 g6
        rw [g5] at k1
        cases k1
        exact ⟨g, fd, F.ps, rfl, k2, k3, k4⟩
      exact Snd.of (fun _ => PX.noConfusion) (by rw [ee]; exact pf_callV h1 (vis_of h2) (dbg_of h3).1 (dbg_of h3).2 C.room pass0 hfv A (star_of ap.1 _ _) (all_star _ _ l ap.2).1) (fun _ => rfl) rfl
    · cases h
  | .pickO i k, X, e, C, h => by
    have ee : ev T n (.pickO i k) = fun ρ => (ev T n k ρ).bind (tabD (obV i ρ)) := by funext ρ; rw [ev, evE]
    unfold chk at h
    split at h
    · rename_i x p r pos
      simp only [Bool.and_eq_true, decide_eq_true_eq] at h
      obtain ⟨⟨⟨⟨h1, h2⟩, h3⟩, h4⟩, h5⟩ := h
      have hd := dbg_of h3
      exact Snd.of (fun _ => PX.noConfusion) (by rw [ee]; exact pf_pickO (C.dr (C.ob.dk h5)) (pe_var h1 (vis_of h2) hd.1 hd.2) (sndE k X _ C h4).f (ix_of (chk_plain k h4))) (fun _ => rfl) rfl
    · cases h
theorem sndOb : ∀ (p : PX) (X : Cx) (e : Expr), Cok T n X → isOb p = true → chkAs T X.N (.cons p .nil) X.env.scope [e] = true → PE X e (tOb X.K (ev T n p))
  | .obj i, X, e, C, _, h => by
    have ee : ev T n (.obj i) = obV i := by funext ρ; rw [ev, evE]
    unfold chkAs at h
    split at h
    · rename_i x p es q
      cases q
      simp only [Bool.and_eq_true, decide_eq_true_eq] at h
      obtain ⟨⟨⟨h1, h2⟩, h3⟩, _⟩ := h
      have hd := dbg_of h3
      rw [ee]
      exact pob_var (pe_var h1 (vis_of h2) hd.1 hd.2)
    · cases h
  | .fnv f, X, e, C, _, h => by
    have ee : ev T n (.fnv f) = fun _ => some (.int (f : Nat)) := by funext ρ; rw [ev, evE]
    unfold chkAs at h
    split at h
    · rename_i x p es F q hF
      cases q
      simp only [Bool.and_eq_true, decide_eq_true_eq] at h
      obtain ⟨⟨⟨⟨⟨⟨⟨⟨rfl, h2⟩, h3⟩, h4⟩, h5⟩, h6⟩, h8⟩, h7⟩, _⟩ := h
      obtain ⟨fa, fd, k1, k2, k3, k4⟩ := C.fn f F hF (by simpa using h4) h5 (by simpa using h6) h8
      rw [ee]
      exact pob_const (pe_glob (v := .ref fa) (gl_of h2) k1 rfl (dbg_of h3).1) fun H => C.ob.fvI H f F fa h7 hF (by simpa using h4) h5 (by simpa using h6) h8 k1
    · cases h
  | .new c j, X, e, C, _, h => by
    have ee : ev T n (.new c j) = fun ρ => (ev T n j ρ).bind fun x => T.run n c [x] := by funext ρ; rw [ev, evE]
    unfold chkAs at h
    split at h
    · rename_i x p l pos es nm q hc
      cases q
      simp only [Bool.and_eq_true, decide_eq_true_eq] at h
      obtain ⟨⟨⟨⟨rfl, h2⟩, h3⟩, h4⟩, _⟩ := h
      have S := sndE j X _ C h4
      rw [ee]
      rcases C.ob.nw c _ hc with hn | ⟨Cc, fI, fd, lv, g1, g2, g3, g4, g5⟩
      · refine ⟨fun pins s σ H Q I ⟨Hf, ρ, d, er, hd, kF⟩ => ?_⟩
        obtain ⟨y, _, hd⟩ := Option.bind_eq_some_iff.mp hd
        rw [hn] at hd; cases hd
      · exact PEimp (pe_make g2 g5 (C.room.mono g4) (gl_of h2) g1 g3 .nil pass0 (pa_consF S.f pa_nilF (star_of (chk_plain j h4) _ _)) (dbg_of h3).1 (star_of (chk_plain j h4) _ _) rfl) fun σ H Q q => make_in q
    · cases h
  | .bld f bs, X, e, C, _, h => by
    have ee : ev T n (.bld f bs) = fun ρ => (evEs T.G (T.run n) bs ρ).bind (T.run n f) := by funext ρ; rw [ev, evE]
    unfold chkAs at h
    split at h
    · rename_i x p a l pos es F q hF
      cases q
      simp only [Bool.and_eq_true, decide_eq_true_eq] at h
      obtain ⟨⟨⟨⟨⟨⟨⟨⟨rfl, h2⟩, h3⟩, h5⟩, h6⟩, h7⟩, h8⟩, h4⟩, _⟩ := h
      obtain ⟨fa, fd, k1, k2, k3, k4⟩ := C.ob.bo f F hF (by simpa using h6) h7 (by simpa using h5)
      have A := sndAs bs X _ C h4
      rw [h8] at A
      have ap := chkAs_plain bs h4
      rw [List.all_cons, Bool.and_eq_true] at ap
      rw [ee]
      exact PEimp (pe_call k4 C.room (gl_of h2) k1 k2 k3 .nil pass0 A (dbg_of h3).1 (star_of ap.1 _ _) (all_star _ _ l ap.2).1) fun σ H Q q => bld_in q
    · cases h
  | .obJ i, X, e, C, _, h => by
    have ee : ev T n (.obJ i) = obJ i := by funext ρ; rw [ev, evE]
    unfold chkAs at h
    split at h
    · rename_i x p m mp es q
      cases q
      simp only [Bool.and_eq_true, decide_eq_true_eq] at h
      obtain ⟨⟨⟨⟨h1, h2⟩, h3⟩, rfl⟩, _⟩ := h
      have hd := dbg_of h3
      rw [ee]
      exact pob_judge (pe_var h1 (vis_of h2) hd.1 hd.2) rfl C.ob.mo C.ob.mc
    · cases h
  | .attr2 _ _, _, _, _, hp, _ => by cases hp
  | .inT _ _ _, _, _, _, hp, _ => by cases hp
  | .getT _ _, _, _, _, hp, _ => by cases hp
  | .mkw _ _ _, _, _, _, hp, _ => by cases hp
  | .var _, _, _, _, hp, _ => by cases hp
  | .lit _, _, _, _, hp, _ => by cases hp
  | .glb _, _, _, _, hp, _ => by cases hp
  | .bin _ _ _, _, _, _, hp, _ => by cases hp
  | .neg _, _, _, _, hp, _ => by cases hp
  | .not _, _, _, _, hp, _ => by cases hp
  | .and _ _, _, _, _, hp, _ => by cases hp
  | .or _ _, _, _, _, hp, _ => by cases hp
  | .cmp _ _ _, _, _, _, hp, _ => by cases hp
  | .isN _ _, _, _, _, hp, _ => by cases hp
  | .isTr _ _, _, _, _, hp, _ => by cases hp
  | .chain _ _ _ _ _, _, _, _, hp, _ => by cases hp
  | .ife _ _ _, _, _, _, hp, _ => by cases hp
  | .tup _, _, _, _, hp, _ => by cases hp
  | .lst _, _, _, _, hp, _ => by cases hp
  | .ix _ _, _, _, _, hp, _ => by cases hp
  | .slc _ _ _, _, _, _, hp, _ => by cases hp
  | .omit, _, _, _, hp, _ => by cases hp
  | .rev _, _, _, _, hp, _ => by cases hp
  | .call _ _, _, _, _, hp, _ => by cases hp
  | .blt _ _, _, _, _, hp, _ => by cases hp
  | .isI _ _, _, _, _, hp, _ => by cases hp
  | .join _ _, _, _, _, hp, _ => by cases hp
  | .split _ _, _, _, _, hp, _ => by cases hp
  | .index _ _, _, _, _, hp, _ => by cases hp
  | .lc _ _ _ _ _, _, _, _, hp, _ => by cases hp
  | .pick _ _ _, _, _, _, hp, _ => by cases hp
  | .getd _ _ _ _, _, _, _, hp, _ => by cases hp
  | .pickV _ _, _, _, _, hp, _ => by cases hp
  | .rngL _, _, _, _, hp, _ => by cases hp
  | .inG _ _ _, _, _, _, hp, _ => by cases hp
  | .pickG _ _, _, _, _, hp, _ => by cases hp
  | .sset _, _, _, _, hp, _ => by cases hp
  | .attr _ _, _, _, _, hp, _ => by cases hp
  | .callO _ _ _, _, _, _, hp, _ => by cases hp
  | .callV _ _, _, _, _, hp, _ => by cases hp
  | .pickO _ _, _, _, _, hp, _ => by cases hp
theorem sndAs : ∀ (ps : PXs) (X : Cx) (es : List Expr), Cok T n X → chkAs T X.N ps X.env.scope es = true → PA X es (tAO X.K (flA ps) (evEs T.G (T.run n) ps))
  | .nil, X, es, C, h => by
    have ee : evEs T.G (T.run n) .nil = fun _ => some [] := by funext ρ; rw [evEs]
    unfold chkAs at h
    split at h
    · rw [ee]; exact po_nil
    · cases h
  | .cons p ps, X, es, C, h => by
    have ee : evEs T.G (T.run n) (.cons p ps) = fun ρ => (ev T n p ρ).bind fun d => (evEs T.G (T.run n) ps ρ).map (d :: ·) := by funext ρ; rw [evEs]
    cases es with
    | nil => exact absurd h (by rw [chkAs_nil]; simp)
    | cons e es =>
      have hp := chkAs_plain (.cons p ps) h
      rw [List.all_cons, Bool.and_eq_true] at hp
      cases hob : isOb p with
      | true =>
        obtain ⟨h1, h2, _⟩ := chkAs_head p ps hob h
        have hk : flA (.cons p ps) = true :: flA ps := by rw [flA, hob]
        rw [ee, hk]
        exact po_consO (sndOb p X e C hob h1) (sndAs ps X es C h2) (star_of hp.1 _ _)
      | false =>
        obtain ⟨h1, h2⟩ := chkAs_tail p ps hob h
        have hk : flA (.cons p ps) = false :: flA ps := by rw [flA, hob]
        rw [ee, hk]
        exact po_consF (sndE p X e C h1).f (sndAs ps X es C h2) (star_of hp.1 _ _)
theorem sndPs : ∀ (ps : PXs) (X : Cx) (pos : Pos) (ks : List Str) (keys : List (Option Expr)) (vals : List Expr), Cok T n X → dkB ks keys = true → keys.length = vals.length → chks T X.N ps X.env.scope vals = true → ∃ trs, PPs X pos keys vals trs ∧ PrOk X.K trs ks (evEs T.G (T.run n) ps)
  | .nil, X, pos, ks, keys, vals, C, h1, h2, h3 => by
    unfold chks at h3
    split at h3
    · have hk : keys = [] := List.eq_nil_of_length_eq_zero h2
      subst hk
      have hk : ks = [] := List.eq_nil_of_length_eq_zero (dkB_len h1).1.symm
      subst hk
      have ee : evEs T.G (T.run n) .nil = fun _ => some [] := by funext ρ; rw [evEs]
      exact ⟨[], pps_nil, by rw [ee]; exact pr_nil⟩
    · cases h3
  | .cons p ps, X, pos, ks, keys, vals, C, h1, h2, h3 => by
    unfold chks at h3
    split at h3
    · rename_i e es
      simp only [Bool.and_eq_true] at h3
      unfold dkB at h1
      split at h1
      · cases h2
      · rename_i k ks' y j kp es'
        simp only [Bool.and_eq_true, decide_eq_true_eq] at h1
        obtain ⟨rfl, h1⟩ := h1
        obtain ⟨trs, P, O⟩ := sndPs ps X pos ks' es' es C h1 (by simpa using h2) h3.2
        have ee : evEs T.G (T.run n) (.cons p ps) = fun ρ => (ev T n p ρ).bind fun d => (evEs T.G (T.run n) ps ρ).map (d :: ·) := by funext ρ; rw [evEs]
        exact ⟨_, pps_cons pe_str (sndE p X _ C h3.1).f P, by rw [ee]; exact pr_cons O⟩
      · cases h1
    · cases h3
theorem sndEs : ∀ (ps : PXs) (X : Cx) (es : List Expr), Cok T n X → chks T X.N ps X.env.scope es = true → PA X es (tAs X.K (evEs T.G (T.run n) ps))
  | .nil, X, es, C, h => by
    have ee : evEs T.G (T.run n) .nil = fun _ => some [] := by funext ρ; rw [evEs]
    unfold chks at h
    split at h
    · rw [ee]; exact pa_nilF
    · cases h
  | .cons p ps, X, es, C, h => by
    have ee : evEs T.G (T.run n) (.cons p ps) = fun ρ => (ev T n p ρ).bind fun d => (evEs T.G (T.run n) ps ρ).map (d :: ·) := by funext ρ; rw [evEs]
    unfold chks at h
    split at h
    · simp only [Bool.and_eq_true] at h
      rw [ee]
      exact pa_consF (sndE p X _ C h.1).f (sndEs ps X _ C h.2) (star_of (chk_plain p h.1) _ _)
    · cases h
theorem sndI : ∀ (it : PIt) (b : Bool) (X : Cx) (tg e : Expr), Cok T n X → chkI T X.N it X.env.scope tg e = true → PI X tg e (tI X.K b (evI T.G (T.run n) b it))
  | .seq a, b, X, tg, e, C, h => by
    unfold chkI at h
    have S := sndE a X e C h
    cases b with
    | true =>
      have ee : evI T.G (T.run n) true (.seq a) = fun ρ => (bor a ρ (ev T n a ρ)).bind seqD := by funext ρ; rw [evI]; rfl
      rw [ee]; exact pi_seqB S.b
    | false =>
      have ee : evI T.G (T.run n) false (.seq a) = fun ρ => (ev T n a ρ).bind seqD := by funext ρ; rw [evI]; rfl
      rw [ee]; exact pi_seqF S.f
  | .rng1 a, b, X, tg, e, C, h => by
    have ee : evI T.G (T.run n) b (.rng1 a) = fun ρ => (ev T n a ρ).bind fun x => (intOf x).bind fun n => if rngOk n then some (rgD n) else none := by funext ρ; rw [evI]
    unfold chkI at h
    split at h
    · simp only [Bool.and_eq_true, decide_eq_true_eq] at h
      obtain ⟨⟨rfl, h2⟩, h3⟩ := h
      rw [ee]
      exact pi_rng1 (gl_of h2) (C.blt "range" (by unfold bNames; simp)) (sndE a X _ C h3).f (fun es => star_of (chk_plain a h3) es _)
    · cases h
  | .rng2 a c, b, X, tg, e, C, h => by
    have ee : evI T.G (T.run n) b (.rng2 a c) = fun ρ => (ev T n a ρ).bind fun x => (ev T n c ρ).bind fun y => (intOf x).bind fun n => (intOf y).bind fun m => if rngOk n && rngOk m && rngOk (m - n) then some (rg2 n m) else none := by funext ρ; rw [evI]
    unfold chkI at h
    split at h
    · simp only [Bool.and_eq_true, decide_eq_true_eq] at h
      obtain ⟨⟨⟨rfl, h2⟩, h3⟩, h4⟩ := h
      rw [ee]
      exact pi_rng2 (gl_of h2) (C.blt "range" (by unfold bNames; simp)) (sndE a X _ C h3).f (sndE c X _ C h4).f (fun es => star_of (chk_plain a h3) es _) (fun es => star_of (chk_plain c h4) es _)
    · cases h
  | .enum a, b, X, tg, e, C, h => by
    unfold chkI at h
    split at h
    · simp only [Bool.and_eq_true, decide_eq_true_eq] at h
      obtain ⟨⟨rfl, h2⟩, h3⟩ := h
      cases b with
      | true =>
        have ee : evI T.G (T.run n) true (.enum a) = fun ρ => (bor a ρ (ev T n a ρ)).bind fun x => (seqD x).map (enumD 0) := by funext ρ; rw [evI]; rfl
        rw [ee]
        exact pi_enumB (gl_of h2) (C.blt "enumerate" (by unfold bNames; simp)) (sndE a X _ C h3).b (by rw [star_of (chk_plain a h3)]; rfl)
      | false =>
        have ee : evI T.G (T.run n) false (.enum a) = fun ρ => (ev T n a ρ).bind fun x => (seqD x).map (enumD 0) := by funext ρ; rw [evI]; rfl
        rw [ee]
        exact pi_enumF (gl_of h2) (C.blt "enumerate" (by unfold bNames; simp)) (sndE a X _ C h3).f (by rw [star_of (chk_plain a h3)]; rfl)
    · cases h
  | .zip a c, b, X, tg, e, C, h => by
    have ee : evI T.G (T.run n) b (.zip a c) = fun ρ => (ev T n a ρ).bind fun x => (ev T n c ρ).bind fun y => zipDD x y := by funext ρ; rw [evI]
    unfold chkI at h
    split at h
    · simp only [Bool.and_eq_true, decide_eq_true_eq] at h
      obtain ⟨⟨⟨rfl, h2⟩, h3⟩, h4⟩ := h
      rw [ee]
      exact pi_zipF (gl_of h2) (C.blt "zip" (by unfold bNames; simp)) (sndE a X _ C h3).f (sndE c X _ C h4).f (fun es => star_of (chk_plain a h3) es _) (fun es => star_of (chk_plain c h4) es _)
    · cases h
end
end Ev

/-! EvI: the look is sound for statements and defs. -/
namespace Ev
variable [Memo]
open PySem PySem.Spec PyProof.Rows L2
section
variable (T : Tab) (N : List Str)
def isTupE : Expr → Bool
  | .Tuple _ _ _ => true
  | _ => false
/-- lambda _law_k: .. -/
def lamArgs : Arguments → Bool
  | ⟨[], [⟨x, _, _⟩], none, [], [], none, []⟩ => decide (x = "_law_k")
  | _ => false
def lamB (sc scope : Scope) (fr : List Str) (js : List Nat) (params : Arguments) : Bool :=
  lamArgs params && NdefX.nscB ("_law_k" :: fr) ["_law_k"] fr scope && NdefX.ndefB sc scope fr && decide (js.map (fun j => N[j]?) = fr.map some)
/-- sorted(range(a), key=lambda _law_k: b) -/
def chkK (a : PX) (js : List Nat) (b : PX) (sc : Scope) (ln : List Str) (v : Expr) : Bool := match v, ln with
  | .Call (.Name y _) [.Call (.Name z _) [l] [] _] [⟨some w, .Lambda params body scope _, _⟩] _, q :: fr => decide (y = "sorted") && decide (z = "range") && decide (w = "key") && decide (q = "_law_k") && glB sc y && glB sc z && chk T N a sc l && lamB N sc scope fr js params && chk T ("_law_k" :: fr) b scope body
  | _, _ => false
def allV : PXs → Bool
  | .nil => true
  | .cons (.var _) es => allV es
  | .cons _ _ => false
/-- if .. not in self.nm: self.nm[..] = c / return self.nm[..] -/
def memoB (k f : Nat) (es : PXs) (sc : Scope) (st : List Stmt) : Bool := match st, T.me k with
  | [.If (.Compare (.Tuple n1 _ _) [.NotIn] [.Attribute (.Name s1 _) a1 _] _) [.Assign [.Subscript (.Attribute (.Name s2 _) a2 _) (.Tuple n2 _ _) _] c _] [] _, .Return (some (.Subscript (.Attribute (.Name s3 _) a3 _) (.Tuple n3 _ _) _)) _], some (nm, g) =>
    decide (g = f) && decide (N[0]? = some s1) && visB sc s1 && !dbgB s1 && decide (s2 = s1) && decide (s3 = s1) && decide (a1 = nm) && decide (a2 = nm) && decide (a3 = nm) && chks T N es sc n1 && chks T N es sc n2 && chks T N es sc n3 && chk T N (.call f (.cons (.attr 0 0) es)) sc c && allV es && !isLc c
  | _, _ => false
def memoP (sc : Scope) (st : List Stmt) : QS → QSs → Bool
  | .memo k f es, .nil => memoB T N k f es sc st
  | _, _ => false
/-- self.m(..), which changes what is put together -/
def mcB (f : Nat) (es : PXs) (sc : Scope) (e : Expr) : Bool := match e, T.fn f with
  | .Call (.Attribute (.Name s _) m apos) l [] pos, some F => decide (m = F.name) && decide (N[0]? = some s) && visB sc s && !dbgB s && (apos.endLine == pos.line) && !srtSs F.body && T.mt f && decide (F.kd = .mut) && decide (l.length < 20) && chks T N es sc l && T.dk
  | _, _ => false
mutual
def chkS : QS → Scope → Stmt → Bool
  | .set _ i e, sc, st => match st with
    | .Assign [.Name x _] v _ => decide (N[i]? = some x) && locB sc x && chk T N e sc v
    | _ => false
  | .setO _ i e, sc, st => match st with
    | .Assign [.Name x _] v _ => decide (N[i]? = some x) && locB sc x && chk T N e sc v && isNew e
    | _ => false
  | .setT _ is e, sc, st => match st with
    | .Assign [.Tuple ts _ _] v _ => tgBs N sc (fun _ => true) is ts && chk T N e sc v && !isTupE v && !isLc v
    | _ => false
  | .setD _ i ks es, sc, st => match st with
    | .Assign [.Name x _] (.Dict keys vals _) _ => decide (N[i]? = some x) && locB sc x && dkB ks keys && dkOk ks && decide (keys.length = vals.length) && chks T N es sc vals
    | _ => false
  | .app _ i e, sc, st => match st with
    | .Expr (.Call (.Attribute (.Name x _) m apos) [a] [] pos) _ => decide (m = "append") && decide (N[i]? = some x) && visB sc x && !dbgB x && (apos.endLine == pos.line) && chk T N e sc a
    | _ => false
  | .ext _ i e, sc, st => match st with
    | .Expr (.Call (.Attribute (.Name x _) m apos) [a] [] pos) _ => decide (m = "extend") && decide (N[i]? = some x) && visB sc x && !dbgB x && (apos.endLine == pos.line) && chk T N e sc a
    | _ => false
  | .iff _ c a b, sc, st => match st with
    | .If t l r _ => chk T N c sc t && chkSs a sc l && chkSs b sc r
    | _ => false
  | .for _ tg it b, sc, st => match st with
    | .For t i l [] _ => chkI T N it sc t i && chkT N sc (fun _ => true) tg t && chkSs b sc l
    | _ => false
  | .ret _ e, sc, st => match st with
    | .Return (some v) _ => chk T N e sc v
    | _ => false
  | .srt _ i tup a js ln b, sc, st => match st with
    | .Assign [.Name x _] v _ => decide (N[i]? = some x) && locB sc x && (match tup, v with
      | false, v => chkK T N a js b sc ln v
      | true, .Call (.Name y _) [v] [] _ => decide (y = "tuple") && glB sc y && chkK T N a js b sc ln v
      | _, _ => false)
    | _ => false
  | .obs _, _, _ => false
  | .mks, _, _ => false
  | .memo _ _ _, _, _ => false
  | .newD _ i, sc, st => match st with
    | .Assign [.Name x _] (.Dict [] [] _) _ => decide (N[i]? = some x) && locB sc x && T.dk
    | _ => false
  | .putD _ i k v, sc, st => match st with
    | .Assign [.Subscript (.Name x _) kx _] vx _ => decide (N[i]? = some x) && visB sc x && !dbgB x && chk T N k sc kx && chk T N v sc vx && !isLc vx && T.dk
    | _ => false
  | .putI _ i k v, sc, st => match st with
    | .Assign [.Subscript (.Name x _) kx _] vx _ => decide (N[i]? = some x) && visB sc x && !dbgB x && chk T N k sc kx && chk T N v sc vx && !isLc vx
    | _ => false
  | .retD i, sc, st => match st with
    | .Return (some (.Name x _)) _ => decide (N[i]? = some x) && visB sc x && !dbgB x
    | _ => false
  | .appT i e, sc, st => match st with
    | .Expr (.Call (.Attribute (.Attribute (.Name x _) f _) m apos) [a] [] pos) _ => decide (m = "append") && decide (f = "things") && decide (N[i]? = some x) && visB sc x && !dbgB x && (apos.endLine == pos.line) && chk T N e sc a && T.dk
    | _ => false
  | .putL i k v, sc, st => match st with
    | .Assign [.Subscript (.Attribute (.Name x _) f _) kx _] vx _ => decide (f = "put_links") && decide (N[i]? = some x) && visB sc x && !dbgB x && chk T N k sc kx && chk T N v sc vx && !isLc vx && T.dk
    | _ => false
  | .retM e, sc, st => match st with
    | .Return (some v) _ => chk T N e sc v
    | _ => false
  | .callM x f es, sc, st => match x, st with
    | none, .Expr e _ => mcB T N f es sc e
    | some i, .Assign [.Name y _] e _ => decide (N[i]? = some y) && locB sc y && mcB T N f es sc e
    | _, _ => false
  | .whl c b, sc, st => match st with
    | .While t body [] _ => chk T N c sc t && chkSs b sc body
    | _ => false
  | .setN _ i p, sc, st => match st with
    | .Assign [.Name x _] v _ => decide (N[i]? = some x) && locB sc x && isOb p && !isLc v && chkAs T N (.cons p .nil) sc [v]
    | _ => false
  | .retN, _, st => match st with
    | .Return none _ => true
    | _ => false
  | .pass, _, st => match st with
    | .Pass _ => true
    | .Expr (.Constant (.str _) _ _) _ => true
    | _ => false
def chkSs : QSs → Scope → List Stmt → Bool
  | .nil, _, st => match st with
    | [] => true
    | _ => false
  | .cons p ps, sc, st => memoP T N sc st p ps || (match st with
    | s :: r => chkS p sc s && chkSs ps sc r
    | _ => false)
end
end
/-- what is wanted behind a statement -/
def Fin (K : PySem.W.Frag) (wu : V) (H0 Hf0 Hf : Hp) (D : Ends) : Out → Prop
  | .nx ρ' => ∀ σ' H' Hf', SR K wu H0 Hf0 σ' H' Hf' ρ' → Same Hf Hf' → D.nx σ' H'
  | .rt d => ∀ v H' Hf', Ext H0 Hf0 H' Hf' → Rp K Hf' v d → D.rt v H'
  | .ro d => ∀ v H' Hf', Ext H0 Hf0 H' Hf' → Memo.ob K Hf' v d → D.rt v H'
  | .rm d j sm ts kvs => ∀ v H' Hf', Ext H0 Hf0 H' Hf' → Same Hf Hf' → MkAt K H' Hf' wu j sm ts kvs → Young H0 H' wu j sm ts kvs → Rp K Hf' v d → D.rt v H'
def tS (K : PySem.W.Frag) (f : Rho → Option Out) : TS := fun D σ H => ∃ wu H0 Hf0 Hf ρ o, SR K wu H0 Hf0 σ H Hf ρ ∧ f ρ = some o ∧ Fin K wu H0 Hf0 Hf D o
theorem Fin.mono {K : PySem.W.Frag} {wu : V} {H0 Hf0 Hf Hf' : Hp} {D : Ends} {o : Out} (h : Fin K wu H0 Hf0 Hf D o) (s : Same Hf Hf') : Fin K wu H0 Hf0 Hf' D o := by
  cases o with
  | nx ρ' => exact fun σ' H' Hf2 r s2 => h σ' H' Hf2 r (s.trans s2)
  | rt d => exact h
  | ro d => exact h
  | rm d j sm ts kvs => exact fun v H' Hf2 e s2 => h v H' Hf2 e (s.trans s2)
/-- only what comes behind counts -/
theorem Fin.ends {K : PySem.W.Frag} {wu : V} {H0 Hf0 Hf : Hp} {D D' : Ends} {o : Out} (h : Fin K wu H0 Hf0 Hf D o) (hr : D'.rt = D.rt) (hn : ∀ ρ, o ≠ .nx ρ) : Fin K wu H0 Hf0 Hf D' o := by
  cases o with
  | nx ρ' => exact absurd rfl (hn _)
  | rt d => exact fun v H' Hf' e r => by rw [hr]; exact h v H' Hf' e r
  | ro d => exact fun v H' Hf' e r => by rw [hr]; exact h v H' Hf' e r
  | rm d j sm ts kvs => exact fun v H' Hf' e s m y r => by rw [hr]; exact h v H' Hf' e s m y r
section
variable {T : Tab} {n : Nat} {X : Cx}
theorem PSimp {st : Stmt} {t t' : TS} (h : PS X st t) (i : ∀ D σ H, t' D σ H → t D σ H) : PS X st t' := ⟨fun pins s σ H D I q => h.run pins s σ H D I (i _ _ _ q)⟩
theorem PSsimp {st : List Stmt} {t t' : TS} (h : PSs X st t) (i : ∀ D σ H, t' D σ H → t D σ H) : PSs X st t' := ⟨fun pins s σ H D I q => h.run pins s σ H D I (i _ _ _ q)⟩
theorem asg_of {o i : Expr} (h : plainE i = true) (pos : Pos) (env : Env) : ∀ v, assign (.Subscript o i pos) env v = (do
      let ov ← holding [v] (eval o env)
      let iv ← holding [v, ov] (eval i env)
      standAt pos
      holding [v, ov, iv] (setItem ov iv v)
      release [v, ov, iv] []) := by
  intro v
  cases i <;> first | rfl | exact nomatch h
theorem sw_no {v : Expr} (h : isLc v = false) (hp : plainE v = true) (o : Option Expr) (l : Nat) (env : Env) : swapsWith v o l env = pure false := by
  cases v <;> first | rfl | (cases h; done) | (cases hp; done)
theorem chk_lc {p : PX} {N : List Str} {sc : Scope} {el : Expr} {gs : List Comprehension} {scope : Scope} {pos : Pos} (h : chk T N p sc (.ListComp el gs scope pos) = true) : ∃ t i ifs, gs = [⟨t, i, ifs, 0⟩] := by
  cases p <;> try (simp [chk] at h; done)
  unfold chk at h
  split at h
  · rename_i he; cases he; exact ⟨_, _, _, rfl⟩
  · cases h
theorem sw_eq {el : Expr} {gs : List Comprehension} {scope : Scope} {pos py : Pos} {y : Str} {l : Nat} {env : Env} (hk : env.scope.kind = .function) (hs : ¬ (env.scope.names.lookup y = some .local ∧ (py.line == pos.line) = true ∧ (scope.names.any fun (n, k) => n == y && (k == .local || k == .cell)) = false)) :
    swapsWith (.ListComp el gs scope pos) (some (.Name y py)) l env = pure false := by
  have hb : env.blockKind = .function := by unfold Env.blockKind; rw [hk]; rfl
  have hkk : env.kindOf y = env.scope.names.lookup y := rfl
  unfold swapsWith
  simp only [hb, hkk, Expr.pos]
  by_cases h1 : env.scope.names.lookup y = some .local
  · by_cases h2 : (py.line == pos.line) = true
    · have h3 : (scope.names.any fun (n, k) => n == y && (k == .local || k == .cell)) = true := by
        cases q : (scope.names.any fun (n, k) => n == y && (k == .local || k == .cell)) with
        | true => rfl
        | false => exact absurd ⟨h1, h2, q⟩ hs
      rw [h3]
      simp
    · simp [Bool.eq_false_iff.mpr h2]
  · have h4 : (env.scope.names.lookup y == some NameKind.local) = false := by
      cases q : env.scope.names.lookup y with
      | none => rfl
      | some k => cases k <;> first | rfl | exact absurd q h1
    simp [h4]
/-- name = value -/
theorem set_any {p : PX} {x : Str} {py pos : Pos} {v : Expr} {i : Nat} {t : TE} (C : Cok T n X) (hf : X.fn = fun _ => true) (hi : X.N[i]? = some x) (hx : locB X.env.scope x = true) (hc : chk T X.N p X.env.scope v = true) (S : Snd T n X p v) (ht : PE X v t)
    (hl : ∀ σ H Q, isLc v = true → t σ H Q → tO X.K (ev T n p) σ H Q) : PS X (.Assign [.Name x py] v pos) (tAsg t (gName i)) := by
  by_cases hv : isLc v = true
  · cases v with
    | ListComp el gs scope lp =>
      obtain ⟨t', i', ifs, rfl⟩ := chk_lc hc
      obtain ⟨own, wi, g, tt, te, a1, a2, a3, a4, a5, a6, a7⟩ := S.l _ _ _ _ _ _ rfl
      by_cases hs : X.env.scope.names.lookup x = some .local ∧ (py.line == lp.line) = true ∧ (scope.names.any fun (n, k) => n == x && (k == .local || k == .cell)) = false
      · refine PSimp (ps_setLc (i := i) C.calm C.nd hi hs.1 (sw_true C.kind hs.1 hs.2.1 hs.2.2) a1 a2 a3 a4 a5 a6) fun D σ H q => ?_
        exact a7 _ _ _ (hl _ _ _ rfl q)
      · exact ps_set (i := i) C.nd hi (loc_of hx) ht (sw_eq C.kind hs) (.inl (by rw [hf]))
    | _ => cases hv
  · exact ps_set (i := i) C.nd hi (loc_of hx) ht (sw_no (Bool.eq_false_iff.mpr hv) (chk_plain p hc) _ _ _) (.inl (by rw [hf]))
theorem lc_list {p : PX} {v : Expr} {N : List Str} {sc : Scope} (h : chk T N p sc v = true) (hv : isLc v = true) : ∀ ρ d, ev T n p ρ = some d → ∃ ds, d = .list ds := by
  cases v with
  | ListComp el gs scope lp =>
    cases p <;> try (simp [chk] at h; done)
    intro ρ d hd
    rw [ev, evE] at hd
    obtain ⟨ds, h1, hd⟩ := Option.bind_eq_some_iff.mp hd
    obtain ⟨ds', h1, rfl⟩ := Option.map_eq_some_iff.mp hd
    exact ⟨ds', rfl⟩
  | _ => cases hv
end
section
variable {T : Tab} {n : Nat} {X : Cx}
abbrev evs (T : Tab) (n : Nat) (p : QS) : Rho → Option Out := evS T.G (T.run n) p
abbrev evss (T : Tab) (n : Nat) (p : QSs) : Rho → Option Out := evSs T.G (T.run n) p
theorem for_in {fi : Rho → Option (List PyData)} {tg : Tg} {fb : Rho → Option Out} {fz : List Nat} {D : Ends} {σ : L2.St} {H : Hp} {K : PySem.W.Frag}
    (h : tS K (fun ρ => (fi (frzs fz ρ)).bind fun ds => loopR (fun d ρ1 => (asg tg d ρ1).bind fun ρ2 => fb ρ2) ds (frzs fz ρ)) D σ H) : tFor (tI K false fi) (tgG K tg) (tS K fb) D σ H := by
  obtain ⟨wu, H0, Hf0, Hf, ρ, o, sr, hd, fin⟩ := h
  obtain ⟨ds, h1, hd⟩ := Option.bind_eq_some_iff.mp hd
  obtain ⟨Hfz, srz, sz⟩ := sr.frzs fz
  have fin := fin.mono sz
  refine ⟨Hfz, _, ds, srz.er, h1, fun J H1 Hf1 e1 hz gi => ?_⟩
  have gi : GI K J ds Hf1 Hf1 := gi
  have sr1 := srz.ext' e1
  have fin := fin.mono e1.fr
  let Pv : Nat → L2.St → Hp → Prop := fun i σ2 H2 => ∃ Hf2 ρ2, SR K wu H0 Hf0 σ2 H2 Hf2 ρ2 ∧ Same Hf1 Hf2 ∧ loopR (fun d ρ1 => (asg tg d ρ1).bind fun ρ2 => fb ρ2) (ds.drop i) ρ2 = some o
  refine ⟨fun i m σ2 H2 => m = ds.length - i ∧ i ≤ ds.length ∧ Pv i σ2 H2, ⟨ds.length, by simp, Nat.zero_le _, Hf1, _, sr1, Same.refl _, by simpa using hd⟩, ?_⟩
  rintro i m σ2 H2 ⟨rfl, hi, Hf2, ρ2, sr2, s2, hr⟩
  obtain ⟨g1, g2⟩ := gi i H2 Hf2 s2 sr2.er.sub (Same.hs (Same.trans s2 sr2.er.sub.same))
  by_cases hlt : i < ds.length
  · refine .inr ?_
    have hx : ds[i]? = some ds[i] := List.getElem?_eq_getElem hlt
    obtain ⟨go, yld⟩ := g2 _ hx
    rw [List.drop_eq_getElem_cons hlt, loopR] at hr
    obtain ⟨o1, q1, q2⟩ := Option.bind_eq_some_iff.mp hr
    obtain ⟨ρ3, q3, q4⟩ := Option.bind_eq_some_iff.mp q1
    refine ⟨go, Pv (i + 1), fun σ' H' p' => ⟨ds.length - (i + 1), by omega, rfl, hlt, p'⟩, fun x H3 y3 => ?_⟩
    obtain ⟨Hf3, e3, rx⟩ := yld x H3 y3
    have s23 : Same Hf1 Hf3 := s2.trans e3.fr
    refine tgG_ok (P := fun σ ρ => SR K wu H0 Hf0 σ H3 Hf3 ρ) sets_sr e3.sub rx (sr2.ext' e3) q3 fun σ4 sr4 u4 => ⟨wu, H0, Hf0, Hf3, ρ3, o1, sr4, q4, ?_⟩
    cases o1 with
    | nx ρ5 => exact fun σ5 H5 Hf5 sr5 s5 => ⟨Hf5, ρ5, sr5, s23.trans s5, q2⟩
    | rt v => cases q2; exact fin.mono s23
    | ro v => cases q2; exact fin.mono s23
    | rm v j sm ts kvs => cases q2; exact fin.mono s23
  · have ei : i = ds.length := by omega
    subst ei
    rw [List.drop_length] at hr
    cases hr
    exact .inl ⟨g1 rfl, fin σ2 H2 Hf2 sr2 s2⟩
/-- while .. -/
theorem whl_in {fc : Rho → Option PyData} {fb : Rho → Option Out} {m : Nat} {D : Ends} {σ : L2.St} {H : Hp} {K : PySem.W.Frag} (h : tS K (whlR (fun ρ1 => boolOf (fc ρ1)) fb m) D σ H) : tWhile (tT K fc) (tS K fb) D σ H := by
  obtain ⟨wu, H0, Hf0, Hf, ρ, o, sr, hd, fin⟩ := h
  refine ⟨fun m σ2 H2 => ∃ Hf2 ρ2, SR K wu H0 Hf0 σ2 H2 Hf2 ρ2 ∧ Same Hf Hf2 ∧ whlR (fun ρ1 => boolOf (fc ρ1)) fb m ρ2 = some o, ⟨m, Hf, ρ, sr, Same.refl _, hd⟩, ?_⟩
  rintro m σ2 H2 ⟨Hf2, ρ2, sr2, s2, hw⟩
  cases m with
  | zero => cases hw
  | succ m =>
    rw [whlR] at hw
    obtain ⟨b, q1, hw⟩ := Option.bind_eq_some_iff.mp hw
    refine ⟨Hf2, ρ2, b, sr2.er, q1, fun H3 Hf3 e3 => ?_⟩
    have sr3 := sr2.ext' e3
    have s23 : Same Hf Hf3 := s2.trans e3.fr
    cases b with
    | true =>
      rw [if_pos rfl] at hw
      obtain ⟨o1, q2, q3⟩ := Option.bind_eq_some_iff.mp hw
      refine iteT ⟨fun σ' H' => ∃ Hf4 ρ4, SR K wu H0 Hf0 σ' H' Hf4 ρ4 ∧ Same Hf Hf4 ∧ whlR (fun ρ1 => boolOf (fc ρ1)) fb m ρ4 = some o, fun σ' H' p => ⟨m, Nat.lt_succ_self _, p⟩, wu, H0, Hf0, Hf3, ρ2, o1, sr3, q2, ?_⟩
      cases o1 with
      | nx ρ5 => exact fun σ5 H5 Hf5 sr5 s5 => ⟨Hf5, ρ5, sr5, s23.trans s5, q3⟩
      | rt v => cases q3; exact fin.mono s23
      | ro v => cases q3; exact fin.mono s23
      | rm v j sm ts kvs => cases q3; exact fin.mono s23
    | false =>
      cases hw
      exact iteF (fin σ2 H3 Hf3 sr3 s23)
/-- behind a method that changes what is put together -/
theorem SR.call {K : PySem.W.Frag} {wu : V} {H0 Hf0 H Hf H' Hf' : Hp} {σ : L2.St} {r : Rho} {j sm j' sm' : PyData} {ts ts' : List PyData} {kvs kvs' : List (PyData × PyData)} (sr : SR K wu H0 Hf0 σ H Hf (.mk j sm ts kvs :: r)) (c : r.all Sl.tame = true) (g1 : σ[0]? = some (some wu))
    (e : Ext H0 Hf0 H' Hf') (s : Same Hf Hf') (m : MkAt K H' Hf' wu j' sm' ts' kvs') (y : Young H0 H' wu j' sm' ts' kvs') : SR K wu H0 Hf0 σ H' Hf' (.mk j' sm' ts' kvs' :: r) := by
  have tm : ∀ (i : Nat) s, r[i]? = some s → s.tame = true := fun i s h => List.all_eq_true.mp c s (List.mem_of_getElem? h)
  have no : ∀ (s : Sl) (v : V) (p : Addr), s.tame = true → ¬ Owns H' v p s := fun s v p h o => by
    cases s <;> first | exact o.elim | cases h
  have nm : ∀ (s : Sl), s.tame = true → ∀ j sm ts kvs, s ≠ .mk j sm ts kvs := fun s h j sm ts kvs q => by subst q; cases h
  refine ⟨⟨by simpa using sr.er.len, e.sub, fun i s' hi hn => ?_, fun i k si sk vi vk p hi hk wi wk oi ok => ?_⟩, e, fun i s' v p hi wi o => ?_, fun i a b c' d v hi wi => ?_⟩
  · cases i with
    | zero =>
      cases hi
      exact ⟨wu, g1, m⟩
    | succ i =>
      have hi : r[i]? = some s' := by simpa using hi
      obtain ⟨v, w1, w2⟩ := sr.er.at_ (i + 1) s' (by simpa using hi) hn
      refine ⟨v, w1, ?_⟩
      have := tm i s' hi
      cases s' with
      | un => exact absurd rfl hn
      | val d => exact Rp.mono s _ _ w2
      | dic ks ds => exact DicAt.mono w2 s
      | ob d => exact Memo.ob_mono s w2
      | _ => cases this
  · cases i with
    | zero =>
      cases k with
      | zero => rfl
      | succ k => exact absurd ok (no _ _ _ (tm k sk (by simpa using hk)))
    | succ i => exact absurd oi (no _ _ _ (tm i si (by simpa using hi)))
  · cases i with
    | zero =>
      cases hi
      rw [g1] at wi
      cases wi
      exact y p o
    | succ i => exact absurd o (no _ _ _ (tm i s' (by simpa using hi)))
  · cases i with
    | zero => rw [g1] at wi; cases wi; rfl
    | succ i => exact absurd rfl (nm _ (tm i _ (by simpa using hi)) _ _ _ _)
theorem callM_in {K : PySem.W.Frag} {run : List PyData → Option PyData} {fs : Rho → Option (List PyData)} {x : Option Nat} {nm : Str} {E : XK} {wu : V} {H0 Hf0 H Hf : Hp} {σ : L2.St} {ρ : Rho} {o : Out} {Q : VK} (hl : ∀ vj vs p q, (mkFs vj vs p q).lookup nm = none) (sr : SR K wu H0 Hf0 σ H Hf ρ)
    (hd : ((selfM ρ).bind fun m => (fs ρ).bind fun ds => (run (m :: ds)).bind (resM x ρ)) = some o)
    (k : ∀ v d j sm ts kvs H' Hf', o = .nx (setX x d (ρ.set 0 (.mk j sm ts kvs))) → SR K wu H0 Hf0 σ H' Hf' (ρ.set 0 (.mk j sm ts kvs)) → Same Hf Hf' → Rp K Hf' v d → Q v H') :
    tMeth Memo.cm nm (spM K run) [] E (tVar 0) (tAs K fs) σ H Q := by
  obtain ⟨m, h1, hd1⟩ := Option.bind_eq_some_iff.mp hd
  obtain ⟨ds, h2, hd2⟩ := Option.bind_eq_some_iff.mp hd1
  obtain ⟨res, h3, hd3⟩ := Option.bind_eq_some_iff.mp hd2
  clear hd hd1 hd2
  have hd := hd3
  clear hd3
  unfold selfM at h1
  split at h1
  · rename_i j sm ts kvs r
    obtain ⟨c, h1⟩ := ite_some h1
    subst h1
    unfold resM at hd
    split at hd
    · rename_i d j' sm' ts' kvs'
      cases hd
      obtain ⟨v, g1, mk⟩ := sr.er.mk_ 0 rfl
      have ev := sr.me 0 _ _ _ _ _ rfl g1
      subst ev
      obtain ⟨y, dx, vj, us, p, q, tvs, rfl, a1, a2⟩ := id mk
      refine ⟨.ref y, g1, y, dx, _, rfl, a1, hl _ _ _ _, Hf, _, ds, sr.er, h2, fun vs H1 Hf1 e1 r1 => ?_⟩
      show spM K run (.ref y :: (vs ++ [])) H1 Q E
      rw [List.append_nil]
      have sr1 := sr.ext' e1
      exact ⟨H0, Hf0, Hf1, .ref y, vs, j, sm, ts, kvs, ds, d, j', sm', ts', kvs', rfl, sr1.ext, mk.ext e1, fun p o => sr1.ny 0 _ _ p rfl g1 o, r1, h3, fun v H2 Hf2 e2 s2 m2 y2 rv => k v d j' sm' ts' kvs' H2 Hf2 rfl (sr1.call c g1 e2 s2 m2 y2) (e1.fr.trans s2) rv⟩
    · cases hd
  · cases h1
theorem mcall_pe {T : Tab} {n : Nat} {X : Cx} {f : Nat} {es : PXs} {e : Expr} (C : Cok T n X) (h : mcB T X.N f es X.env.scope e = true) :
    ∃ F : FDef, PE X e (tMeth Memo.cm F.name (spM X.K (T.run n f)) [] (fun _ _ _ => False) (tVar 0) (tAs X.K (evEs T.G (T.run n) es))) ∧ isLc e = false ∧ plainE e = true ∧ ∀ vj vs p q, (mkFs vj vs p q).lookup F.name = none := by
  unfold mcB at h
  split at h
  · rename_i s sp m apos l pos F hF
    simp only [Bool.and_eq_true, decide_eq_true_eq] at h
    obtain ⟨⟨⟨⟨⟨⟨⟨⟨⟨⟨rfl, h1⟩, h2⟩, h3⟩, h4⟩, h5⟩, h6⟩, h7⟩, h8⟩, h9⟩, h10⟩ := h
    have mc := C.ob.mc (C.ob.dk h10)
    obtain ⟨a, fd, k1, k2, k3, k4⟩ := C.ob.mu f F hF h6 h7 (by simpa using h5)
    have hv := pe_var (X := X) (pos := sp) h1 (vis_of h2) (dbg_of h3).1 (dbg_of h3).2
    refine ⟨F, ?_, rfl, rfl, k4⟩
    cases l with
    | nil =>
      have e0 : es = .nil := by
        cases es with
        | nil => rfl
        | cons _ _ => unfold chks at h9; cases h9
      subst e0
      refine PEimp (pe_meth0 (pl := plainOf (.Name s sp) X.env) hv mc.cls k1 k3 C.room k2 .nil pass0 (ev_meth rfl rfl h4)) fun σ H Q q => ?_
      obtain ⟨v, g1, x, dx, fs, g2, g3, g4, Hf, ρ, ds, er, g5, k⟩ := q
      rw [evEs] at g5
      cases g5
      exact ⟨v, g1, x, dx, fs, g2, g3, g4, k [] H Hf (Ext.refl er.sub) .nil⟩
    | cons b l =>
      have A := sndEs es X _ C h9
      have ap := chks_plain es h9
      rw [List.all_cons, Bool.and_eq_true] at ap
      have hf : methodCallForm ((b :: l).length + ([] : List Keyword).length) (backTo pos (starEach (b :: l) X.env)) (backToKw pos (keywordEach [] X.env)) = true := by
        have h1 := (all_star pos X.env (b :: l) (by rw [List.all_cons, ap.1, ap.2]; rfl)).2
        show ((backTo pos (starEach (b :: l) X.env)).all (fun x => !x.1) && true && decide ((b :: l).length + 0 + 0 < 30)) = true
        rw [h1, decide_eq_true (by omega)]
        rfl
      exact pe_meth (pl := plainOf (.Name s sp) X.env) hv mc.cls k1 k3 C.room k2 .nil pass0 A (star_of ap.1 _ _) (all_star _ _ l ap.2).1 (ev_meth rfl hf h4)
  · cases h
/-- where a key function may be made -/
structure SrtOk (T : Tab) (n : Nat) (X : Cx) where
  lam : LamOk X
  hr : Room (T.c * n + 3) X.A
theorem lam_args {params : Arguments} (h : lamArgs params = true) : (∀ env, defaultsOf params env = ([], [])) ∧ ∀ (qual : Str) (body : Expr) (scope : Scope) (cl : List (Str × Addr)) (pm cv ctv u : Value), bindArgs (PySem.W.kla_fn "<lambda>" qual params body scope cl pm cv ctv) ⟨[u], []⟩ = pure [(("_law_k" : Str), u)] := by
  unfold lamArgs at h
  split at h
  · have := of_decide_eq_true h
    subst this
    exact ⟨fun _ => rfl, fun _ _ _ _ _ _ _ _ => rfl⟩
  · cases h
theorem snd_srt {a b : PX} {js : List Nat} {ln : List Str} {v : Expr} (C : Cok T n X) (W : SrtOk T n X) (h : chkK T X.N a js b X.env.scope ln v = true) : PE X v (tF X.K fun ρ => srtE false (ev T n a ρ) (capsR js ρ) (ev T n b)) ∧ isLc v = false ∧ plainE v = true := by
  unfold chkK at h
  split at h
  · rename_i y yp z zp l p3 w params body scope lpos kpos pos q fr
    simp only [Bool.and_eq_true, decide_eq_true_eq] at h
    obtain ⟨⟨⟨⟨⟨⟨⟨⟨rfl, rfl⟩, rfl⟩, rfl⟩, h1⟩, h2⟩, h3⟩, h4⟩, h5⟩ := h
    simp only [lamB, Bool.and_eq_true, decide_eq_true_eq] at h4
    obtain ⟨⟨⟨h6, h7⟩, h8⟩, h9⟩ := h4
    obtain ⟨d1, d2⟩ := lam_args h6
    have S := NdefX.nscope_by h7
    have hr : Room (T.c * n + 1) X.A.in1.in1 := W.hr.in1.in1
    refine ⟨pf_srt C.calm W.lam ⟨S, NdefX.ndef_free h8, NdefX.ndef_fr h8, h9, fun _ _ _ _ _ _ => d2 _ _ _ _ _ _ _ _⟩ (d1 _) (gl_of h1) (C.blt "sorted" (by unfold bNames; simp)) (gl_of h2) (C.blt "range" (by unfold bNames; simp)) (sndE a X _ C h3).f (fun es => star_of (chk_plain a h3) es _) hr fun f c' s H hr' => ?_, rfl, rfl⟩
    have C' : Cok T n (lamX X "_law_k" fr params scope f c' s H) := ⟨S.nd, rfl, rfl, S.kind, hr', C.blt, C.glb, C.ob, C.fn⟩
    exact (sndE b _ _ C' h5).f
  · cases h
theorem srtE_tup {x : Option PyData} {cs : Option (List PyData)} {f : Rho → Option PyData} : srtE true x cs f = (srtE false x cs f).bind (blt .tuple) := by
  unfold srtE
  cases x with
  | none => rfl
  | some x =>
    show ((intOf x).bind _) = ((intOf x).bind _).bind _
    cases intOf x with
    | none => rfl
    | some m =>
      show (if rngOk m = true then _ else none) = (if rngOk m = true then _ else none : Option PyData).bind _
      cases rngOk m with
      | false => rfl
      | true =>
        show cs.bind _ = (cs.bind _).bind _
        cases cs with
        | none => rfl
        | some cs =>
          show Option.map _ (keysR _ _) = (Option.map _ (keysR _ _)).bind _
          cases keysR (fun d => f ((d :: cs).map .val)) (List.range m.toNat) <;> rfl
/-- parts that are at hand: the heap stays -/
def tAsP (K : PySem.W.Frag) (f : Rho → Option (List PyData)) : TA := fun σ H Q => ∃ Hf ρ ds, ER K σ H Hf ρ ∧ f ρ = some ds ∧ ∀ vs, RpAll K Hf vs ds → Q vs H
theorem sndVs {T : Tab} {n : Nat} : ∀ (ps : PXs) (X : Cx) (es : List Expr), allV ps = true → chks T X.N ps X.env.scope es = true → PA X es (tAsP X.K (evEs T.G (T.run n) ps))
  | .nil, X, es, _, h => by
    have ee : evEs T.G (T.run n) .nil = fun _ => some [] := by funext ρ; rw [evEs]
    unfold chks at h
    split at h
    · rw [ee]
      exact PAimp pa_nil fun σ H Q ⟨Hf, ρ, ds, er, h1, k⟩ => by cases h1; exact k [] .nil
    · cases h
  | .cons p ps, X, es, a, h => by
    cases p <;> first | (cases a; done) | skip
    rename_i i
    have ee : evEs T.G (T.run n) (.cons (.var i) ps) = fun ρ => (getV i ρ).bind fun d => (evEs T.G (T.run n) ps ρ).map (d :: ·) := by funext ρ; rw [evEs, evE]
    unfold chks at h
    split at h
    · simp only [Bool.and_eq_true] at h
      obtain ⟨h0, h⟩ := h
      unfold chk at h0
      split at h0
      · rename_i x pos
        simp only [Bool.and_eq_true, decide_eq_true_eq] at h0
        obtain ⟨⟨h1, h2⟩, h3⟩ := h0
        have hv := pe_var (X := X) (pos := pos) h1 (vis_of h2) (dbg_of h3).1 (dbg_of h3).2
        rw [ee]
        refine PAimp (pa_cons hv (sndVs (T := T) (n := n) ps X _ a h) rfl) fun σ H Q ⟨Hf, ρ, ds, er, q, k⟩ => ?_
        obtain ⟨d, q1, q⟩ := Option.bind_eq_some_iff.mp q
        obtain ⟨es', q2, rfl⟩ := Option.map_eq_some_iff.mp q
        have q3 : ρ[i]? = some (.val d) := by
          unfold getV at q1
          split at q1
          · rename_i z; cases q1; exact z
          · cases q1
        obtain ⟨v, g1, g2⟩ := er.val i d q3
        exact ⟨v, g1, Hf, ρ, es', er, q2, fun vs r => k (v :: vs) (.cons g2 r)⟩
      · cases h0
    · cases h
/-- the rule for what is remembered -/
def MeRule (T : Tab) (n : Nat) (X : Cx) (nm : Str) (f : Nat) : Prop := ∀ {s : Str} {n1 n2 n3 : List Expr} {c : Expr} {k1 k2 k3 : Nat} {p1 p2 p3 p4 p5 p6 p7 p8 p9 p10 p11 p12 p13 p14 p15 : Pos} {fs : Rho → Option (List PyData)},
  X.N[0]? = some s → visB X.env.scope s = true → (!dbgB s) = true → n1.all plainE = true → n2.all plainE = true → n3.all plainE = true → isLc c = false → PA X n1 (tAsP X.K fs) → PA X n2 (tAsP X.K fs) → PA X n3 (tAsP X.K fs) → plainE c = true → PE X c (tF X.K fun ρ => (attrR 0 0 ρ).bind fun r => (fs ρ).bind fun ds => T.run n f (r :: ds)) →
  PSs X [.If (.Compare (.Tuple n1 k1 p1) [.NotIn] [.Attribute (.Name s p2) nm p3] p4) [.Assign [.Subscript (.Attribute (.Name s p5) nm p6) (.Tuple n2 k2 p7) p8] c p9] [] p10, .Return (some (.Subscript (.Attribute (.Name s p11) nm p12) (.Tuple n3 k3 p13) p14)) p15]
    (tS X.K fun ρ => (attrR 0 0 ρ).bind fun r => (fs ρ).bind fun ds => if smallKey ds then (T.run n f (r :: ds)).map .rt else none)
structure StOk (T : Tab) (n : Nat) (X : Cx) (b : Bool) : Prop where
  srt : b = true → Nonempty (SrtOk T n X)
  me : ∀ k nm f, T.me k = some (nm, f) → MeRule T n X nm f
theorem StOk.sub {b c : Bool} (W : StOk T n X b) (h : c = true → b = true) : StOk T n X c := ⟨fun z => W.srt (h z), W.me⟩
mutual
theorem sndS : ∀ (p : QS) (X : Cx) (st : Stmt), Cok T n X → StOk T n X (srtS p) → X.fn = (fun _ => true) → chkS T X.N p X.env.scope st = true → PS X st (tS X.K (evs T n p))
  | .srt fz i tup a js ln b, X, st, C, W, hf, h => by
    have ee : evs T n (.srt fz i tup a js ln b) = fun ρ => (srtE tup (ev T n a (frzs fz ρ)) (capsR js (frzs fz ρ)) (ev T n b)).map fun d => .nx ((frzs fz ρ).set i (.val d)) := by funext ρ; rw [evs, evS]
    obtain ⟨W0⟩ := W.srt rfl
    unfold chkS at h
    split at h
    · simp only [Bool.and_eq_true, decide_eq_true_eq] at h
      obtain ⟨⟨h1, h2⟩, h3⟩ := h
      have fin : ∀ {x : Str} {py pos : Pos} {v : Expr}, X.N[i]? = some x → locB X.env.scope x = true → PE X v (tF X.K fun ρ => srtE tup (ev T n a ρ) (capsR js ρ) (ev T n b)) → isLc v = false → plainE v = true → PS X (.Assign [.Name x py] v pos) (tS X.K (evs T n (.srt fz i tup a js ln b))) := by
        intro x py pos v h1 h2 hp hl hpl
        rw [ee]
        refine PSimp (ps_set (i := i) C.nd h1 (loc_of h2) hp (sw_no hl hpl _ _ _) (.inl (by rw [hf]))) fun D σ H ⟨wu, H0, Hf0, Hf, ρ, o, sr, hd, fin⟩ => ?_
        obtain ⟨d, h4, rfl⟩ := Option.map_eq_some_iff.mp hd
        obtain ⟨Hfz, srz, sz⟩ := sr.frzs fz
        exact ⟨Hfz, _, d, srz.er, h4, fun v H' Hf' e r => fin _ H' Hf' ((srz.ext' e).set r) (sz.trans e.fr)⟩
      split at h3
      · obtain ⟨P1, P2, P3⟩ := snd_srt C W0 h3
        exact fin h1 h2 P1 P2 P3
      · simp only [Bool.and_eq_true, decide_eq_true_eq] at h3
        obtain ⟨⟨rfl, h4⟩, h5⟩ := h3
        obtain ⟨P1, P2, P3⟩ := snd_srt C W0 h5
        have hB := bor_F (p := .omit) (fun _ => PX.noConfusion) P1
        refine fin h1 h2 ?_ rfl rfl
        have e2 : (fun ρ => srtE true (ev T n a ρ) (capsR js ρ) (ev T n b)) = fun ρ => (bor .omit ρ (srtE false (ev T n a ρ) (capsR js ρ) (ev T n b))).bind fun x => blt .tuple x := by
          funext ρ
          rw [srtE_tup]
          rfl
        rw [e2]
        exact PEimp (pe_callTy blt_tuple (gl_of h4) (C.blt "tuple" (by unfold bNames; simp)) PyProof.Rows.boot_tuple (pa_one hB (star_of P3 _ _)) (by decide) (by decide) (star_of P3 _ _) rfl) fun σ H Q q => blt_in q
      · cases h3
    · cases h
  | .set fz i e, X, st, C, W, hf, h => by
    have ee : evs T n (.set fz i e) = fun ρ => (ev T n e (frzs fz ρ)).map fun d => .nx ((frzs fz ρ).set i (.val d)) := by funext ρ; rw [evs, evS]
    unfold chkS at h
    split at h
    · simp only [Bool.and_eq_true, decide_eq_true_eq] at h
      obtain ⟨⟨h1, h2⟩, h3⟩ := h
      have S := sndE e X _ C h3
      rw [ee]
      refine PSimp (set_any C hf h1 h2 h3 S S.f fun σ H Q hl q => tO_F (lc_list h3 hl) q) fun D σ H ⟨wu, H0, Hf0, Hf, ρ, o, sr, hd, fin⟩ => ?_
      obtain ⟨d, h4, rfl⟩ := Option.map_eq_some_iff.mp hd
      obtain ⟨Hfz, srz, sz⟩ := sr.frzs fz
      exact ⟨Hfz, _, d, srz.er, h4, fun v H' Hf' e r => fin _ H' Hf' ((srz.ext' e).set r) (sz.trans e.fr)⟩
    · cases h
  | .setD fz i ks es, X, st, C, W, hf, h => by
    have ee : evs T n (.setD fz i ks es) = fun ρ => (evEs T.G (T.run n) es (frzs fz ρ)).map fun ds => .nx ((frzs fz ρ).set i (.dic ks ds)) := by funext ρ; rw [evs, evS]
    unfold chkS at h
    split at h
    · rename_i x py keys vals dpos pos
      simp only [Bool.and_eq_true, decide_eq_true_eq] at h
      obtain ⟨⟨⟨⟨⟨h1, h2⟩, h3⟩, h4⟩, h5⟩, h6⟩ := h
      obtain ⟨trs, P, O⟩ := sndPs es X dpos ks keys vals C h3 h5 h6
      rw [ee]
      refine PSimp (ps_set (i := i) C.nd h1 (loc_of h2) (pd_of P O h3 h4 h5) (sw_no rfl rfl _ _ _) (.inl (by rw [hf]))) fun D σ H ⟨wu, H0, Hf0, Hf, ρ, o, sr, hd, fin⟩ => ?_
      obtain ⟨d, h4, rfl⟩ := Option.map_eq_some_iff.mp hd
      obtain ⟨Hfz, srz, sz⟩ := sr.frzs fz
      exact ⟨Hfz, _, d, srz.er, h4, fun v H' Hf' e r => fin _ H' Hf' ((srz.ext' e).setD r) (sz.trans e.fr)⟩
    · cases h
  | .setO fz i e, X, st, C, W, hf, h => by
    have ee : evs T n (.setO fz i e) = fun ρ => (ev T n e (frzs fz ρ)).bind (ownSet i (frzs fz ρ)) := by funext ρ; rw [evs, evS]
    unfold chkS at h
    split at h
    · simp only [Bool.and_eq_true, decide_eq_true_eq] at h
      obtain ⟨⟨⟨h1, h2⟩, h3⟩, h4⟩ := h
      have S := sndE e X _ C h3
      rw [ee]
      refine PSimp (set_any C hf h1 h2 h3 S (S.o h4) fun σ H Q hl q => q) fun D σ H ⟨wu, H0, Hf0, Hf, ρ, o, sr, hd, fin⟩ => ?_
      obtain ⟨d, h5, hd⟩ := Option.bind_eq_some_iff.mp hd
      obtain ⟨Hfz, srz, sz⟩ := sr.frzs fz
      cases d with
      | list ds =>
        cases hd
        exact ⟨Hfz, _, ds, srz.er, h5, fun p vs H' Hf' e hp hp' hn z r => fin _ H' Hf' ((srz.ext' e).setO hp' z r hn (srz.ext.free hp) (srz.er.newAt e hp)) (sz.trans e.fr)⟩
      | _ => exact nomatch hd
    · cases h
  | .setT fz is e, X, st, C, W, hf, h => by
    have ee : evs T n (.setT fz is e) = fun ρ => (ev T n e (frzs fz ρ)).bind fun d => (asg (.tp is) d (frzs fz ρ)).map .nx := by funext ρ; rw [evs, evS]
    unfold chkS at h
    split at h
    · rename_i ts k tp v pos
      simp only [Bool.and_eq_true, Bool.not_eq_true'] at h
      obtain ⟨⟨⟨h1, h2⟩, h3⟩, h4⟩ := h
      have S := sndE e X _ C h2
      have hT : chkT X.N X.env.scope (fun _ => true) (.tp is) (.Tuple ts k tp) = true := by unfold chkT; exact h1
      have G : PG X (.Tuple ts k tp) (tgG X.K (.tp is)) := tg_of (X := X) rfl C.nd rfl (fun x _ => by rw [hf]) C.calm hT
      have hw : swappedStores [.Tuple ts k tp] v X.env = pure none := by cases v <;> first | rfl | cases h3
      rw [ee]
      refine PSimp (ps_asg S.f G (by unfold swapsWithSole; exact sw_no h4 (chk_plain e h2) _ _ _) hw rfl) fun D σ H ⟨wu, H0, Hf0, Hf, ρ, o, sr, hd, fin⟩ => ?_
      obtain ⟨d, h5, hd⟩ := Option.bind_eq_some_iff.mp hd
      obtain ⟨ρ', h6, rfl⟩ := Option.map_eq_some_iff.mp hd
      obtain ⟨Hfz, srz, sz⟩ := sr.frzs fz
      refine ⟨Hfz, _, d, srz.er, h5, fun v H' Hf' e r => ?_⟩
      exact tgG_ok (P := fun σ ρ => SR X.K wu H0 Hf0 σ H' Hf' ρ) sets_sr e.sub r (srz.ext' e) h6 fun σ' sr' _ => fin σ' H' Hf' sr' (sz.trans e.fr)
    · cases h
  | .app fz i e, X, st, C, W, hf, h => by
    have ee : evs T n (.app fz i e) = fun ρ => (ev T n e (frzs fz ρ)).bind (ownApp i (frzs fz ρ)) := by funext ρ; rw [evs, evS]
    unfold chkS at h
    split at h
    · rename_i x p1 m apos a pos pos2
      simp only [Bool.and_eq_true, decide_eq_true_eq] at h
      obtain ⟨⟨⟨⟨⟨rfl, h1⟩, h2⟩, h3⟩, h4⟩, h5⟩ := h
      have S := sndE e X _ C h5
      have st := fun es => star_of (chk_plain e h5) es X.env
      rw [ee]
      refine PSimp (ps_expr (pe_bm PySem.F.plainAttrs_list PySem.F.slot_list_append PySem.F.type_list_append mt_append (pe_var (X := X) (pos := p1) h1 (vis_of h2) (dbg_of h3).1 (dbg_of h3).2) (pa_cons S.f pa_nil (st [])) rfl (by rw [st]; rfl) h4 (st []) rfl) rfl) fun D σ H ⟨wu, H0, Hf0, Hf, ρ, o, sr, hd, fin⟩ => ?_
      obtain ⟨d, h6, hd⟩ := Option.bind_eq_some_iff.mp hd
      obtain ⟨Hfz, srz, sz⟩ := sr.frzs fz
      unfold ownApp at hd
      split at hd
      · rename_i ds hds
        by_cases c : ds.length < 1000000
        · rw [if_pos c] at hd
          cases hd
          obtain ⟨p, vs, g1, g2, g3, g4, g5⟩ := srz.er.own i ds hds
          refine ⟨.ref p, g1, .inl ⟨rfl, vs, .of g2⟩, Hfz, _, d, srz.er, h6, fun v H' Hf' e r => ?_⟩
          have g2' := e.lst g2
          have hz : vs.length < sizeLine := by rw [g4.length, sizeLine_eq]; omega
          refine ⟨p, vs, v, rfl, rfl, g2', hz, fin _ _ Hf' ((srz.ext' e).mut hds g1 ?_ ((g4.mono e.fr _ _).append (.cons r .nil))) (sz.trans e.fr)⟩
          rw [List.length_append, List.length_singleton]; omega
        · rw [if_neg c] at hd; cases hd
      · cases hd
    · cases h
  | .ext fz i e, X, st, C, W, hf, h => by
    have ee : evs T n (.ext fz i e) = fun ρ => (ev T n e (frzs fz ρ)).bind (ownExt i (frzs fz ρ)) := by funext ρ; rw [evs, evS]
    unfold chkS at h
    split at h
    · rename_i x p1 m apos a pos pos2
      simp only [Bool.and_eq_true, decide_eq_true_eq] at h
      obtain ⟨⟨⟨⟨⟨rfl, h1⟩, h2⟩, h3⟩, h4⟩, h5⟩ := h
      have S := sndE e X _ C h5
      have st := fun es => star_of (chk_plain e h5) es X.env
      rw [ee]
      refine PSimp (ps_expr (pe_bm PySem.F.plainAttrs_list PySem.F.slot_list_extend PySem.F.type_list_extend mt_extendL (pe_var (X := X) (pos := p1) h1 (vis_of h2) (dbg_of h3).1 (dbg_of h3).2) (pa_cons S.f pa_nil (st [])) rfl (by rw [st]; rfl) h4 (st []) rfl) rfl) fun D σ H ⟨wu, H0, Hf0, Hf, ρ, o, sr, hd, fin⟩ => ?_
      obtain ⟨d, h6, hd⟩ := Option.bind_eq_some_iff.mp hd
      obtain ⟨Hfz, srz, sz⟩ := sr.frzs fz
      unfold ownExt at hd
      split at hd
      · rename_i ds es hds
        by_cases c : catOk ds.length es.length = true
        · rw [if_pos c] at hd
          cases hd
          have c' := of_decide_eq_true c
          obtain ⟨p, vs, g1, g2, g3, g4, g5⟩ := srz.er.own i ds hds
          refine ⟨.ref p, g1, .inl ⟨rfl, vs, .of g2⟩, Hfz, _, _, srz.er, h6, fun v H' Hf' e r => ?_⟩
          have g2' := e.lst g2
          cases r with
          | @lst b zs _ s1 z1 r1 =>
            have hz : vs.length + zs.length ≤ sizeLine := by rw [g4.length, r1.length]; exact c'
            exact ⟨p, b, vs, zs, rfl, rfl, g2', sqL_sub e.sub.same s1, hz, fin _ _ Hf' ((srz.ext' e).mut hds g1 (by rw [List.length_append]; exact hz) ((g4.mono e.fr _ _).append r1)) (sz.trans e.fr)⟩
        · rw [if_neg c] at hd; cases hd
      · cases hd
    · cases h
  | .iff fz c a b, X, st, C, W, hf, h => by
    have ee : evs T n (.iff fz c a b) = fun ρ => (boolOf (ev T n c (frzs fz ρ))).bind fun k => if k then evss T n a (frzs fz ρ) else evss T n b (frzs fz ρ) := by funext ρ; rw [evs, evS]
    unfold chkS at h
    split at h
    · simp only [Bool.and_eq_true] at h
      obtain ⟨⟨h1, h2⟩, h3⟩ := h
      rw [ee]
      refine PSimp (ps_if (sndE c X _ C h1).t (sndSs a X _ C (W.sub fun z => by unfold srtS; rw [z]; rfl) hf h2) (sndSs b X _ C (W.sub fun z => by unfold srtS; rw [z, Bool.or_true]) hf h3)) fun D σ H ⟨wu, H0, Hf0, Hf, ρ, o, sr, hd, fin⟩ => ?_
      obtain ⟨k, h4, hd⟩ := Option.bind_eq_some_iff.mp hd
      obtain ⟨Hfz, srz, sz⟩ := sr.frzs fz
      refine ⟨Hfz, _, k, srz.er, h4, fun H' Hf' e => ?_⟩
      cases k with
      | true => exact iteT ⟨wu, H0, Hf0, Hf', _, o, srz.ext' e, hd, fin.mono (sz.trans e.fr)⟩
      | false => exact iteF ⟨wu, H0, Hf0, Hf', _, o, srz.ext' e, hd, fin.mono (sz.trans e.fr)⟩
    · cases h
  | .for fz tg it b, X, st, C, W, hf, h => by
    have ee : evs T n (.for fz tg it b) = fun ρ => (evI T.G (T.run n) false it (frzs fz ρ)).bind fun ds => loopR (fun d ρ1 => (asg tg d ρ1).bind fun ρ2 => evss T n b ρ2) ds (frzs fz ρ) := by funext ρ; rw [evs, evS]
    unfold chkS at h
    split at h
    · simp only [Bool.and_eq_true] at h
      obtain ⟨⟨h1, h2⟩, h3⟩ := h
      rw [ee]
      refine PSimp (ps_for (by rw [C.xe]; exact PassesOwn.never) C.calm (sndI it false X _ _ C h1) (tg_of (X := X) rfl C.nd rfl (fun x _ => by rw [hf]) C.calm h2) (sndSs b X _ C (W.sub fun z => by unfold srtS; exact z) hf h3) (fold_of (chkI_plain it h1) _)) fun D σ H q => for_in q
    · cases h
  | .ret fz e, X, st, C, W, hf, h => by
    have ee : evs T n (.ret fz e) = fun ρ => (ev T n e (frzs fz ρ)).map .rt := by funext ρ; rw [evs, evS]
    unfold chkS at h
    split at h
    · rw [ee]
      refine PSimp (ps_ret (sndE e X _ C h).f) fun D σ H ⟨wu, H0, Hf0, Hf, ρ, o, sr, hd, fin⟩ => ?_
      obtain ⟨d, h4, rfl⟩ := Option.map_eq_some_iff.mp hd
      obtain ⟨Hfz, srz, sz⟩ := sr.frzs fz
      exact ⟨Hfz, _, d, srz.er, h4, fun v H' Hf' e r => fin v H' Hf' (srz.ext.trans e) r⟩
    · cases h
  | .obs is, X, st, C, W, hf, h => by unfold chkS at h; cases h
  | .mks, X, st, C, W, hf, h => by unfold chkS at h; cases h
  | .newD fz i, X, st, C, W, hf, h => by
    have ee : evs T n (.newD fz i) = fun ρ => some (.nx ((frzs fz ρ).set i (.odc []))) := by funext ρ; rw [evs, evS]
    unfold chkS at h
    split at h
    · simp only [Bool.and_eq_true, decide_eq_true_eq] at h
      obtain ⟨⟨h1, h2⟩, h3⟩ := h
      have dk := C.ob.dk h3
      rw [ee]
      refine PSimp (ps_set (i := i) C.nd h1 (loc_of h2) ((C.dr dk).new _) (sw_no rfl rfl _ _ _) (.inl (by rw [hf]))) fun D σ H ⟨wu, H0, Hf0, Hf, ρ, o, sr, hd, fin⟩ => ?_
      cases hd
      obtain ⟨Hfz, srz, sz⟩ := sr.frzs fz
      intro p hp hs
      have e := Ext.allocO srz.er.sub hp (.ext (Memo.dic p []))
      exact fin _ _ Hfz ((srz.ext' e).setDO ⟨sub_none srz.er.sub hp, fun m => (by
        obtain ⟨φ, z⟩ := Memo.may_ext srz.er.sub.inv m
        rw [hp] at z; cases z), dk, hs, [], upd_same, .nil, .nil⟩ (srz.ext.free hp) (srz.er.newAt e hp)) sz
    · cases h
  | .putD fz i k v, X, st, C, W, hf, h => by
    have ee : evs T n (.putD fz i k v) = fun ρ => (ev T n v (frzs fz ρ)).bind fun d => (ev T n k (frzs fz ρ)).bind fun x => ownPut i (frzs fz ρ) x d := by funext ρ; rw [evs, evS]
    unfold chkS at h
    split at h
    · rename_i x xp kx sp vx pos
      simp only [Bool.and_eq_true, decide_eq_true_eq, Bool.not_eq_true'] at h
      obtain ⟨⟨⟨⟨⟨⟨h1, h2⟩, h3⟩, h4⟩, h5⟩, h6⟩, h7⟩ := h
      have dk := C.ob.dk h7
      have hdb := dbg_of (by simpa using h3 : (!dbgB x) = true)
      have Sv := (sndE v X _ C h5).f
      have Sk := (sndE k X _ C h4).f
      rw [ee]
      refine PSimp (ps_asg Sv (pg_sub (pe_var (X := X) (pos := xp) h1 (vis_of h2) hdb.1 hdb.2) Sk (C.dr dk).put (asg_of (chk_plain k h4) _ _)) (by unfold swapsWithSole; exact sw_no h6 (chk_plain v h5) _ _ _) (by rfl)) fun D σ H ⟨wu, H0, Hf0, Hf, ρ, o, sr, hd, fin⟩ => ?_
      obtain ⟨d, q1, hd⟩ := Option.bind_eq_some_iff.mp hd
      obtain ⟨x', q2, hd⟩ := Option.bind_eq_some_iff.mp hd
      obtain ⟨Hfz, srz, sz⟩ := sr.frzs fz
      unfold ownPut at hd
      split at hd
      · rename_i kvs hk
        obtain ⟨c1, hd⟩ := ite_some hd
        rw [Bool.and_eq_true, decide_eq_true_eq] at c1
        cases hd
        refine ⟨Hfz, _, d, srz.er, q1, fun vv H1 Hf1 e1 r1 => ?_⟩
        have sr1 := srz.ext' e1
        obtain ⟨p, g1, _⟩ := sr1.er.odc i kvs hk
        refine ⟨.ref p, g1, Hf1, _, x', sr1.er, q2, fun vk H2 Hf2 e2 r2 => ?_⟩
        have sr2 := sr1.ext' e2
        obtain ⟨p', g1', g2⟩ := sr2.er.odc i kvs hk
        rw [g1] at g1'
        cases g1'
        exact ⟨Hf2, p, kvs, x', d, rfl, e2.sub, g2, r2, c1.1, r1.mono e2.fr _ _, c1.2, fun xs n1 n2 => fin _ _ Hf2 (sr2.mutD hk g1 n1 n2) (sz.trans (e1.fr.trans e2.fr))⟩
      · cases hd
    · cases h
  | .putI fz i k v, X, st, C, W, hf, h => by
    have ee : evs T n (.putI fz i k v) = fun ρ => (ev T n v (frzs fz ρ)).bind fun d => (ev T n k (frzs fz ρ)).bind fun x => ownPutI i (frzs fz ρ) x d := by funext ρ; rw [evs, evS]
    unfold chkS at h
    split at h
    · rename_i x xp kx sp vx pos
      simp only [Bool.and_eq_true, decide_eq_true_eq, Bool.not_eq_true'] at h
      obtain ⟨⟨⟨⟨⟨h1, h2⟩, h3⟩, h4⟩, h5⟩, h6⟩ := h
      have hdb := dbg_of (by simpa using h3 : (!dbgB x) = true)
      have Sv := (sndE v X _ C h5).f
      have Sk := (sndE k X _ C h4).f
      rw [ee]
      refine PSimp (ps_asg Sv (pg_sub (pe_var (X := X) (pos := xp) h1 (vis_of h2) hdb.1 hdb.2) Sk set_list (asg_of (chk_plain k h4) _ _)) (by unfold swapsWithSole; exact sw_no h6 (chk_plain v h5) _ _ _) (by rfl)) fun D σ H ⟨wu, H0, Hf0, Hf, ρ, o, sr, hd, fin⟩ => ?_
      obtain ⟨d, q1, hd⟩ := Option.bind_eq_some_iff.mp hd
      obtain ⟨x', q2, hd⟩ := Option.bind_eq_some_iff.mp hd
      obtain ⟨Hfz, srz, sz⟩ := sr.frzs fz
      unfold ownPutI at hd
      split at hd
      · rename_i j
        split at hd
        · rename_i ds hk
          obtain ⟨m, hm, rfl⟩ := Option.map_eq_some_iff.mp hd
          refine ⟨Hfz, _, d, srz.er, q1, fun vv H1 Hf1 e1 r1 => ?_⟩
          have sr1 := srz.ext' e1
          obtain ⟨p, vs, g1, g2, g3, g4, g5⟩ := sr1.er.own i ds hk
          refine ⟨.ref p, g1, Hf1, _, _, sr1.er, q2, fun vk H2 Hf2 e2 r2 => ?_⟩
          have sr2 := sr1.ext' e2
          have g2' := e2.lst g2
          cases r2
          refine ⟨p, vs, j, m, rfl, rfl, g2', by rw [g4.length]; exact hm, ?_⟩
          exact fin _ _ Hf2 (sr2.mut hk g1 (by rw [List.length_set]; exact g3) ((g4.mono e2.fr _ _).set m (r1.mono e2.fr _ _))) (sz.trans (e1.fr.trans e2.fr))
        · cases hd
      · cases hd
    · cases h
  | .retD i, X, st, C, W, hf, h => by
    have ee : evs T n (.retD i) = retDR i := by funext ρ; rw [evs, evS]
    unfold chkS at h
    split at h
    · rename_i x xp pos
      simp only [Bool.and_eq_true, decide_eq_true_eq] at h
      obtain ⟨⟨h1, h2⟩, h3⟩ := h
      have hdb := dbg_of h3
      rw [ee]
      refine PSimp (ps_ret (pe_var (X := X) (pos := xp) h1 (vis_of h2) hdb.1 hdb.2)) fun D σ H ⟨wu, H0, Hf0, Hf, ρ, o, sr, hd, fin⟩ => ?_
      unfold retDR at hd
      split at hd
      · rename_i kvs hk
        cases hd
        obtain ⟨Hf', sr', s'⟩ := sr.frz1 i
        rw [frz1_set hk] at sr'
        have hk' : (ρ.set i (frzS (.odc kvs)))[i]? = some (.ob (.dict kvs)) := List.getElem?_set_self (List.getElem?_eq_some_iff.mp hk).1
        obtain ⟨v, g1, g2⟩ := sr'.er.ob i _ hk'
        exact ⟨v, g1, fin v H Hf' sr'.ext g2⟩
      · cases hd
    · cases h
  | .appT i e, X, st, C, W, hf, h => by
    have ee : evs T n (.appT i e) = fun ρ => (ev T n e ρ).bind (thgApp i ρ) := by funext ρ; rw [evs, evS]
    unfold chkS at h
    split at h
    · rename_i x xp f fp m apos a pos pos2
      simp only [Bool.and_eq_true, decide_eq_true_eq] at h
      obtain ⟨⟨⟨⟨⟨⟨⟨rfl, rfl⟩, h1⟩, h2⟩, h3⟩, h4⟩, h5⟩, h6⟩ := h
      have mc := C.ob.mc (C.ob.dk h6)
      have S := sndE e X _ C h5
      have st := fun es => star_of (chk_plain e h5) es X.env
      rw [ee]
      refine PSimp (ps_expr (pe_bm PySem.F.plainAttrs_list PySem.F.slot_list_append PySem.F.type_list_append mt_append (pe_fld (pe_var (X := X) (pos := xp) h1 (vis_of h2) (dbg_of h3).1 (dbg_of h3).2) rfl) (pa_cons S.f pa_nil (st [])) rfl (by rw [st]; rfl) h4 (st []) rfl) rfl) fun D σ H ⟨wu, H0, Hf0, Hf, ρ, o, sr, hd, fin⟩ => ?_
      obtain ⟨d, q1, hd⟩ := Option.bind_eq_some_iff.mp hd
      unfold thgApp at hd
      split at hd
      · rename_i j sm ts kvs hk
        by_cases c1 : ts.length < 1000000
        case neg => rw [if_neg c1] at hd; cases hd
        rw [if_pos c1] at hd
        cases hd
        obtain ⟨v, g1, y, dx, vj, us, p, r, tvs, rfl, a1, a2, a3, a4, a5, a6, a7, a8, a9⟩ := sr.er.mk_ i hk
        refine ⟨.ref y, g1, y, _, dx, _, .ref p, rfl, a1, mc.cls, mc.na _ (.inr (.inr (.inl rfl))), lk_things, .inl ⟨rfl, tvs, .of a5⟩, Hf, _, d, sr.er, q1, fun v H' Hf' e r => ?_⟩
        have a5' := e.lst a5
        have hz : tvs.length < sizeLine := by rw [a7.length, sizeLine_eq]; omega
        refine ⟨p, tvs, v, rfl, rfl, a5', hz, ?_⟩
        have sr' := sr.ext' e
        have a1' := e.hs y (.ins _ _ _) trivial a1
        exact fin _ _ Hf' (sr'.mutT (vs := tvs ++ [v]) hk g1 a1' (by rw [List.length_append, List.length_singleton]; omega) ((a7.mono e.fr _ _).append (.cons r .nil)) ) e.fr
      · cases hd
    · cases h
  | .putL i k v, X, st, C, W, hf, h => by
    have ee : evs T n (.putL i k v) = fun ρ => (ev T n v ρ).bind fun d => (ev T n k ρ).bind fun x => lnkPut i ρ x d := by funext ρ; rw [evs, evS]
    unfold chkS at h
    split at h
    · rename_i x xp f fp kx sp vx pos
      simp only [Bool.and_eq_true, decide_eq_true_eq, Bool.not_eq_true'] at h
      obtain ⟨⟨⟨⟨⟨⟨⟨rfl, h1⟩, h2⟩, h3⟩, h4⟩, h5⟩, h6⟩, h7⟩ := h
      have dk := C.ob.dk h7
      have mc := C.ob.mc dk
      have hdb := dbg_of (by simpa using h3 : (!dbgB x) = true)
      have Sv := (sndE v X _ C h5).f
      have Sk := (sndE k X _ C h4).f
      rw [ee]
      refine PSimp (ps_asg Sv (pg_sub (pe_fld (pe_var (X := X) (pos := xp) h1 (vis_of h2) hdb.1 hdb.2) rfl) Sk (C.dr dk).put (asg_of (chk_plain k h4) _ _)) (by unfold swapsWithSole; exact sw_no h6 (chk_plain v h5) _ _ _) (by rfl)) fun D σ H ⟨wu, H0, Hf0, Hf, ρ, o, sr, hd, fin⟩ => ?_
      obtain ⟨d, q1, hd⟩ := Option.bind_eq_some_iff.mp hd
      obtain ⟨x', q2, hd⟩ := Option.bind_eq_some_iff.mp hd
      unfold lnkPut at hd
      split at hd
      · rename_i j sm ts kvs hk
        obtain ⟨c1, hd⟩ := ite_some hd
        rw [Bool.and_eq_true, decide_eq_true_eq] at c1
        cases hd
        refine ⟨Hf, _, d, sr.er, q1, fun vv H1 Hf1 e1 r1 => ?_⟩
        have sr1 := sr.ext' e1
        obtain ⟨v, g1, y, dx, vj, us, p, r, tvs, rfl, a1, _⟩ := sr1.er.mk_ i hk
        refine ⟨.ref y, g1, y, _, dx, _, .ref r, rfl, a1, mc.cls, mc.na _ (.inr (.inr (.inr rfl))), lk_links, Hf1, _, x', sr1.er, q2, fun vk H2 Hf2 e2 r2 => ?_⟩
        have sr2 := sr1.ext' e2
        have a1' := e2.hs y (.ins _ _ _) trivial a1
        obtain ⟨v', g1', y', dx', vj', us', p', r', tvs', rfl, b1, b2, b3, b4, b5, b6, b7, b8, b9⟩ := sr2.er.mk_ i hk
        rw [g1] at g1'
        cases g1'
        rw [a1'] at b1
        obtain ⟨rfl, rfl, rfl, rfl⟩ := mkFs_inj (by have := Option.some.inj b1; injection this)
        exact ⟨Hf2, r, kvs, x', d, rfl, e2.sub, b9, r2, c1.1, r1.mono e2.fr _ _, c1.2, fun xs n1 n2 => fin _ _ Hf2 (sr2.mutL hk g1 a1' n1 n2) (e1.fr.trans e2.fr)⟩
      · cases hd
    · cases h
  | .retM e, X, st, C, W, hf, h => by
    have ee : evs T n (.retM e) = fun ρ => (ev T n e ρ).bind (retMR ρ) := by funext ρ; rw [evs, evS]
    unfold chkS at h
    split at h
    · rw [ee]
      refine PSimp (ps_ret (sndE e X _ C h).f) fun D σ H ⟨wu, H0, Hf0, Hf, ρ, o, sr, hd, fin⟩ => ?_
      obtain ⟨d, q1, hd⟩ := Option.bind_eq_some_iff.mp hd
      unfold retMR at hd
      split at hd
      · rename_i j sm ts kvs rr hρ
        cases hd
        refine ⟨Hf, _, d, sr.er, q1, fun v H' Hf' e r => ?_⟩
        have sr' := sr.ext' e
        obtain ⟨u, g1, g2⟩ := sr'.er.mk_ 0 rfl
        have eu := sr'.me 0 _ _ _ _ _ rfl g1
        subst eu
        exact fin v H' Hf' sr'.ext e.fr g2 (fun p o => sr'.ny 0 _ _ p rfl g1 o) r
      · cases hd
    · cases h
  | .callM x f es, X, st, C, W, hf, h => by
    have ee : evs T n (.callM x f es) = fun ρ => (selfM ρ).bind fun m => (evEs T.G (T.run n) es ρ).bind fun ds => (T.run n f (m :: ds)).bind (resM x ρ) := by funext ρ; rw [evs, evS]
    rw [ee]
    unfold chkS at h
    split at h
    · obtain ⟨F, P, hl, hp, lk⟩ := mcall_pe C h
      refine PSimp (ps_expr P (sw_no hl hp _ _ _)) fun D σ H ⟨wu, H0, Hf0, Hf, ρ, o, sr, hd, fin⟩ => ?_
      exact callM_in (x := none) lk sr hd fun v d j sm ts kvs H' Hf' eo sr' s' rv => (by subst eo; exact fin σ H' Hf' sr' s')
    · rename_i i y yp e pos
      simp only [Bool.and_eq_true, decide_eq_true_eq] at h
      obtain ⟨⟨h1, h2⟩, h3⟩ := h
      obtain ⟨F, P, hl, hp, lk⟩ := mcall_pe C h3
      refine PSimp (ps_set (i := i) C.nd h1 (loc_of h2) P (sw_no hl hp _ _ _) (.inl (by rw [hf]))) fun D σ H ⟨wu, H0, Hf0, Hf, ρ, o, sr, hd, fin⟩ => ?_
      exact callM_in (x := some i) lk sr hd fun v d j sm ts kvs H' Hf' eo sr' s' rv => (by subst eo; exact fin _ H' Hf' (sr'.set rv) s')
    · cases h
  | .whl c b, X, st, C, W, hf, h => by
    have ee : evs T n (.whl c b) = fun ρ => whlR (fun ρ1 => boolOf (ev T n c ρ1)) (fun ρ1 => evss T n b ρ1) 100000 ρ := by funext ρ; rw [evs, evS]
    unfold chkS at h
    split at h
    · simp only [Bool.and_eq_true] at h
      rw [ee]
      exact PSimp (ps_while (by rw [C.xe]; exact PassesOwn.never) (sndE c X _ C h.1).t (sndSs b X _ C (W.sub fun z => by unfold srtS; exact z) hf h.2)) fun D σ H q => whl_in q
    · cases h
  | .memo _ _ _, X, st, C, W, hf, h => by unfold chkS at h; cases h
  | .setN fz i p, X, st, C, W, hf, h => by
    have ee : evs T n (.setN fz i p) = fun ρ => (ev T n p (frzs fz ρ)).map fun d => .nx ((frzs fz ρ).set i (.ob d)) := by funext ρ; rw [evs, evS]
    unfold chkS at h
    split at h
    · simp only [Bool.and_eq_true, decide_eq_true_eq, Bool.not_eq_true'] at h
      obtain ⟨⟨⟨⟨h1, h2⟩, h3⟩, h4⟩, h5⟩ := h
      have hp := (chkAs_head p .nil h3 h5).2.2.1
      rw [ee]
      refine PSimp (ps_set (i := i) C.nd h1 (loc_of h2) (sndOb p X _ C h3 h5) (sw_no h4 hp _ _ _) (.inl (by rw [hf]))) fun D σ H ⟨wu, H0, Hf0, Hf, ρ, o, sr, hd, fin⟩ => ?_
      obtain ⟨d, h6, rfl⟩ := Option.map_eq_some_iff.mp hd
      obtain ⟨Hfz, srz, sz⟩ := sr.frzs fz
      exact ⟨Hfz, _, d, srz.er, h6, fun v H' Hf' e r => fin _ H' Hf' ((srz.ext' e).setS (x0 := .ob d) rfl r) (sz.trans e.fr)⟩
    · cases h
  | .retN, X, st, C, W, hf, h => by
    have ee : evs T n .retN = fun ρ => some (.rt .none) := by funext ρ; rw [evs, evS]
    unfold chkS at h
    split at h
    · rw [ee]
      refine PSimp ps_retN fun D σ H ⟨wu, H0, Hf0, Hf, ρ, o, sr, hd, fin⟩ => ?_
      cases hd
      exact fin .non H Hf sr.ext .non
    · cases h
  | .pass, X, st, C, W, hf, h => by
    have ee : evs T n .pass = fun ρ => some (.nx ρ) := by funext ρ; rw [evs, evS]
    unfold chkS at h
    split at h
    · rw [ee]
      refine PSimp ps_pass fun D σ H ⟨wu, H0, Hf0, Hf, ρ, o, sr, hd, fin⟩ => ?_
      cases hd
      exact fin σ H Hf sr (Same.refl _)
    · rw [ee]
      refine PSimp ps_doc fun D σ H ⟨wu, H0, Hf0, Hf, ρ, o, sr, hd, fin⟩ => ?_
      cases hd
      exact fin σ H Hf sr (Same.refl _)
    · cases h
theorem sndSs : ∀ (p : QSs) (X : Cx) (st : List Stmt), Cok T n X → StOk T n X (srtSs p) → X.fn = (fun _ => true) → chkSs T X.N p X.env.scope st = true → PSs X st (tS X.K (evss T n p))
  | .nil, X, st, C, W, hf, h => by
    have ee : evss T n .nil = fun ρ => some (.nx ρ) := by funext ρ; rw [evss, evSs]
    unfold chkSs at h
    split at h
    · rw [ee]
      refine PSsimp pss_nil fun D σ H ⟨wu, H0, Hf0, Hf, ρ, o, sr, hd, fin⟩ => ?_
      cases hd
      exact fin σ H Hf sr (Same.refl _)
    · cases h
  | .cons p ps, X, st, C, W, hf, h => by
    unfold chkSs at h
    rw [Bool.or_eq_true] at h
    rcases h with h | h
    · unfold memoP at h
      split at h
      · rename_i k f es
        unfold memoB at h
        split at h
        · rename_i n1 _ _ s1 _ a1 _ _ s2 _ a2 _ n2 _ _ _ c _ _ s3 _ a3 _ n3 _ _ _ _ nm g hme
          simp only [Bool.and_eq_true, decide_eq_true_eq] at h
          obtain ⟨⟨⟨⟨⟨⟨⟨⟨⟨⟨⟨⟨⟨⟨rfl, h1⟩, h2⟩, h3⟩, rfl⟩, rfl⟩, rfl⟩, rfl⟩, rfl⟩, h4⟩, h5⟩, h6⟩, h7⟩, h8⟩, h9⟩ := h
          have ee : evss T n (.cons (.memo k g es) .nil) = fun ρ => (attrR 0 0 ρ).bind fun r => (evEs T.G (T.run n) es ρ).bind fun ds => if smallKey ds then (T.run n g (r :: ds)).map .rt else none := by
            funext ρ
            rw [evss, evSs, evS]
            cases attrR 0 0 ρ with
            | none => rfl
            | some r =>
              cases q : evEs T.G (T.run n) es ρ with
              | none => simp only [Option.bind_some, Option.bind_none, q]
              | some ds =>
                simp only [Option.bind_some, q]
                by_cases sk : smallKey ds
                · rw [if_pos sk]; cases T.run n g (r :: ds) <;> rfl
                · rw [if_neg sk]; rfl
          have ec : ev T n (.call g (.cons (.attr 0 0) es)) = fun ρ => (attrR 0 0 ρ).bind fun r => (evEs T.G (T.run n) es ρ).bind fun ds => T.run n g (r :: ds) := by
            funext ρ
            rw [ev, evE, evEs, evE]
            cases attrR 0 0 ρ with
            | none => rfl
            | some r => cases evEs T.G (T.run n) es ρ <;> rfl
          have S := (sndE _ X _ C h7).f
          rw [ec] at S
          rw [ee]
          exact W.me k _ g hme h1 h2 h3 (chks_plain es h4) (chks_plain es h5) (chks_plain es h6) (by simpa using h9) (sndVs es X _ h8 h4) (sndVs es X _ h8 h5) (sndVs es X _ h8 h6) (chk_plain _ h7) S
        · cases h
      · cases h
    · have ee : evss T n (.cons p ps) = fun ρ => (evs T n p ρ).bind (thenO fun ρ' => evss T n ps ρ') := by funext ρ; rw [evss, evSs]
      split at h
      · simp only [Bool.and_eq_true] at h
        rw [ee]
        refine PSsimp (pss_cons (sndS p X _ C (W.sub fun z => by unfold srtSs; rw [z]; rfl) hf h.1) (sndSs ps X _ C (W.sub fun z => by unfold srtSs; rw [z, Bool.or_true]) hf h.2)) fun D σ H ⟨wu, H0, Hf0, Hf, ρ, o, sr, hd, fin⟩ => ?_
        obtain ⟨o1, h1, hd⟩ := Option.bind_eq_some_iff.mp hd
        refine ⟨wu, H0, Hf0, Hf, ρ, o1, sr, h1, ?_⟩
        cases o1 with
        | nx ρ' => exact fun σ' H' Hf' sr' s' => ⟨wu, H0, Hf0, Hf', ρ', o, sr', hd, fin.mono s'⟩
        | rt v => cases hd; exact fin
        | ro v => cases hd; exact fin
        | rm v j sm ts kvs => cases hd; exact fin
      · cases h
end
end

/-! ### defs -/
def scopeB (N P : List Str) (sc : Scope) : Bool := (match sc.kind with | .function => true | _ => false) && !sc.isCoroutine && !sc.isGenerator && decide N.Nodup && decide (N.take P.length = P) && P.all (locB sc) && sc.names.all fun y => match y.2 with
  | .free => false
  | _ => true
/-- does the text begin with what is put together? -/
def mkF (F : FDef) : Bool := match F.body with
  | .cons .mks _ => true
  | _ => false
def kdB (F : FDef) : Bool := match F.kd with
  | .mut => mkF F
  | .wld => mkF F
  | _ => !mkF F
def chkD (T : Tab) (F : FDef) (st : Stmt) : Bool := scopeB F.N F.ps (defScope st) && chkSs T F.N (bodyF F) (defScope st) (defBody st) && kdB F
theorem scope_of {N P : List Str} {sc : Scope} (h : scopeB N P sc = true) : FnScope N P sc := by
  simp only [scopeB, Bool.and_eq_true, decide_eq_true_eq, Bool.not_eq_true', List.all_eq_true] at h
  obtain ⟨⟨⟨⟨⟨⟨h1, h2⟩, h3⟩, h4⟩, h5⟩, h6⟩, h7⟩ := h
  refine ⟨?_, h2, h3, h4, h5, fun x hx => loc_of (h6 x hx), fun y hy e => ?_⟩
  · split at h1
    · assumption
    · cases h1
  · have := h7 y hy
    rw [e] at this
    cases this
/-- where a def of the table stands -/
structure DefAt (K : PySem.W.Frag) (mg : Str → Option Value) (F : FDef) (st : Stmt) (f : Addr) (fd : FuncData) : Prop where
  fn : ∃ x q, Fun K x q st f fd
  mgf : mg F.name = some (.ref f)
  bnd : Binds K fd F.ps []
/-- where a method of the table stands -/
structure MethAt (K : PySem.W.Frag) (F : FDef) (mm : Bool) (st : Stmt) (C f : Addr) (fd : FuncData) : Prop where
  fn : ∃ q, Fun K F.name q st f fd
  cls : Cls K C
  mth : Meth K C F.name f
  bnd : Binds K fd F.ps []
  ob : F.kd = .pl → ∀ H v d, Memo.ob K H v d → HkS (hkOf mm) d → ∃ q dx gs, v = .ref q ∧ H q = some (.ins C dx gs) ∧ gs.lookup F.name = none
  mk_ : F.kd ≠ .pl → C = Memo.cm ∧ ∀ vj vs p q, (mkFs vj vs p q).lookup F.name = none
/-! the start, with objects among the arguments -/
def obSl : Sl → Sl
  | .val d => .ob d
  | s => s
theorem obs1_get : ∀ (j : Nat) (ρ : Rho) (i : Nat), (obs1 j ρ)[i]? = if i = j then (ρ[i]?).map obSl else ρ[i]?
  | _, [], i => by cases ‹Nat› <;> simp [obs1]
  | 0, s :: r, 0 => by cases s <;> rfl
  | 0, s :: r, i + 1 => by cases s <;> rfl
  | j + 1, s :: r, 0 => by rw [obs1]; simp
  | j + 1, s :: r, i + 1 => by
    rw [obs1, List.getElem?_cons_succ, obs1_get j r i]
    simp
theorem obSl_idem (s : Sl) : obSl (obSl s) = obSl s := by cases s <;> rfl
theorem obsR_get : ∀ (is : List Nat) (ρ : Rho) (i : Nat), (obsR is ρ)[i]? = if i ∈ is then (ρ[i]?).map obSl else ρ[i]?
  | [], ρ, i => by simp [obsR]
  | j :: is, ρ, i => by
    show (obsR is (obs1 j ρ))[i]? = _
    rw [obsR_get is (obs1 j ρ) i, obs1_get]
    by_cases h1 : i = j
    · subst h1
      by_cases h2 : i ∈ is
      · simp only [h2, if_true, List.mem_cons, true_or]
        cases ρ[i]? with
        | none => rfl
        | some s => simp [obSl_idem]
      · simp [h2]
    · by_cases h2 : i ∈ is <;> simp [h1, h2]
theorem obsR_len : ∀ (is : List Nat) (ρ : Rho), (obsR is ρ).length = ρ.length
  | [], ρ => rfl
  | j :: is, ρ => by
    have h1 : ∀ (j : Nat) (ρ : Rho), (obs1 j ρ).length = ρ.length := by
      intro j ρ
      induction ρ generalizing j with
      | nil => cases j <;> rfl
      | cons s r ih =>
        cases j with
        | zero => cases s <;> rfl
        | succ j => rw [obs1, List.length_cons, ih]; rfl
    show (obsR is (obs1 j ρ)).length = _
    rw [obsR_len is, h1]
theorem startR_get {n : Nat} {ds : List PyData} {i : Nat} {x : Sl} (h : (startR n ds)[i]? = some x) : (∃ d, ds[i]? = some d ∧ x = .val d) ∨ x = .un := by
  unfold startR at h
  by_cases c : i < ds.length
  · rw [List.getElem?_append_left (by simpa using c), List.getElem?_map] at h
    obtain ⟨e, h1, h2⟩ := Option.map_eq_some_iff.mp h
    exact .inl ⟨e, h1, h2.symm⟩
  · rw [List.getElem?_append_right (by simpa using c), List.getElem?_replicate] at h
    split at h
    · cases h; exact .inr rfl
    · cases h
theorem start_ob {K : PySem.W.Frag} {wu : V} {H Hf : Hp} {vs : List V} {ds : List PyData} {N : List Str} {is : List Nat} {m : Nat} (sub : Sub H Hf) (r : ArgAll K Hf ((List.range m).map fun i => is.contains i) vs ds) (hl : ds.length ≤ N.length) : SR K wu H Hf (L2.start N vs) H Hf (obsR is (startR N.length ds)) := by
  obtain ⟨l1, l2⟩ := r.length
  have get : ∀ (i : Nat) (x : Sl), (obsR is (startR N.length ds))[i]? = some x → (∃ d v, ds[i]? = some d ∧ (L2.start N vs)[i]? = some (some v) ∧ ((x = .ob d ∧ Memo.ob K Hf v d) ∨ (x = .val d ∧ Rp K Hf v d))) ∨ x = .un := by
    intro i x h
    rw [obsR_get] at h
    have at_ : ∀ d, ds[i]? = some d → ∃ v, (L2.start N vs)[i]? = some (some v) ∧ if is.contains i = true then Memo.ob K Hf v d else Rp K Hf v d := by
      intro d hd
      obtain ⟨v, b, g1, g2, g3⟩ := r.get hd
      rw [List.getElem?_map] at g2
      obtain ⟨j, g4, g5⟩ := Option.map_eq_some_iff.mp g2
      have : j = i := by
        rw [List.getElem?_range (by have := (List.getElem?_eq_some_iff.mp g4).1; simpa using this)] at g4
        exact (Option.some.inj g4).symm
      subst this
      subst g5
      have hi := (List.getElem?_eq_some_iff.mp g1).1
      refine ⟨v, ?_, g3⟩
      unfold L2.start
      rw [List.getElem?_append_left (by simpa using hi), List.getElem?_map, g1]
      rfl
    by_cases c : i ∈ is
    · rw [if_pos c] at h
      obtain ⟨y, h1, h2⟩ := Option.map_eq_some_iff.mp h
      rcases startR_get h1 with ⟨d, hd, rfl⟩ | rfl
      · obtain ⟨v, g1, g2⟩ := at_ d hd
        rw [if_pos (List.contains_iff_mem.mpr c)] at g2
        exact .inl ⟨d, v, hd, g1, .inl ⟨h2.symm, g2⟩⟩
      · exact .inr h2.symm
    · rw [if_neg c] at h
      rcases startR_get h with ⟨d, hd, rfl⟩ | rfl
      · obtain ⟨v, g1, g2⟩ := at_ d hd
        rw [if_neg (fun z => c (List.contains_iff_mem.mp z))] at g2
        exact .inl ⟨d, v, hd, g1, .inr ⟨rfl, g2⟩⟩
      · exact .inr rfl
  have tame : ∀ (i : Nat) (x : Sl), (obsR is (startR N.length ds))[i]? = some x → x.tame = true := fun i x h => by
    rcases get i _ h with ⟨e, v, _, g2, ⟨z, _⟩ | ⟨z, g3⟩⟩ | z <;> (subst z; rfl)
  have no : ∀ (s : Sl) (H : Hp) (v : V) (p : Addr), s.tame = true → ¬ Owns H v p s := fun s H v p h o => by
    cases s <;> first | exact o.elim | cases h
  refine ⟨⟨?_, sub, fun i x h hn => ?_, fun i j si sj vi vj p hi hj wi wj oi oj => absurd oi (no _ _ _ _ (tame i si hi))⟩, Ext.refl sub, fun i s v p hi wi o => absurd o (no _ _ _ _ (tame i s hi)), fun i a b c d v hi wi => absurd (tame i _ hi) (by simp [Sl.tame])⟩
  · rw [obsR_len]
    unfold startR L2.start
    simp
    omega
  · rcases get i _ h with ⟨e, v, _, g2, ⟨z, g3⟩ | ⟨z, g3⟩⟩ | z
    · subst z; exact ⟨v, g2, g3⟩
    · subst z; exact ⟨v, g2, g3⟩
    · exact absurd z hn
/-- the start of a method that changes what is put together -/
theorem start_mk {K : PySem.W.Frag} {wu : V} {H0 Hf0 H Hf : Hp} {us : List V} {ds : List PyData} {N : List Str} {j sm : PyData} {ts : List PyData} {kvs : List (PyData × PyData)} (e : Ext H0 Hf0 H Hf) (m : MkAt K H Hf wu j sm ts kvs) (y : Young H0 H wu j sm ts kvs) (r : RpAll K Hf us ds) (hl : ds.length + 1 ≤ N.length) :
    ∃ ρ, mksR (startR N.length (encM j sm ts kvs :: ds)) = some (.nx ρ) ∧ SR K wu H0 Hf0 (L2.start N (wu :: us)) H Hf ρ := by
  have ev : startR N.length (encM j sm ts kvs :: ds) = .val (encM j sm ts kvs) :: (ds.map .val ++ List.replicate (N.length - (ds.length + 1)) .un) := rfl
  rw [ev]
  refine ⟨_, rfl, ?_⟩
  have l1 := r.length
  have get : ∀ (i : Nat) (x : Sl), (ds.map Sl.val ++ List.replicate (N.length - (ds.length + 1)) Sl.un)[i]? = some x → (∃ d v, x = .val d ∧ (L2.start N (wu :: us))[i + 1]? = some (some v) ∧ Rp K Hf v d) ∨ x = .un := by
    intro i x h
    by_cases c : i < ds.length
    · rw [List.getElem?_append_left (by simpa using c), List.getElem?_map] at h
      obtain ⟨d, h1, h2⟩ := Option.map_eq_some_iff.mp h
      obtain ⟨v, g1, g2⟩ := r.get h1
      refine .inl ⟨d, v, h2.symm, ?_, g2⟩
      show (some wu :: us.map some ++ _)[i + 1]? = _
      rw [List.cons_append, List.getElem?_cons_succ, List.getElem?_append_left (by simpa [l1] using c), List.getElem?_map, g1]
      rfl
    · rw [List.getElem?_append_right (by simpa using c), List.getElem?_replicate] at h
      split at h
      · cases h; exact .inr rfl
      · cases h
  have tame : ∀ (i : Nat) (x : Sl), (ds.map Sl.val ++ List.replicate (N.length - (ds.length + 1)) Sl.un)[i]? = some x → x.tame = true := fun i x h => by
    rcases get i _ h with ⟨d, v, z, _⟩ | z <;> (subst z; rfl)
  have no : ∀ (s : Sl) (H : Hp) (v : V) (p : Addr), s.tame = true → ¬ Owns H v p s := fun s H v p h o => by
    cases s <;> first | exact o.elim | cases h
  have g0 : (L2.start N (wu :: us))[0]? = some (some wu) := rfl
  refine ⟨⟨?_, e.sub, fun i x h hn => ?_, fun i k si sk vi vk p hi hk wi wk oi ok => ?_⟩, e, fun i s v p hi wi o => ?_, fun i a b c d v hi wi => ?_⟩
  · unfold L2.start
    simp
    omega
  · cases i with
    | zero => cases h; exact ⟨wu, g0, m⟩
    | succ i =>
      rcases get i x (by simpa using h) with ⟨d, v, z, g1, g2⟩ | z
      · subst z; exact ⟨v, g1, g2⟩
      · exact absurd z hn
  · cases i with
    | zero =>
      cases k with
      | zero => rfl
      | succ k => exact absurd ok (no _ _ _ _ (tame k sk (by simpa using hk)))
    | succ i => exact absurd oi (no _ _ _ _ (tame i si (by simpa using hi)))
  · cases i with
    | zero => cases hi; rw [g0] at wi; cases wi; exact y p o
    | succ i => exact absurd o (no _ _ _ _ (tame i s (by simpa using hi)))
  · cases i with
    | zero => rw [g0] at wi; cases wi; rfl
    | succ i => exact absurd (tame i _ (by simpa using hi)) (by simp [Sl.tame])
theorem arg_of_rp {K : PySem.W.Frag} {H : Hp} : ∀ {fl : List Bool} {vs : List V} {ds : List PyData}, (∀ b ∈ fl, b = false) → fl.length = ds.length → RpAll K H vs ds → ArgAll K H fl vs ds
  | [], _, [], _, _, r => by cases r; trivial
  | b :: fl, _, d :: ds, h, hl, r => by
    cases r with
    | cons r1 r2 =>
      refine ⟨?_, arg_of_rp (fun c hc => h c (List.mem_cons_of_mem _ hc)) (by simpa using hl) r2⟩
      rw [h b (by simp), if_neg (by simp)]
      exact r1
  | [], _, _ :: _, _, hl, _ => by simp at hl
  | _ :: _, _, [], _, hl, _ => by simp at hl
/-- a def's text is run behind the first mark -/
theorem body_ev {T : Tab} {n : Nat} (F : FDef) (h : mkF F = false) (ρ : Rho) : evss T n F.body ρ = evss T n (bodyF F) (obsR (oxF F) ρ) := by
  obtain ⟨nm, ps, N, b, kd⟩ := F
  cases b with
  | nil => rfl
  | cons s r =>
    cases s with
    | obs is =>
      show evss T n (.cons (.obs is) r) ρ = evss T n r (obsR is ρ)
      rw [evss, evSs, evS]
      rfl
    | mks => cases h
    | _ => rfl
theorem body_mk {T : Tab} {n : Nat} (F : FDef) (h : mkF F = true) {ρ ρ' : Rho} (hm : mksR ρ = some (.nx ρ')) : evss T n F.body ρ = evss T n (bodyF F) ρ' := by
  obtain ⟨nm, ps, N, b, kd⟩ := F
  unfold mkF at h
  split at h
  · rename_i r q
    cases q
    show evss T n (.cons .mks r) ρ = evss T n r ρ'
    rw [evss, evSs, evS, hm]
    rfl
  · cases h
theorem body_srt (F : FDef) (h : srtSs F.body = false) : srtSs (bodyF F) = false := by
  obtain ⟨nm, ps, N, b, kd⟩ := F
  cases b with
  | nil => rfl
  | cons s r =>
    cases s <;> exact h
theorem run_len {T : Tab} {n f : Nat} {F : FDef} {ds : List PyData} {d : PyData} (hF : T.fn f = some F) (h : T.run n f ds = some d) : ds.length = F.ps.length := by
  cases n with
  | zero => cases h
  | succ n =>
    rw [Tab.run, hF] at h
    by_cases c : ds.length = F.ps.length
    · exact c
    · simp [c] at h
theorem run_out {T : Tab} {n f : Nat} {F : FDef} {ds : List PyData} {d : PyData} (hF : T.fn f = some F) (h : T.run (n + 1) f ds = some d) : ds.length = F.ps.length ∧ ∃ o, evss T n F.body (startR F.N.length ds) = some o ∧ outK F.kd o = some d := by
  have hl := run_len hF h
  rw [Tab.run, hF] at h
  have h2 : (if ds.length = F.ps.length then (evSs T.G (T.run n) F.body (startR F.N.length ds)).bind (outK F.kd) else none) = some d := h
  rw [if_pos hl] at h2
  obtain ⟨o, h3, h4⟩ := Option.bind_eq_some_iff.mp h2
  exact ⟨hl, o, h3, h4⟩
theorem pre_len {F : FDef} {sc : Scope} (S : FnScope F.N F.ps sc) : F.ps.length ≤ F.N.length := by
  have := congrArg List.length S.pre
  rw [List.length_take] at this
  omega
section
variable {T : Tab} {K : PySem.W.Frag} {n f : Nat} {F : FDef} {sc : Scope} {d : PyData} {Q : VK}
/-- a def's body from its run -/
theorem body_in {vs : List V} {ds : List PyData} {H Hf : Hp} (S : FnScope F.N F.ps sc) (hk : F.kd = .pl) (hm : mkF F = false) (hF : T.fn f = some F) (sub : Sub H Hf) (r : ArgAll K Hf (flF F) vs ds) (h : T.run (n + 1) f ds = some d) (k : KF K H Hf d Q) :
    tS K (evss T n (bodyF F)) { nx := fun _ H' => Q .non H', rt := Q } (L2.start F.N vs) H := by
  obtain ⟨hl, o, h3, h4⟩ := run_out hF h
  have hN : ds.length ≤ F.N.length := by have := pre_len S; omega
  rw [body_ev F hm] at h3
  rw [hk] at h4
  refine ⟨.non, H, Hf, Hf, _, o, start_ob sub r hN, h3, ?_⟩
  cases o with
  | nx ρ' => cases h4; exact fun σ' H' Hf' sr _ => k .non H' Hf' sr.ext .non
  | rt v => cases h4; exact fun u H' Hf' e ru => k u H' Hf' e ru
  | ro v => cases h4
  | rm v j sm ts kvs => cases h4
theorem body_inB {vs : List V} {ds : List PyData} {H Hf : Hp} (S : FnScope F.N F.ps sc) (hk : F.kd = .bld) (hm : mkF F = false) (hF : T.fn f = some F) (sub : Sub H Hf) (r : ArgAll K Hf (flF F) vs ds) (h : T.run (n + 1) f ds = some d) (k : ∀ v H' Hf', Ext H Hf H' Hf' → Memo.ob K Hf' v d → Q v H') :
    tS K (evss T n (bodyF F)) { nx := fun _ H' => Q .non H', rt := Q } (L2.start F.N vs) H := by
  obtain ⟨hl, o, h3, h4⟩ := run_out hF h
  have hN : ds.length ≤ F.N.length := by have := pre_len S; omega
  rw [body_ev F hm] at h3
  rw [hk] at h4
  refine ⟨.non, H, Hf, Hf, _, o, start_ob sub r hN, h3, ?_⟩
  cases o with
  | ro v => cases h4; exact fun u H' Hf' e ru => k u H' Hf' e ru
  | nx ρ' => cases h4
  | rt v => cases h4
  | rm v j sm ts kvs => cases h4
theorem body_inM {wu : V} {us : List V} {ds : List PyData} {H0 Hf0 H Hf : Hp} {j sm j' sm' : PyData} {ts ts' : List PyData} {kvs kvs' : List (PyData × PyData)} (S : FnScope F.N F.ps sc) (hk : F.kd = .mut) (hm : mkF F = true) (hF : T.fn f = some F) (e : Ext H0 Hf0 H Hf) (m : MkAt K H Hf wu j sm ts kvs) (y : Young H0 H wu j sm ts kvs) (r : RpAll K Hf us ds)
    (h : T.run (n + 1) f (encM j sm ts kvs :: ds) = some (.tuple [d, encM j' sm' ts' kvs'])) (k : ∀ v H' Hf', Ext H0 Hf0 H' Hf' → Same Hf Hf' → MkAt K H' Hf' wu j' sm' ts' kvs' → Young H0 H' wu j' sm' ts' kvs' → Rp K Hf' v d → Q v H') :
    tS K (evss T n (bodyF F)) { nx := fun _ H' => Q .non H', rt := Q } (L2.start F.N (wu :: us)) H := by
  obtain ⟨hl, o, h3, h4⟩ := run_out hF h
  have hN : ds.length + 1 ≤ F.N.length := by have := pre_len S; rw [List.length_cons] at hl; omega
  obtain ⟨ρ, g1, sr⟩ := start_mk (N := F.N) e m y r hN
  rw [body_mk F hm g1] at h3
  rw [hk] at h4
  refine ⟨wu, H0, Hf0, Hf, ρ, o, sr, h3, ?_⟩
  have h4 : outM o = some _ := h4
  unfold outM at h4
  split at h4
  · rename_i a b c c' rr
    simp only [Option.some.injEq, PyData.tuple.injEq, List.cons.injEq, encM, and_true, PyData.list.injEq, PyData.dict.injEq] at h4
    obtain ⟨rfl, rfl, rfl, rfl, rfl⟩ := h4
    intro σ' H' Hf' sr' s'
    obtain ⟨v, w1, w2⟩ := sr'.er.mk_ 0 rfl
    have ew := sr'.me 0 _ _ _ _ _ rfl w1
    subst ew
    exact k .non H' Hf' sr'.ext s' w2 (fun p o => sr'.ny 0 _ _ p rfl w1 o) .non
  · rename_i a b c c' d'
    simp only [Option.some.injEq, PyData.tuple.injEq, List.cons.injEq, encM, and_true, PyData.list.injEq, PyData.dict.injEq] at h4
    obtain ⟨rfl, rfl, rfl, rfl, rfl⟩ := h4
    exact fun v H' Hf' e' s' m' y' r' => k v H' Hf' e' s' m' y' r'
  · cases h4
theorem body_inW {wu : V} {us : List V} {ds : List PyData} {H0 Hf0 H Hf : Hp} {j sm : PyData} {ts : List PyData} {kvs : List (PyData × PyData)} (S : FnScope F.N F.ps sc) (hk : F.kd = .wld) (hm : mkF F = true) (hF : T.fn f = some F) (e : Ext H0 Hf0 H Hf) (m : MkAt K H Hf wu j sm ts kvs) (y : Young H0 H wu j sm ts kvs) (r : RpAll K Hf us ds)
    (h : T.run (n + 1) f (encM j sm ts kvs :: ds) = some d) (k : ∀ v H' Hf', Ext H0 Hf0 H' Hf' → Rp K Hf' v d → Q v H') :
    tS K (evss T n (bodyF F)) { nx := fun _ H' => Q .non H', rt := Q } (L2.start F.N (wu :: us)) H := by
  obtain ⟨hl, o, h3, h4⟩ := run_out hF h
  have hN : ds.length + 1 ≤ F.N.length := by have := pre_len S; rw [List.length_cons] at hl; omega
  obtain ⟨ρ, g1, sr⟩ := start_mk (N := F.N) e m y r hN
  rw [body_mk F hm g1] at h3
  rw [hk] at h4
  refine ⟨wu, H0, Hf0, Hf, ρ, o, sr, h3, ?_⟩
  cases o with
  | rt v => cases h4; exact fun v H' Hf' e r => k v H' Hf' e r
  | nx ρ' => cases h4
  | ro v => cases h4
  | rm v j sm ts kvs => cases h4
end
/-- what is known of objects, of what is made by hand: given all that lies deeper -/
structure ObX (T : Tab) (n : Nat) (P : Program) (w : World) (K : PySem.W.Frag) (mg : Str → Option Value) (base : Heap) : Prop where
  at_ : ∀ k nm, T.at_ k = some nm → AtJ K k nm
  mo : MkOb K
  mc : Memo.dOk → MkCl K
  dk : T.dk = true → Memo.dOk
  dr : DicRules P w K
  nw : ∀ c nm, T.nw c = some nm → (∀ ds, T.run n c ds = none) ∨ ∃ C fI fd lv, mg nm = some (.ref C) ∧ Mk K C fI ∧ Binds K fd ["self", "row"] [] ∧ lv + 1 ≤ T.c * n ∧ FnOk P w K mg base CX0 lv fI fd ["self", "row"] (spInit K C (T.run n c))
  mw : ∀ f F, T.fn f = some F → T.mt f = true → F.kd = .wld → (∀ ds, T.run n f ds = none) ∨ ∃ fI fd lv, mg "Maker" = some (.ref Memo.cm) ∧ Mk K Memo.cm fI ∧ Binds K fd ["self", "judge", "some"] [] ∧ lv + 1 ≤ T.c * n ∧ FnOk P w K mg base CX0 lv fI fd ["self", "judge", "some"] (spMI K)
  fv : ∀ H v j, Memo.ob K H v (.int j) → ∃ F, T.fn j.toNat = some F ∧ srtSs F.body = false ∧ (oxF F).isEmpty = true ∧ T.mt j.toNat = false ∧ F.kd = .pl ∧ ∃ g, v = .ref g ∧ mg F.name = some (.ref g)
  fvI : ∀ H f F g, T.fv f = true → T.fn f = some F → srtSs F.body = false → (oxF F).isEmpty = true → T.mt f = false → F.kd = .pl → mg F.name = some (.ref g) → Memo.ob K H (.ref g) (.int (f : Nat))
structure TabOk (T : Tab) (K : PySem.W.Frag) (w : World) (mg : Str → Option Value) : Prop where
  cp : 1 ≤ T.c
  fn : ∀ f F, T.fn f = some F → T.mt f = false → ∃ st a fd, DefAt K mg F st a fd ∧ (T.hd f = false → chkD T F st = true)
  blt : ∀ x ∈ bNames, mg x = none
  glb : ∀ g x d, T.glb g = some (x, d) → ∃ u v, mg x = some u ∧ RelV v u ∧ ((∀ H, Rp K H v d) ∨ ∃ kvs, d = .dict kvs ∧ GDic K w v kvs)
  mth : ∀ f F, T.fn f = some F → T.mt f = true → ∃ st C a fd, MethAt K F (T.mm f) st C a fd ∧ chkD T F st = true
/-- what each def keeps at a level -/
structure GenOk (T : Tab) (n : Nat) (P : Program) (w : World) (K : PySem.W.Frag) (mg : Str → Option Value) (base : Heap) : Prop where
  fn : ∀ f F, T.fn f = some F → T.mt f = false → F.kd = .pl → srtSs F.body = false → ∃ a fd, mg F.name = some (.ref a) ∧ PySem.W.keepIn K (.ref a) = true ∧ Binds K fd F.ps [] ∧ FnOk P w K mg base CX0 (T.c * n) a fd F.ps (spG K (flF F) (T.run n f))
  bo : ∀ f F, T.fn f = some F → T.mt f = false → F.kd = .bld → srtSs F.body = false → ∃ a fd, mg F.name = some (.ref a) ∧ PySem.W.keepIn K (.ref a) = true ∧ Binds K fd F.ps [] ∧ FnOk P w K mg base CX0 (T.c * n) a fd F.ps (spB K (flF F) (T.run n f))
  mt : ∀ f F, T.fn f = some F → T.mt f = true → F.kd = .pl → srtSs F.body = false → ∃ C a fd, Cls K C ∧ Meth K C F.name a ∧ Binds K fd F.ps [] ∧ FnOk P w K mg base CX0 (T.c * n) a fd F.ps (spG K (flF F) (T.run n f)) ∧
    ∀ H v d, Memo.ob K H v d → HkS (hkOf (T.mm f)) d → ∃ q dx gs, v = .ref q ∧ H q = some (.ins C dx gs) ∧ gs.lookup F.name = none
  mu : ∀ f F, T.fn f = some F → T.mt f = true → F.kd = .mut → srtSs F.body = false → ∃ a fd, Meth K Memo.cm F.name a ∧ Binds K fd F.ps [] ∧ FnOk P w K mg base CX0 (T.c * n) a fd F.ps (spM K (T.run n f)) ∧ ∀ vj vs p q, (mkFs vj vs p q).lookup F.name = none
  wd : ∀ f F, T.fn f = some F → T.mt f = true → F.kd = .wld → srtSs F.body = false → ∃ a fd, Meth K Memo.cm F.name a ∧ Binds K fd F.ps [] ∧ FnOk P w K mg base CX0 (T.c * n) a fd F.ps (spW K (T.run n f)) ∧ ∀ vj vs p q, (mkFs vj vs p q).lookup F.name = none
theorem spD_G {K : PySem.W.Frag} {F : FDef} {f : List PyData → Option PyData} (ho : (oxF F).isEmpty = true) (hl : ∀ ds d, f ds = some d → ds.length = F.ps.length) : ∀ vs H Q E, spD K f vs H Q E → spG K (flF F) f vs H Q E := by
  rintro vs H Q E ⟨Hf, ds, d, sub, r, h, k⟩
  refine ⟨Hf, ds, d, sub, arg_of_rp (fun b hb => ?_) ?_ r, h, k⟩
  · unfold flF at hb
    obtain ⟨i, _, rfl⟩ := List.mem_map.mp hb
    have : oxF F = [] := List.isEmpty_iff.mp ho
    rw [this]; rfl
  · unfold flF
    rw [List.length_map, List.length_range, hl ds d h]
/-- hypotheses of all that is made by hand -/
structure ByHand (T : Tab) (P : Program) (w : World) (K : PySem.W.Frag) (mg : Str → Option Value) (base : Heap) : Prop where
  ob : ∀ n, (∀ m, m < n → GenOk T m P w K mg base) → ObX T n P w K mg base
  me : ∀ n X, Cok T n X → X.prog = P → X.w = w → X.K = K → X.mg = mg → X.base = base → X.fn = (fun _ => true) → ∀ k nm f, T.me k = some (nm, f) → MeRule T n X nm f
  hdk : ∀ f F, T.hd f = true → T.fn f = some F → F.kd = .pl
  hd : ∀ n, GenOk T n P w K mg base → ∀ f F x q st a fd, T.hd f = true → T.fn f = some F → mg F.name = some (.ref a) → Fun K x q st a fd → FnOk P w K mg base CX0 (T.c * (n + 1)) a fd F.ps (spG K (flF F) (T.run (n + 1) f))
theorem ob_of {T : Tab} {n : Nat} {P : Program} {w : World} {K : PySem.W.Frag} {mg : Str → Option Value} {base : Heap} (g : GenOk T n P w K mg base) (o : ObX T n P w K mg base) : ObOk T n P w K mg base :=
  ⟨o.at_, o.mo, o.mc, o.dk, o.dr, g.mt, g.mu, g.wd, fun f F h1 h2 h3 h4 _ => g.fn f F h1 h2 h3 h4, g.bo, o.nw, o.mw, o.fv, o.fvI⟩
section
variable {P : Program} {w : World} {T : Tab} {K : PySem.W.Frag} {mg : Str → Option Value} {base : Heap}
theorem cok_fn {n : Nat} (g : GenOk T n P w K mg base) : ∀ f F, T.fn f = some F → srtSs F.body = false → (oxF F).isEmpty = true → T.mt f = false → F.kd = .pl → ∃ a fd, mg F.name = some (.ref a) ∧ PySem.W.keepIn K (.ref a) = true ∧ Binds K fd F.ps [] ∧ FnOk P w K mg base CX0 (T.c * n) a fd F.ps (spD K (T.run n f)) := by
  intro f F hF hs ho hm hk
  obtain ⟨a, fd, h1, h2, h3, h4⟩ := g.fn f F hF hm hk hs
  exact ⟨a, fd, h1, h2, h3, h4.imp (spD_G ho fun ds d h => run_len hF h)⟩
/-- a def of the table, from what lies deeper: by its body's reading -/
theorem def_by (O : TabOk T K w mg) (B : ByHand T P w K mg base) {n : Nat} (g : GenOk T n P w K mg base) (o : ObX T n P w K mg base) {F : FDef} {x q : Str} {st : Stmt} {a : Addr} {fd : FuncData} {sp : Sp} (D : Fun K x q st a fd) (hc : chkD T F st = true) (hs : srtSs F.body = false)
    (hl : ∀ vs H Q E, sp vs H Q E → vs.length = F.ps.length)
    (hb : FnScope F.N F.ps (defScope st) → ∀ vs H Q E, sp vs H Q E → tS K (evss T n (bodyF F)) { nx := fun _ H' => Q .non H', rt := Q } (L2.start F.N vs) H) :
    FnOk P w K mg base CX0 (T.c * (n + 1)) a fd F.ps sp := by
  have el : T.c * (n + 1) = T.c * n + (T.c - 1) + 1 := by have := O.cp; rw [Nat.mul_succ]; omega
  rw [el]
  simp only [chkD, Bool.and_eq_true] at hc
  have S := scope_of hc.1.1
  refine D.ok S hl fun cdv A outer s H vs Q E hr h => ?_
  have C : Cok T n (cxOf CX0 P w K mg base F.N q (defScope st) a cdv A outer s H E).nox :=
    ⟨S.nd, rfl, rfl, S.kind, hr.mono (by omega), O.blt, O.glb, ob_of g o, cok_fn g⟩
  exact ⟨_, sndSs (bodyF F) _ _ C ⟨fun z => absurd z (by rw [body_srt F hs]; simp), B.me n _ C rfl rfl rfl rfl rfl rfl⟩ rfl hc.1.2, hb S vs H Q E h⟩
theorem kd_mk {F : FDef} {st : Stmt} (hc : chkD T F st = true) : ((F.kd = .pl ∨ F.kd = .bld) → mkF F = false) ∧ ((F.kd = .mut ∨ F.kd = .wld) → mkF F = true) := by
  simp only [chkD, Bool.and_eq_true] at hc
  have h := hc.2
  unfold kdB at h
  constructor
  · rintro (e | e) <;> (rw [e] at h; simpa using h)
  · rintro (e | e) <;> (rw [e] at h; simpa using h)
theorem def_gen (O : TabOk T K w mg) (B : ByHand T P w K mg base) {n : Nat} (g : GenOk T n P w K mg base) (o : ObX T n P w K mg base) {f : Nat} {F : FDef} {x q : Str} {st : Stmt} {a : Addr} {fd : FuncData} (D : Fun K x q st a fd) (hc : chkD T F st = true) (hF : T.fn f = some F) (hk : F.kd = .pl) (hs : srtSs F.body = false) :
    FnOk P w K mg base CX0 (T.c * (n + 1)) a fd F.ps (spG K (flF F) (T.run (n + 1) f)) :=
  def_by O B g o D hc hs (fun vs H Q E ⟨Hf, ds, d, sub, r, h, _⟩ => by rw [r.length.1]; exact run_len hF h) fun S vs H Q E ⟨Hf, ds, d, sub, r, h, k⟩ => body_in S hk ((kd_mk hc).1 (.inl hk)) hF sub r h k
theorem def_bld (O : TabOk T K w mg) (B : ByHand T P w K mg base) {n : Nat} (g : GenOk T n P w K mg base) (o : ObX T n P w K mg base) {f : Nat} {F : FDef} {x q : Str} {st : Stmt} {a : Addr} {fd : FuncData} (D : Fun K x q st a fd) (hc : chkD T F st = true) (hF : T.fn f = some F) (hk : F.kd = .bld) (hs : srtSs F.body = false) :
    FnOk P w K mg base CX0 (T.c * (n + 1)) a fd F.ps (spB K (flF F) (T.run (n + 1) f)) :=
  def_by O B g o D hc hs (fun vs H Q E ⟨Hf, ds, d, sub, r, h, _⟩ => by rw [r.length.1]; exact run_len hF h) fun S vs H Q E ⟨Hf, ds, d, sub, r, h, k⟩ => body_inB S hk ((kd_mk hc).1 (.inr hk)) hF sub r h k
theorem def_mut (O : TabOk T K w mg) (B : ByHand T P w K mg base) {n : Nat} (g : GenOk T n P w K mg base) (o : ObX T n P w K mg base) {f : Nat} {F : FDef} {x q : Str} {st : Stmt} {a : Addr} {fd : FuncData} (D : Fun K x q st a fd) (hc : chkD T F st = true) (hF : T.fn f = some F) (hk : F.kd = .mut) (hs : srtSs F.body = false) :
    FnOk P w K mg base CX0 (T.c * (n + 1)) a fd F.ps (spM K (T.run (n + 1) f)) := by
  refine def_by O B g o D hc hs (fun vs H Q E h => ?_) fun S vs H Q E h => ?_
  · obtain ⟨H0, Hf0, Hf, u, us, j, sm, ts, kvs, ds, d, j', sm', ts', kvs', rfl, e, m, y, r, h, k⟩ := h
    have := run_len hF h
    rw [List.length_cons, r.length]
    simpa using this
  · obtain ⟨H0, Hf0, Hf, u, us, j, sm, ts, kvs, ds, d, j', sm', ts', kvs', rfl, e, m, y, r, h, k⟩ := h
    exact body_inM S hk ((kd_mk hc).2 (.inl hk)) hF e m y r h k
theorem def_wld (O : TabOk T K w mg) (B : ByHand T P w K mg base) {n : Nat} (g : GenOk T n P w K mg base) (o : ObX T n P w K mg base) {f : Nat} {F : FDef} {x q : Str} {st : Stmt} {a : Addr} {fd : FuncData} (D : Fun K x q st a fd) (hc : chkD T F st = true) (hF : T.fn f = some F) (hk : F.kd = .wld) (hs : srtSs F.body = false) :
    FnOk P w K mg base CX0 (T.c * (n + 1)) a fd F.ps (spW K (T.run (n + 1) f)) := by
  refine def_by O B g o D hc hs (fun vs H Q E h => ?_) fun S vs H Q E h => ?_
  · obtain ⟨H0, Hf0, Hf, u, us, j, sm, ts, kvs, ds, d, rfl, e, m, y, r, h, k⟩ := h
    have := run_len hF h
    rw [List.length_cons, r.length]
    simpa using this
  · obtain ⟨H0, Hf0, Hf, u, us, j, sm, ts, kvs, ds, d, rfl, e, m, y, r, h, k⟩ := h
    exact body_inW S hk ((kd_mk hc).2 (.inr hk)) hF e m y r h k
theorem no_fn {lv : Nat} {a : Addr} {fd : FuncData} {ps : List Str} {sp : Sp} (no : ∀ vs H Q E, ¬ sp vs H Q E) : FnOk P w K mg base CX0 lv a fd ps sp :=
  ⟨fun vs H Q E h => absurd h (no vs H Q E), fun A outer s H args us vs Q E _ _ _ _ h => absurd h (no vs H Q E)⟩
theorem gen_zero (O : TabOk T K w mg) : GenOk T 0 P w K mg base := by
  refine ⟨fun f F hF hm hk hs => ?_, fun f F hF hm hk hs => ?_, fun f F hF hm hk hs => ?_, fun f F hF hm hk hs => ?_, fun f F hF hm hk hs => ?_⟩
  · obtain ⟨st, a, fd, D, _⟩ := O.fn f F hF hm
    obtain ⟨_, _, D1⟩ := D.fn
    exact ⟨a, fd, D.mgf, D1.kp, D.bnd, no_fn fun vs H Q E ⟨_, _, _, _, _, h, _⟩ => nomatch h⟩
  · obtain ⟨st, a, fd, D, _⟩ := O.fn f F hF hm
    obtain ⟨_, _, D1⟩ := D.fn
    exact ⟨a, fd, D.mgf, D1.kp, D.bnd, no_fn fun vs H Q E ⟨_, _, _, _, _, h, _⟩ => nomatch h⟩
  · obtain ⟨st, C, a, fd, D, _⟩ := O.mth f F hF hm
    exact ⟨C, a, fd, D.cls, D.mth, D.bnd, no_fn fun vs H Q E ⟨_, _, _, _, _, h, _⟩ => (nomatch h), D.ob hk⟩
  · obtain ⟨st, C, a, fd, D, _⟩ := O.mth f F hF hm
    obtain ⟨rfl, lk⟩ := D.mk_ (by rw [hk]; simp)
    exact ⟨a, fd, D.mth, D.bnd, no_fn fun vs H Q E ⟨_, _, _, _, _, _, _, _, _, _, _, _, _, _, _, _, _, _, _, _, h, _⟩ => (nomatch h), lk⟩
  · obtain ⟨st, C, a, fd, D, _⟩ := O.mth f F hF hm
    obtain ⟨rfl, lk⟩ := D.mk_ (by rw [hk]; simp)
    exact ⟨a, fd, D.mth, D.bnd, no_fn fun vs H Q E ⟨_, _, _, _, _, _, _, _, _, _, _, _, _, _, _, _, h, _⟩ => (nomatch h), lk⟩
theorem gen_succ (O : TabOk T K w mg) (B : ByHand T P w K mg base) {n : Nat} (g : GenOk T n P w K mg base) (o : ObX T n P w K mg base) : GenOk T (n + 1) P w K mg base := by
  refine ⟨fun f F hF hm hk hs => ?_, fun f F hF hm hk hs => ?_, fun f F hF hm hk hs => ?_, fun f F hF hm hk hs => ?_, fun f F hF hm hk hs => ?_⟩
  · obtain ⟨st, a, fd, D, hc⟩ := O.fn f F hF hm
    obtain ⟨_, _, D1⟩ := D.fn
    cases hh : T.hd f with
    | false => exact ⟨a, fd, D.mgf, D1.kp, D.bnd, def_gen O B g o D1 (hc hh) hF hk hs⟩
    | true => exact ⟨a, fd, D.mgf, D1.kp, D.bnd, B.hd n g f F _ _ st a fd hh hF D.mgf D1⟩
  · obtain ⟨st, a, fd, D, hc⟩ := O.fn f F hF hm
    obtain ⟨_, _, D1⟩ := D.fn
    have hh : T.hd f = false := by
      cases hh : T.hd f with
      | false => rfl
      | true => rw [B.hdk f F hh hF] at hk; cases hk
    exact ⟨a, fd, D.mgf, D1.kp, D.bnd, def_bld O B g o D1 (hc hh) hF hk hs⟩
  · obtain ⟨st, C, a, fd, D, hc⟩ := O.mth f F hF hm
    obtain ⟨q, D1⟩ := D.fn
    exact ⟨C, a, fd, D.cls, D.mth, D.bnd, def_gen O B g o D1 hc hF hk hs, D.ob hk⟩
  · obtain ⟨st, C, a, fd, D, hc⟩ := O.mth f F hF hm
    obtain ⟨q, D1⟩ := D.fn
    obtain ⟨rfl, lk⟩ := D.mk_ (by rw [hk]; simp)
    exact ⟨a, fd, D.mth, D.bnd, def_mut O B g o D1 hc hF hk hs, lk⟩
  · obtain ⟨st, C, a, fd, D, hc⟩ := O.mth f F hF hm
    obtain ⟨q, D1⟩ := D.fn
    obtain ⟨rfl, lk⟩ := D.mk_ (by rw [hk]; simp)
    exact ⟨a, fd, D.mth, D.bnd, def_wld O B g o D1 hc hF hk hs, lk⟩
/-- every def of the table keeps its promise, at every level -/
theorem all_gen (O : TabOk T K w mg) (B : ByHand T P w K mg base) : ∀ n, GenOk T n P w K mg base := by
  intro n
  induction n using Nat.strongRecOn with
  | ind n ih =>
    cases n with
    | zero => exact gen_zero O
    | succ n => exact gen_succ O B (ih n (by omega)) (B.ob n fun m hm => ih m (by omega))
theorem all_ob (O : TabOk T K w mg) (B : ByHand T P w K mg base) (n : Nat) : ObOk T n P w K mg base := ob_of (all_gen O B n) (B.ob n fun m _ => all_gen O B m)
/-- a table without objects -/
structure NoOb (T : Tab) : Prop where
  at_ : ∀ k, T.at_ k = none
  mt : ∀ k, T.mt k = false
  nw : ∀ k, T.nw k = none
  me : ∀ k, T.me k = none
  fv : ∀ k, T.fv k = false
  dk : T.dk = false
  hd : ∀ f, T.hd f = false
theorem noob_hand (N : NoOb T) (hob : ∀ K H v d, ¬ Memo.ob K H v d) (hd : ¬ Memo.dOk) : ByHand T P w K mg base :=
  ⟨fun n _ => ⟨fun k nm h => (by rw [N.at_] at h; cases h), fun H v j sm ts t h => absurd h (hob _ _ _ _), fun d => absurd d hd, fun h => (by rw [N.dk] at h; cases h), fun d => absurd d hd, fun k nm h => (by rw [N.nw] at h; cases h), fun f F _ h => (by rw [N.mt] at h; cases h),
    fun H v j h => absurd h (hob _ _ _ _), fun H f F g h => (by rw [N.fv] at h; cases h)⟩, fun n X _ _ _ _ _ _ _ k nm f h => (by rw [N.me] at h; cases h), fun f F h => (by rw [N.hd] at h; cases h), fun n _ f F x q st a fd h => (by rw [N.hd] at h; cases h)⟩
end
end Ev

/-! EvJ: from a table of defs to a law's row. -/
namespace Ev
variable [Memo]
open PySem PySem.Spec PyProof.Rows L2
/-- the words that stand in the texts -/
inductive Wd where
  | each | some | x | y | a | b | to | not | both | either | yes | no | lacks | splits | none | empty | nil | dash | blank | semi | sem
  deriving DecidableEq
def Wd.s : Wd → Str
  | .each => "each" | .some => "some" | .x => "x" | .y => "y" | .a => "a" | .b => "b" | .to => "to" | .not => "not" | .both => "both" | .either => "either" | .yes => "yes" | .no => "no"
  | .lacks => "lacks" | .splits => "splits" | .none => "none" | .empty => "empty" | .nil => "" | .dash => "-" | .blank => " " | .semi => " ; " | .sem => ";"
theorem Wd.s_inj : ∀ a b : Wd, (a.s = b.s) ↔ a = b := by
  have h : ∀ a b : Wd, decide (a.s = b.s) = decide (a = b) := by
    intro a b
    cases a <;> cases b <;> decide +kernel
  intro a b
  have := h a b
  constructor
  · intro e
    rw [decide_eq_true e] at this
    exact of_decide_eq_true this.symm
  · intro e; rw [e]
theorem Wd.s_beq (a b : Wd) : (a.s == b.s) = decide (a = b) := by
  rw [Bool.beq_eq_decide_eq]
  by_cases h : a = b
  · subst h; simp
  · rw [decide_eq_false h, decide_eq_false fun e => h ((Wd.s_inj a b).mp e)]
/-- the hard part of a heap -/
def hardPart (H : Hp) : Hp := fun b => match H b with
  | some (.ext _) => none
  | some (.tbl _) => none
  | o => o
omit [Memo] in
theorem hp_some {H : Hp} {p : Addr} {o : HO} (h : hardPart H p = some o) : H p = some o ∧ hard o := by
  unfold hardPart at h
  split at h
  · cases h
  · cases h
  · rename_i q1 q2
    refine ⟨h, ?_⟩
    cases o with
    | ext φ => exact absurd h (q1 φ)
    | tbl φ => exact absurd h (q2 φ)
    | _ => trivial
omit [Memo] in
theorem hp_of {H : Hp} {p : Addr} {o : HO} (h : H p = some o) (ho : hard o) : hardPart H p = some o := by
  unfold hardPart
  rw [h]
  cases o <;> first | rfl | exact ho.elim
theorem hp_sub {H : Hp} (i : Memo.inv H (hardPart H)) : Sub H (hardPart H) := ⟨fun p o h => (hp_some h).1, i, fun p o h => .inl (hp_some h).2⟩
omit [Memo] in
theorem hp_seq {K : PySem.W.Frag} {H : Hp} {a : Addr} {xs : List V} (h : SqL K H a xs) : SqL K (hardPart H) a xs := by
  rcases h with (h | ⟨o, h⟩) | h
  · exact .inl (.inl (hp_of h trivial))
  · exact .inl (.inr ⟨o, hp_of h trivial⟩)
  · exact .inr h
/-- nothing is kept in mind -/
def Memo.none : Memo where
  ob := fun _ _ _ _ => False
  dic := fun _ _ _ => False
  dOk := False
  cm := sysModules
  ob_mono := fun _ h => h
  ob_tab := fun d => d.elim
  ob_mk := fun d => d.elim
  inv := fun _ _ => True
  may := fun _ _ => False
  may_mono := fun _ h => h
  may_upd := fun _ _ h => h
  may_ext := fun _ h => h.elim
  inv_alloc := fun _ _ _ => trivial
  inv_frz := fun _ _ _ _ _ => trivial
  inv_put := fun _ _ _ _ _ _ => trivial
  inv_dic := fun _ d => d.elim
instance (priority := 10) memoDefault : Memo := Memo.none
def spLaw (K : PySem.W.Frag) : Sp := fun vs H Q _ => ∃ (a : Addr) (ns : List Int), vs = [.ref a] ∧ SqL K H a (ns.map V.int) ∧ ns.length ≤ 63 ∧ ∀ H', Q (.bl true) H'
section
variable {K : PySem.W.Frag} {mg : Str → Option Value}
theorem spl_gen {T : Tab} {f n : Nat} (i0 : ∀ H, Memo.inv H (hardPart H)) (h : ∀ ns : List Int, ns.length ≤ 63 → T.run n f [.list (ns.map .int)] = some (.bool true)) : ∀ vs H Q E, spLaw K vs H Q E → spD K (T.run n f) vs H Q E := by
  rintro vs H Q E ⟨a, ns, rfl, hS, h63, q⟩
  refine ⟨hardPart H, _, _, hp_sub (i0 H), .cons (.lst (hp_seq hS) ?_ (RpAll.of_ints ns)) .nil, h ns h63, fun v H' Hf' e r => ?_⟩
  · rw [List.length_map, sizeLine_eq]; omega
  · cases r
    exact q H'
theorem def_at {F : FDef} {x q : Str} {st : Stmt} {f : Addr} {oc : Value} {od an : Option Addr} {osl : Array (Option Value)} {kV doc pm cdv ct : Value} (m : mg F.name = some (.ref f)) (l : K.lookup f = some ⟨oc, od, .func (PySem.W.fnOf x q (defArgs st) (defBody st) (defScope st) .none kV doc pm an cdv ct), osl⟩)
    (c : PySem.W.codeIn K cdv q = true) (k : PySem.W.keepIn K (.ref f) = true)
    (h : ∀ us : List Value, us.length = F.ps.length → bindArgs (PySem.W.fnOf x q (defArgs st) (defBody st) (defScope st) .none kV doc pm an cdv ct) ⟨us, []⟩ = pure (F.ps.zip us)) :
    DefAt K mg F st f (PySem.W.fnOf x q (defArgs st) (defBody st) (defScope st) .none kV doc pm an cdv ct) :=
  ⟨⟨x, q, fun_mk l c k⟩, m, .all h⟩
/-- a method -/
theorem meth_at {F : FDef} {mm : Bool} {x q : Str} {st : Stmt} {C f : Addr} {oc : Value} {od an : Option Addr} {osl : Array (Option Value)} {kV doc pm cdv ct : Value} (cl : Cls K C) (m : PySem.W.findIn K (.ref C) F.name = some (some (.ref f))) (i : PySem.W.isFn K (.ref f) = true)
    (l : K.lookup f = some ⟨oc, od, .func (PySem.W.fnOf F.name q (defArgs st) (defBody st) (defScope st) .none kV doc pm an cdv ct), osl⟩)
    (c : PySem.W.codeIn K cdv q = true) (k : PySem.W.keepIn K (.ref f) = true)
    (ob : F.kd = .pl → ∀ H v d, Memo.ob K H v d → HkS (hkOf mm) d → ∃ q dx gs, v = .ref q ∧ H q = some (.ins C dx gs) ∧ gs.lookup F.name = none)
    (mk : F.kd ≠ .pl → C = Memo.cm ∧ ∀ vj vs p q, (mkFs vj vs p q).lookup F.name = none)
    (h : ∀ us : List Value, us.length = F.ps.length → bindArgs (PySem.W.fnOf F.name q (defArgs st) (defBody st) (defScope st) .none kV doc pm an cdv ct) ⟨us, []⟩ = pure (F.ps.zip us)) :
    MethAt K F mm st C f (PySem.W.fnOf F.name q (defArgs st) (defBody st) (defScope st) .none kV doc pm an cdv ct) :=
  ⟨⟨q, fun_mk l c k⟩, cl, ⟨m, i, k⟩, .all h, ob, mk⟩
/-- a module's constant -/
def GlbAt (K : PySem.W.Frag) (w : World) (u : Value) (d : PyData) : Prop := ∃ v, RelV v u ∧ ((∀ H, Rp K H v d) ∨ ∃ kvs, d = .dict kvs ∧ GDic K w v kvs)
theorem GlbAt.int {i : Int} {t : Tok} {w : World} : GlbAt K w (.int i t) (.int i) := ⟨.int i, ⟨t, rfl⟩, .inl fun _ => .int i⟩
theorem glb_at {x : Str} {u : Value} {d : PyData} {w : World} (m : mg x = some u) (h : GlbAt K w u d) : ∃ u v, mg x = some u ∧ RelV v u ∧ ((∀ H, Rp K H v d) ∨ ∃ kvs, d = .dict kvs ∧ GDic K w v kvs) :=
  let ⟨v, h1, h2⟩ := h
  ⟨u, v, m, h1, h2⟩
/-- a tuple of two texts -/
theorem GlbAt.strs2 {w : World} {a : Addr} {x y : Str} {t1 t2 : Tok} {o : Obj} (h : K.lookup a = some o) (hc : o.cls = .type "tuple") {n : Nat} (hd : o.data = .seq #[.str x t1, .str y t2] n) (h1 : decide (x.length ≤ sizeLine) && PyData.strOk x = true) (h2 : decide (y.length ≤ sizeLine) && PyData.strOk y = true) :
    GlbAt K w (.ref a) (.tuple [.str x, .str y]) := by
  simp only [Bool.and_eq_true, decide_eq_true_eq] at h1 h2
  refine ⟨.ref a, rfl, .inl fun H => .tup (xs := [.str x, .str y]) (.inr ⟨o, #[.str x t1, .str y t2], n, h, hc, hd, by show 2 ≤ sizeLine; decide, .cons ⟨t1, rfl⟩ (.cons ⟨t2, rfl⟩ .nil)⟩) (by show 2 ≤ sizeLine; decide) (.cons (.str _ h1.1 h1.2) (.cons (.str _ h2.1 h2.2) .nil))⟩
/-- a dict of texts to ints -/
def gdOk (P : Params) : List DictEntry → List (PyData × PyData) → Prop
  | [], [] => True
  | e :: es, (.str x, .int i) :: kvs => (∃ t, e.key = .str x t) ∧ e.hash = PyData.keyHash P x ∧ (∃ t, e.val = .int i t) ∧ gdOk P es kvs
  | _, _ => False
theorem gdOk_cons {P : Params} {e : DictEntry} {es : List DictEntry} {kvs : List (PyData × PyData)} (h : gdOk P (e :: es) kvs) : ∃ x i t t' r, kvs = (.str x, .int i) :: r ∧ e.key = .str x t ∧ e.hash = PyData.keyHash P x ∧ e.val = .int i t' ∧ gdOk P es r := by
  unfold gdOk at h
  split at h
  · cases ‹_ :: _ = []›
  · rename_i e1 es1 x i kvs1 h1
    cases h1
    obtain ⟨⟨t, a1⟩, a2, ⟨t', a3⟩, a4⟩ := h
    exact ⟨x, i, t, t', _, rfl, a1, a2, a3, a4⟩
  · exact h.elim
theorem gdOk_lit {P : Params} : ∀ {es : List DictEntry} {kvs : List (PyData × PyData)}, gdOk P es kvs → PySem.W.KeysLit P es
  | [], _, _ => trivial
  | e :: es, kvs, h => by
    obtain ⟨x, i, t, t', r, rfl, a1, a2, a3, a4⟩ := gdOk_cons h
    exact ⟨⟨x, t, a1, a2⟩, gdOk_lit a4⟩
theorem gdOk_get {P : Params} (z : Str) : ∀ {es : List DictEntry} {kvs : List (PyData × PyData)}, gdOk P es kvs →
    (∀ d, dkGet kvs z = some d → ∃ e i t, es.find? (·.key.isStr z) = some e ∧ d = .int i ∧ e.val = .int i t) ∧ (dkGet kvs z = none → es.find? (·.key.isStr z) = none) ∧ es.any (·.refKey) = false
  | [], kvs, h => by
    have : kvs = [] := by
      cases kvs with
      | nil => rfl
      | cons a r => exact h.elim
    subst this
    exact ⟨fun d hd => (by cases hd), fun _ => rfl, rfl⟩
  | e :: es, kvs, h => by
    obtain ⟨x, i, t, t', r, rfl, a1, a2, a3, a4⟩ := gdOk_cons h
    obtain ⟨h1, h2, h3⟩ := gdOk_get z a4
    have hk : e.key.isStr z = decide (x = z) := by rw [a1]; show (x == z) = _; rw [Bool.beq_eq_decide_eq]
    have hr : e.refKey = false := by unfold DictEntry.refKey; rw [a1]
    refine ⟨fun d hd => ?_, fun hd => ?_, by rw [List.any_cons, hr, h3]; rfl⟩
    · have hd' : (if x = z then some (PyData.int i) else dkGet r z) = some d := hd
      by_cases c : x = z
      · rw [if_pos c] at hd'
        cases hd'
        exact ⟨e, i, t', by rw [List.find?_cons_of_pos (by rw [hk]; simpa using c)], rfl, a3⟩
      · rw [if_neg c] at hd'
        rw [List.find?_cons_of_neg (by rw [hk]; simpa using c)]
        exact h1 d hd'
    · have hd' : (if x = z then some (PyData.int i) else dkGet r z) = none := hd
      by_cases c : x = z
      · rw [if_pos c] at hd'; cases hd'
      · rw [if_neg c] at hd'
        rw [List.find?_cons_of_neg (by rw [hk]; simpa using c)]
        exact h2 hd'
theorem GlbAt.dct {w : World} {a : Addr} {es : Array DictEntry} {n : Nat} {kvs : List (PyData × PyData)} (h : K.lookup a = some ⟨.type "dict", none, .dict es n, #[]⟩) (hd : (a == sysModules) = false) (ok : gdOk w.params es.toList kvs) : GlbAt K w (.ref a) (.dict kvs) := by
  refine ⟨.ref a, rfl, .inr ⟨kvs, rfl, a, es, n, rfl, ⟨h, gdOk_lit ok, hd⟩, fun z => ?_⟩⟩
  obtain ⟨h1, h2, h3⟩ := gdOk_get z ok
  have e : PySem.W.nsIn K a z = match es.toList.find? (·.key.isStr z) with
      | some e => some (some e.val)
      | none => if es.toList.any (·.refKey) then none else some none := by
    unfold PySem.W.nsIn
    rw [h]
    rfl
  cases c : dkGet kvs z with
  | none =>
    rw [h2 c, h3] at e
    exact ⟨none, e, fun d hd => (by cases hd), fun _ => rfl⟩
  | some d =>
    obtain ⟨f, i, t, g1, rfl, g2⟩ := h1 d c
    rw [g1] at e
    refine ⟨some f.val, e, fun d hd => ?_, fun hd => (by cases hd)⟩
    cases hd
    exact ⟨f.val, .int i, rfl, ⟨t, g2⟩, fun _ => .int i⟩
theorem all_of {P : Program} {w : World} {T : Tab} {base : Heap} (O : TabOk T K w mg) (B : ByHand T P w K mg base) (n : Nat) {f : Nat} {F : FDef} {st : Stmt} {a : Addr} {fd : FuncData} (D : DefAt K mg F st a fd) (hc : chkD T F st = true) (hF : T.fn f = some F) (ho : (oxF F).isEmpty = true := by rfl) (hs : srtSs F.body = false := by rfl) (hk : F.kd = .pl := by rfl) :
    FnOk P w K mg base CX0 (T.c * n) a fd F.ps (spD K (T.run n f)) := by
  cases n with
  | zero =>
    have no : ∀ vs H Q E, ¬ spD K (T.run 0 f) vs H Q E := fun vs H Q E ⟨_, _, _, _, _, h, _⟩ => nomatch h
    exact ⟨fun vs H Q E h => absurd h (no vs H Q E), fun A outer s H args us vs Q E _ _ _ _ h => absurd h (no vs H Q E)⟩
  | succ n =>
    have g := all_gen O B n
    obtain ⟨_, _, D1⟩ := D.fn
    exact (def_gen O B g (B.ob n fun m _ => all_gen O B m) D1 hc hF hk hs).imp (spD_G ho fun ds d h => run_len hF h)
/-- a law that makes a key function: what is kept in mind is its code's table -/
def lamMemo (P : Addr) (q : Str) : Memo where
  ob := fun _ _ _ _ => False
  dic := fun _ _ _ => False
  dOk := False
  cm := sysModules
  ob_mono := fun _ h => h
  ob_tab := fun d => d.elim
  ob_mk := fun d => d.elim
  inv_dic := fun _ d => d.elim
  inv := fun H _ => LamX.TabS H P q
  may := fun _ _ => False
  may_mono := fun _ h => h
  may_upd := fun _ _ h => h
  may_ext := fun _ h => h.elim
  inv_alloc := fun o hp h => LamX.TabS.ext h (fun b u e => same_upd hp o b u e)
  inv_frz := fun _ _ _ _ h => h
  inv_put := fun {H Hf p o} o' hp ho ho' _ ⟨ps, h1, h2, h3⟩ => by
    have kp : ∀ b u, ¬ hard u → H b = some u → upd H p o' b = some u := fun b u hu e => by
      rw [upd_ne (fun z => by subst z; rw [hp] at e; cases e; exact hu ho)]
      exact e
    exact ⟨ps, kp _ _ (fun z => z) h1, h2, fun pos cv hc => by
      obtain ⟨c, e1, e2⟩ := h3 pos cv hc
      exact ⟨c, e1, kp _ _ (fun z => z) e2⟩⟩
def spLawL (K : PySem.W.Frag) (P : Addr) : Sp := fun vs H Q _ => ∃ (a : Addr) (ns : List Int), vs = [.ref a] ∧ SqL K H a (ns.map V.int) ∧ ns.length ≤ 63 ∧ H P = some (.tbl #[]) ∧ ∀ H', Q (.bl true) H'
theorem law_okL {P : Program} {w : World} {T : Tab} {base : Heap} (N : NoOb T) {oc kV doc pm ct : Value} {od an : Option Addr} {osl : Array (Option Value)} {c Pt : Addr} (O : TabOk T K w mg) (h4 : 4 ≤ T.c) (n : Nat) {f : Nat} {F : FDef} {st : Stmt} {a : Addr}
    (lk : K.lookup a = some ⟨oc, od, .func (PySem.W.fnOf F.name F.name (defArgs st) (defBody st) (defScope st) .none kV doc pm an (.ref c) ct), osl⟩) (hcd : PySem.W.codeIn K (.ref c) F.name = true) (hc : chkD T F st = true) (hF : T.fn f = some F) (TB : LamX.TabB base mg c Pt) (h1 : F.ps.length = 1) (ho : (oxF F).isEmpty = true) (hk : F.kd = .pl)
    (pl : ∀ ns : List Int, ns.length ≤ 63 → T.run (n + 1) f [.list (ns.map .int)] = some (.bool true)) :
    FnOk P w K mg base CX0 (T.c * (n + 1)) a (PySem.W.fnOf F.name F.name (defArgs st) (defBody st) (defScope st) .none kV doc pm an (.ref c) ct) F.ps (spLawL K Pt) := by
  have el : T.c * (n + 1) = T.c * n + (T.c - 1) + 1 := by have := O.cp; rw [Nat.mul_succ]; omega
  rw [el]
  have hm : mkF F = false := (kd_mk hc).1 (.inl hk)
  simp only [chkD, Bool.and_eq_true] at hc
  have S := scope_of hc.1.1
  have ocp := O.cp
  have ofn := O.fn
  have oblt := O.blt
  have oglb := O.glb
  letI : Memo := lamMemo Pt ((envOfC F.name (defScope st) 0 a (.ref c)).qual ++ "<lambda>")
  have O : TabOk T K w mg := ⟨ocp, ofn, oblt, oglb, fun f F _ h => (by rw [N.mt] at h; cases h)⟩
  refine ⟨fun vs H Q E ⟨b, ns, e, _⟩ => by rw [e, h1]; rfl, fun A outer s H args us vs Q E hr e0 hb rv ⟨b, ns, e, hS, h63, hP, q⟩ => ?_⟩
  subst e
  refine LamX.run_ofS (N := F.N) (ps := F.ps) lk hcd S hr e0 hb rv (by rw [h1]; rfl) fun hr' => ?_
  have sub : Sub H (hardPart H) := hp_sub (LamX.TabS.nil hP)
  have B : ByHand T P w K mg base := noob_hand N (fun _ _ _ _ z => z) fun z => z
  have rA : RpAll K (hardPart H) [.ref b] [.list (ns.map .int)] := .cons (.lst (hp_seq hS) (by rw [List.length_map, sizeLine_eq]; omega) (RpAll.of_ints ns)) .nil
  have C : Cok T n (cxOf CX0 P w K mg base F.N F.name (defScope st) a (.ref c) A outer s H E).nox :=
    ⟨S.nd, rfl, rfl, S.kind, hr'.mono (by omega), O.blt, O.glb, all_ob O B n, cok_fn (all_gen O B n)⟩
  have W : SrtOk T n (cxOf CX0 P w K mg base F.N F.name (defScope st) a (.ref c) A outer s H E).nox :=
    ⟨⟨c, Pt, rfl, TB, fun H Hf z => z, fun _ _ z => z, fun _ _ _ _ z => z⟩, hr'.mono (by omega)⟩
  have rG : ArgAll K (hardPart H) (flF F) [.ref b] [.list (ns.map .int)] := arg_of_rp (fun c hc => by
      unfold flF at hc
      obtain ⟨i, _, rfl⟩ := List.mem_map.mp hc
      rw [List.isEmpty_iff.mp ho]; rfl) (by unfold flF; rw [List.length_map, List.length_range, h1]; rfl) rA
  refine ⟨_, (sndSs (bodyF F) _ _ C ⟨fun _ => ⟨W⟩, B.me n _ C rfl rfl rfl rfl rfl rfl⟩ rfl hc.1.2).nox, body_in S hk hm hF sub rG (pl ns h63) fun v H' Hf' e r => ?_⟩
  cases r
  exact q H'
end
theorem walk {l : PySem.W.OpenLaw} {q : Program} {loose : List Str} {XP : (Str → Option Value) → Heap → Prop} {YP : World → Heap → Prop} {d : DefRec} {K : Params → PySem.W.Frag} (hn : l.most = some 63) (hdf : d.params.defaults = [])
    (hY : ∀ (w : World) (h : Heap), YP w h → (K w.params).In h)
    (F : ∀ (w : World) (mg : Str → Option Value) (fa : Addr) (h : Heap), (K w.params).In h → h.Ns mainGlobals mg → mg d.name = some (.ref fa) →
      ∃ fd : FuncData, (∀ (s : Shared) (u : Value), BindsTo s fd ⟨[u], []⟩ [("_law_script", u)]) ∧ ∀ base : Heap, (K w.params).In base → base.Ns mainGlobals mg → FnOk l.prog w (K w.params) mg base CX0 200 fa fd ["_law_script"] (spLaw (K w.params))) :
    PySem.W.WalkO q loose XP YP l.row.toRowW d [] (fun f vs => PySem.call f vs) :=
  L2.walk_of (n := 63) (k := 200) (x := "_law_script") (CX := fun _ => CX0) (sp := fun w => spLaw (K w.params)) hn (by decide) hdf ⟨rfl, by decide, by decide⟩ hY F (fun _ _ a ns hl _ hS => ⟨a, ns, rfl, hS, hl, fun _ => rfl⟩) fun _ _ _ _ _ z => z
omit [Memo] in
theorem walkL {l : PySem.W.OpenLaw} {q : Program} {loose : List Str} {XP : (Str → Option Value) → Heap → Prop} {YP : World → Heap → Prop} {d : DefRec} {K : Params → PySem.W.Frag} (hn : l.most = some 63) (hdf : d.params.defaults = []) (hrec : (recsOf q).find? (fun e => e.name == d.name) = some d)
    (hY : ∀ (w : World) (h : Heap), YP w h → (K w.params).In h)
    (F : ∀ (w : World) (mg : Str → Option Value) (fa : Addr) (h : Heap), (K w.params).In h → h.Ns mainGlobals mg → mg d.name = some (.ref fa) →
      ∃ (fd : FuncData) (c P : Addr), PySem.W.tabIn (K w.params) d.name = some (c, P) ∧ (K w.params).lookup P = none ∧ (∀ (s : Shared) (u : Value), BindsTo s fd ⟨[u], []⟩ [("_law_script", u)]) ∧ ∀ base : Heap, LamX.TabB base mg c P → FnOk l.prog w (K w.params) mg base CX0 200 fa fd ["_law_script"] (spLawL (K w.params) P)) :
    PySem.W.WalkO q loose XP YP l.row.toRowW d [] (fun f vs => PySem.call f vs) := by
  refine Att.attach_callB hn hdf fun w s₀ s₁ mg mb fa o pm cd doc a vs ns G Y ho hd hcd hmg hobj hints hlen hbits hg => ?_
  have KX := hY w _ Y
  obtain ⟨fd, c, P, ht, nT, hb, hF⟩ := F w mg fa _ KX G.T.g hmg
  obtain ⟨C, T0⟩ := PySem.W.tab_of G.T KX hrec ht
  refine LamX.law_callTs (cs := [(c, P)]) (k := 200) (CX := CX0) KX G.T.g G.T.b G.T.builtins G.T.nolimit hg ?_ ?_ ?_ G.T.bmain hobj hints (Nat.le_trans hlen (by decide)) ⟨rfl, by decide, by decide⟩ (fun base _ _ TB => hF base (TB (c, P) (by simp))) hb (fun H hH hS => ⟨a, ns, rfl, hS, hlen, hH (c, P) (by simp), fun _ => rfl⟩) fun H e s' z => z
  · intro p hp; rw [List.mem_singleton] at hp; subst hp; exact T0
  · intro p hp; rw [List.mem_singleton] at hp; subst hp; exact nT
  · intro p hp; rw [List.mem_singleton] at hp; subst hp; exact C
end Ev

/-! EvP: the small language's equations, told for reckoning: no function is looked into before its argument is there. -/
namespace Ev
open PySem L2
section
variable (G : Nat → Option PyData) (run : Nat → List PyData → Option PyData)
def ap2 (f : PyData → PyData → Option PyData) (x y : Option PyData) : Option PyData := x.bind fun a => y.bind fun b => f a b
@[simp] theorem ap2_some (f : PyData → PyData → Option PyData) (a b : PyData) : ap2 f (some a) (some b) = f a b := rfl
def negD : PyData → Option PyData
  | .int i => some (.int (-i))
  | _ => none
@[simp] theorem negD_int (i : Int) : negD (.int i) = some (.int (-i)) := rfl
def notD : Option PyData → Option PyData
  | some (.bool b) => some (.bool (!b))
  | _ => none
@[simp] theorem notD_bool (i : Bool) : notD (some (.bool i)) = some (.bool (!i)) := rfl
def andK (b : PX) (ρ : Rho) (x : Bool) : Option PyData := if x then evE G run b ρ else some (.bool false)
@[simp] theorem andK_t (b : PX) (ρ : Rho) : andK G run b ρ true = evE G run b ρ := rfl
@[simp] theorem andK_f (b : PX) (ρ : Rho) : andK G run b ρ false = some (.bool false) := rfl
def orK (b : PX) (ρ : Rho) (x : Bool) : Option PyData := if x then some (.bool true) else evE G run b ρ
@[simp] theorem orK_t (b : PX) (ρ : Rho) : orK G run b ρ true = some (.bool true) := rfl
@[simp] theorem orK_f (b : PX) (ρ : Rho) : orK G run b ρ false = evE G run b ρ := rfl
@[simp] theorem boolOf_bool (b : Bool) : boolOf (some (.bool b)) = some b := rfl
def copD (op : COp) (x y : PyData) : Option PyData := (cop op x y).map .bool
def isND (ng : Bool) (x : PyData) : Option PyData := some (.bool (xor ng (isNone x)))
def isID (t : Ty) (x : PyData) : Option PyData := some (.bool (isTy t x))
def tupD (ds : List PyData) : Option PyData := if ds.length ≤ 1000 then some (.tuple ds) else none
def lstD (ds : List PyData) : Option PyData := if ds.length ≤ 1000 then some (.list ds) else none
def slK (x : PyData) (l h : Option Int) : Option PyData := slD x l h
def ap3 (x : Option PyData) (l h : Option (Option Int)) : Option PyData := x.bind fun a => l.bind fun b => h.bind fun c => slD a b c
@[simp] theorem ap3_some (x : PyData) (l h : Option Int) : ap3 (some x) (some l) (some h) = slD x l h := rfl
def chainK (o2 : COp) (c : PX) (ρ : Rho) (y : PyData) (k : Bool) : Option PyData := if k then ap2 (copD o2) (some y) (evE G run c ρ) else some (.bool false)
@[simp] theorem chainK_t (o2 : COp) (c : PX) (ρ : Rho) (y : PyData) : chainK G run o2 c ρ y true = ap2 (copD o2) (some y) (evE G run c ρ) := rfl
@[simp] theorem chainK_f (o2 : COp) (c : PX) (ρ : Rho) (y : PyData) : chainK G run o2 c ρ y false = some (.bool false) := rfl
def chain1 (o1 o2 : COp) (c : PX) (ρ : Rho) (x y : Option PyData) : Option PyData := x.bind fun a => y.bind fun b => (cop o1 a b).bind (chainK G run o2 c ρ b)
@[simp] theorem chain1_some (o1 o2 : COp) (c : PX) (ρ : Rho) (a b : PyData) : chain1 G run o1 o2 c ρ (some a) (some b) = (cop o1 a b).bind (chainK G run o2 c ρ b) := rfl
def compD (tg : Tg) (elt c : PX) (ρ : Rho) (ds : List PyData) : Option (List PyData) := compR tg (fun ρ1 => boolOf (evE G run c ρ1)) (fun ρ1 => evE G run elt ρ1) ρ ds
def rgK (d : PyData) : Option (List PyData) := match d with
  | .int n => if rngOk n then some (rgD n) else none
  | _ => none
def rg2K (d e : PyData) : Option (List PyData) := match d, e with
  | .int n, .int m => if rngOk n && rngOk m && rngOk (m - n) then some (rg2 n m) else none
  | _, _ => none
def ap2L (f : PyData → PyData → Option (List PyData)) (x y : Option PyData) : Option (List PyData) := x.bind fun a => y.bind fun b => f a b
@[simp] theorem ap2L_some (f : PyData → PyData → Option (List PyData)) (a b : PyData) : ap2L f (some a) (some b) = f a b := rfl
def consO (d : Option PyData) (ds : Option (List PyData)) : Option (List PyData) := d.bind fun d => ds.map (d :: ·)
@[simp] theorem consO_some (d : PyData) (ds : List PyData) : consO (some d) (some ds) = some (d :: ds) := rfl
def enumK (d : PyData) : Option (List PyData) := (seqD d).map (enumD 0)

@[simp] theorem evE_var (i : Nat) (ρ : Rho) : evE G run (.var i) ρ = getV i ρ := by rw [evE]
@[simp] theorem evE_lit (d : PyData) (ρ : Rho) : evE G run (.lit d) ρ = some d := by rw [evE]
@[simp] theorem evE_glb (g : Nat) (ρ : Rho) : evE G run (.glb g) ρ = glV (G g) := by rw [evE]
@[simp] theorem glV_int (i : Int) : glV (some (.int i)) = some (.int i) := rfl
@[simp] theorem glV_tup (i : List PyData) : glV (some (.tuple i)) = some (.tuple i) := rfl
@[simp] theorem evE_bin (op : BOp) (a b : PX) (ρ : Rho) : evE G run (.bin op a b) ρ = ap2 (bop op) (evE G run a ρ) (evE G run b ρ) := by rw [evE]; rfl
@[simp] theorem evE_neg (a : PX) (ρ : Rho) : evE G run (.neg a) ρ = (evE G run a ρ).bind negD := by
  rw [evE]
  cases evE G run a ρ with
  | none => rfl
  | some d => cases d <;> rfl
@[simp] theorem evE_not (a : PX) (ρ : Rho) : evE G run (.not a) ρ = notD (evE G run a ρ) := by
  rw [evE]
  cases evE G run a ρ with
  | none => rfl
  | some d => cases d <;> rfl
@[simp] theorem evE_and (a b : PX) (ρ : Rho) : evE G run (.and a b) ρ = (boolOf (evE G run a ρ)).bind (andK G run b ρ) := by rw [evE]; rfl
@[simp] theorem evE_or (a b : PX) (ρ : Rho) : evE G run (.or a b) ρ = (boolOf (evE G run a ρ)).bind (orK G run b ρ) := by rw [evE]; rfl
@[simp] theorem evE_cmp (op : COp) (a b : PX) (ρ : Rho) : evE G run (.cmp op a b) ρ = ap2 (copD op) (bor a ρ (evE G run a ρ)) (bor b ρ (evE G run b ρ)) := by rw [evE]; rfl
@[simp] theorem evE_isN (ng : Bool) (a : PX) (ρ : Rho) : evE G run (.isN ng a) ρ = (bor a ρ (evE G run a ρ)).bind (isND ng) := by
  rw [evE]
  cases bor a ρ (evE G run a ρ) <;> rfl
@[simp] theorem evE_isTr (ng : Bool) (a : PX) (ρ : Rho) : evE G run (.isTr ng a) ρ = (evE G run a ρ).bind (isTrD ng) := by rw [evE]
@[simp] theorem isTrD_bool (ng b : Bool) : isTrD ng (.bool b) = some (.bool (xor ng b)) := rfl
@[simp] theorem evE_chain (o1 o2 : COp) (a b c : PX) (ρ : Rho) : evE G run (.chain o1 o2 a b c) ρ = chain1 G run o1 o2 c ρ (evE G run a ρ) (evE G run b ρ) := by rw [evE]; rfl
@[simp] theorem evE_tup (es : PXs) (ρ : Rho) : evE G run (.tup es) ρ = (evEs G run es ρ).bind tupD := by rw [evE]; rfl
@[simp] theorem evE_lst (es : PXs) (ρ : Rho) : evE G run (.lst es) ρ = (evEs G run es ρ).bind lstD := by rw [evE]; rfl
@[simp] theorem evE_ix (a i : PX) (ρ : Rho) : evE G run (.ix a i) ρ = ap2 ixD (bor a ρ (evE G run a ρ)) (evE G run i ρ) := by rw [evE]; rfl
@[simp] theorem evE_slc (a lo hi : PX) (ρ : Rho) : evE G run (.slc a lo hi) ρ = ap3 (bor a ρ (evE G run a ρ)) (slP lo (evE G run lo ρ)) (slP hi (evE G run hi ρ)) := by rw [evE]; rfl
@[simp] theorem evE_rev (a : PX) (ρ : Rho) : evE G run (.rev a) ρ = (bor a ρ (evE G run a ρ)).bind revD := by rw [evE]
@[simp] theorem evE_call (f : Nat) (es : PXs) (ρ : Rho) : evE G run (.call f es) ρ = (evEs G run es ρ).bind (run f) := by rw [evE]
@[simp] theorem evE_blt (b : Blt) (a : PX) (ρ : Rho) : evE G run (.blt b a) ρ = (bor a ρ (evE G run a ρ)).bind (blt b) := by rw [evE]
@[simp] theorem evE_isI (a : PX) (t : Ty) (ρ : Rho) : evE G run (.isI a t) ρ = (bor a ρ (evE G run a ρ)).bind (isID t) := by
  rw [evE]
  cases bor a ρ (evE G run a ρ) <;> rfl
@[simp] theorem evE_join (o a : PX) (ρ : Rho) : evE G run (.join o a) ρ = ap2 joinD (evE G run o ρ) (bor a ρ (evE G run a ρ)) := by rw [evE]; rfl
@[simp] theorem evE_split (o a : PX) (ρ : Rho) : evE G run (.split o a) ρ = ap2 splitD (evE G run o ρ) (evE G run a ρ) := by rw [evE]; rfl
@[simp] theorem evE_index (o a : PX) (ρ : Rho) : evE G run (.index o a) ρ = ap2 idxD (bor o ρ (evE G run o ρ)) (evE G run a ρ) := by rw [evE]; rfl
@[simp] theorem evE_lc (ws : List Nat) (elt : PX) (tg : Tg) (it : PIt) (c : PX) (ρ : Rho) : evE G run (.lc ws elt tg it c) ρ = ((evI G run true it ρ).bind (compD G run tg elt c (wipeR ρ ws))).map .list := by
  rw [evE]
  cases evI G run true it ρ <;> rfl
@[simp] theorem evE_rngL (a : PX) (ρ : Rho) : evE G run (.rngL a) ρ = ((evE G run a ρ).bind rgK).map .list := by
  rw [evE]
  cases evE G run a ρ with
  | none => rfl
  | some d =>
    cases d <;> try rfl
    rename_i n
    show (if rngOk n then some (PyData.list (rgD n)) else none) = (if rngOk n then some (rgD n) else none).map PyData.list
    split <;> rfl
def pick3 (ks : List Str) (x y : Option PyData) (ds : List PyData) : Option PyData := x.bind fun a => y.bind fun b => getX ks ds a b
@[simp] theorem pick3_some (ks : List Str) (x y : PyData) (ds : List PyData) : pick3 ks (some x) (some y) ds = getX ks ds x y := rfl
def pick2 (ks : List Str) (x : Option PyData) (ds : List PyData) : Option PyData := x.bind (pickX ks ds)
@[simp] theorem pick2_some (ks : List Str) (x : PyData) (ds : List PyData) : pick2 ks (some x) ds = pickX ks ds x := rfl
@[simp] theorem evE_pick (ks : List Str) (es : PXs) (k : PX) (ρ : Rho) : evE G run (.pick ks es k) ρ = (evEs G run es ρ).bind (pick2 ks (evE G run k ρ)) := by rw [evE]; rfl
@[simp] theorem evE_getd (ks : List Str) (es : PXs) (k d : PX) (ρ : Rho) : evE G run (.getd ks es k d) ρ = (evEs G run es ρ).bind (pick3 ks (evE G run k ρ) (evE G run d ρ)) := by rw [evE]; rfl
@[simp] theorem evE_inG (neg : Bool) (k : PX) (g : Nat) (ρ : Rho) : evE G run (.inG neg k g) ρ = (evE G run k ρ).bind (gdHas neg (G g)) := by rw [evE]
@[simp] theorem evE_pickG (k : PX) (g : Nat) (ρ : Rho) : evE G run (.pickG g k) ρ = (evE G run k ρ).bind (gdGet (G g)) := by rw [evE]
@[simp] theorem evE_sset (a : PX) (ρ : Rho) : evE G run (.sset a) ρ = (bor a ρ (evE G run a ρ)).bind ssetD := by rw [evE]
def iteE (a b : PX) (ρ : Rho) (k : Bool) : Option PyData := if k then evE G run a ρ else evE G run b ρ
@[simp] theorem iteE_t (a b : PX) (ρ : Rho) : iteE G run a b ρ true = evE G run a ρ := rfl
@[simp] theorem iteE_f (a b : PX) (ρ : Rho) : iteE G run a b ρ false = evE G run b ρ := rfl
@[simp] theorem evE_ife (c a b : PX) (ρ : Rho) : evE G run (.ife c a b) ρ = (boolOf (evE G run c ρ)).bind (iteE G run a b ρ) := by rw [evE]; rfl
@[simp] theorem evE_pickV (i : Nat) (k : PX) (ρ : Rho) : evE G run (.pickV i k) ρ = (evE G run k ρ).bind (pickS ρ i) := by rw [evE]
@[simp] theorem evEs_nil (ρ : Rho) : evEs G run .nil ρ = some [] := by rw [evEs]
@[simp] theorem evEs_cons (e : PX) (es : PXs) (ρ : Rho) : evEs G run (.cons e es) ρ = consO (evE G run e ρ) (evEs G run es ρ) := by rw [evEs]; rfl
@[simp] theorem evI_seqT (a : PX) (ρ : Rho) : evI G run true (.seq a) ρ = (bor a ρ (evE G run a ρ)).bind seqD := by rw [evI]; rfl
@[simp] theorem evI_seqF (a : PX) (ρ : Rho) : evI G run false (.seq a) ρ = (evE G run a ρ).bind seqD := by rw [evI]; rfl
@[simp] theorem evI_rng1 (b : Bool) (a : PX) (ρ : Rho) : evI G run b (.rng1 a) ρ = (evE G run a ρ).bind rgK := by
  rw [evI]
  cases evE G run a ρ with
  | none => rfl
  | some d => cases d <;> rfl
@[simp] theorem evI_rng2 (b : Bool) (a c : PX) (ρ : Rho) : evI G run b (.rng2 a c) ρ = ap2L rg2K (evE G run a ρ) (evE G run c ρ) := by
  rw [evI]
  cases evE G run a ρ with
  | none => rfl
  | some d =>
    cases evE G run c ρ with
    | none => cases d <;> rfl
    | some e => cases d <;> cases e <;> rfl
@[simp] theorem evI_enumT (a : PX) (ρ : Rho) : evI G run true (.enum a) ρ = (bor a ρ (evE G run a ρ)).bind enumK := by rw [evI]; rfl
@[simp] theorem evI_enumF (a : PX) (ρ : Rho) : evI G run false (.enum a) ρ = (evE G run a ρ).bind enumK := by rw [evI]; rfl
@[simp] theorem evI_zip (b : Bool) (a c : PX) (ρ : Rho) : evI G run b (.zip a c) ρ = ap2L zipDD (evE G run a ρ) (evE G run c ρ) := by rw [evI]; rfl

/-! ### statements -/
def cont (r : QSs) : Out → Option Out := thenO (evSs G run r)
@[simp] theorem cont_nx (r : QSs) (ρ : Rho) : cont G run r (.nx ρ) = evSs G run r ρ := rfl
@[simp] theorem cont_rt (r : QSs) (v : PyData) : cont G run r (.rt v) = some (.rt v) := rfl
def setK (i : Nat) (ρ : Rho) (d : PyData) : Option Out := some (.nx (ρ.set i (.val d)))
@[simp] theorem setK_eq (i : Nat) (ρ : Rho) (d : PyData) : setK i ρ d = some (.nx (ρ.set i (.val d))) := rfl
def asgK (tg : Tg) (ρ : Rho) (d : PyData) : Option Out := (asg tg d ρ).map .nx
def iteS (a b : QSs) (ρ : Rho) (k : Bool) : Option Out := if k then evSs G run a ρ else evSs G run b ρ
@[simp] theorem iteS_t (a b : QSs) (ρ : Rho) : iteS G run a b ρ true = evSs G run a ρ := rfl
@[simp] theorem iteS_f (a b : QSs) (ρ : Rho) : iteS G run a b ρ false = evSs G run b ρ := rfl
def loopD (tg : Tg) (b : QSs) (ρ : Rho) (ds : List PyData) : Option Out := loopR (fun d ρ1 => (asg tg d ρ1).bind fun ρ2 => evSs G run b ρ2) ds ρ
def loopK (tg : Tg) (b : QSs) (ds : List PyData) (o : Out) : Option Out := thenO (fun ρ => loopD G run tg b ρ ds) o
@[simp] theorem loopK_nx (tg : Tg) (b : QSs) (ds : List PyData) (ρ : Rho) : loopK G run tg b ds (.nx ρ) = loopD G run tg b ρ ds := rfl
@[simp] theorem loopK_rt (tg : Tg) (b : QSs) (ds : List PyData) (v : PyData) : loopK G run tg b ds (.rt v) = some (.rt v) := rfl
theorem loopD_nil (tg : Tg) (b : QSs) (ρ : Rho) : loopD G run tg b ρ [] = some (.nx ρ) := rfl
theorem loopD_cons (tg : Tg) (b : QSs) (ρ : Rho) (d : PyData) (ds : List PyData) : loopD G run tg b ρ (d :: ds) = ((asg tg d ρ).bind (evSs G run b)).bind (loopK G run tg b ds) := by
  unfold loopD
  rw [loopR]
  rfl
theorem compD_nil (tg : Tg) (elt c : PX) (ρ : Rho) : compD G run tg elt c ρ [] = some [] := rfl
def compK (elt : PX) (ρ : Rho) (r : Option (List PyData)) (b : Bool) : Option (List PyData) := if b then consO (evE G run elt ρ) r else r
@[simp] theorem compK_t (elt : PX) (ρ : Rho) (r : Option (List PyData)) : compK G run elt ρ r true = consO (evE G run elt ρ) r := rfl
@[simp] theorem compK_f (elt : PX) (ρ : Rho) (r : Option (List PyData)) : compK G run elt ρ r false = r := rfl
def compT (elt c : PX) (r : Option (List PyData)) (ρ : Rho) : Option (List PyData) := (boolOf (evE G run c ρ)).bind (compK G run elt ρ r)
@[simp] theorem compT_eq (elt c : PX) (r : Option (List PyData)) (ρ : Rho) : compT G run elt c r ρ = (boolOf (evE G run c ρ)).bind (compK G run elt ρ r) := rfl
theorem compD_cons (tg : Tg) (elt c : PX) (ρ : Rho) (d : PyData) (ds : List PyData) : compD G run tg elt c ρ (d :: ds) = (asg tg d ρ).bind (compT G run elt c (compD G run tg elt c ρ ds)) := by
  unfold compD
  rw [compR]
  rfl
/-- a comprehension, item by item -/
theorem compD_of {tg : Tg} {elt c : PX} {ρ : Rho} (f : PyData → Option PyData) : ∀ (ds : List PyData), (∀ d ∈ ds, ∃ ρ1, asg tg d ρ = some ρ1 ∧ ((∃ y, f d = some y ∧ boolOf (evE G run c ρ1) = some true ∧ evE G run elt ρ1 = some y) ∨ (f d = none ∧ boolOf (evE G run c ρ1) = some false))) →
    compD G run tg elt c ρ ds = some (ds.filterMap f)
  | [], _ => rfl
  | d :: ds, h => by
    obtain ⟨ρ1, h1, h2⟩ := h d (by simp)
    rw [compD_cons, h1, Option.bind_some, compT_eq, compD_of f ds fun e he => h e (List.mem_cons_of_mem _ he)]
    rcases h2 with ⟨y, h3, h4, h5⟩ | ⟨h3, h4⟩
    · rw [h4, Option.bind_some, compK_t, h5, consO_some, List.filterMap_cons_some h3]
    · rw [h4, Option.bind_some, compK_f, List.filterMap_cons_none h3]
/-- without a test -/
theorem compD_map {tg : Tg} {elt c : PX} {ρ : Rho} (f : PyData → PyData) (ds : List PyData) (h : ∀ d ∈ ds, ∃ ρ1, asg tg d ρ = some ρ1 ∧ boolOf (evE G run c ρ1) = some true ∧ evE G run elt ρ1 = some (f d)) :
    compD G run tg elt c ρ ds = some (ds.map f) := by
  rw [compD_of G run (fun d => some (f d)) ds fun d hd => ?_]
  · simp
  · obtain ⟨ρ1, h1, h2, h3⟩ := h d hd
    exact ⟨ρ1, h1, .inl ⟨f d, rfl, h2, h3⟩⟩
/-- the items that pass -/
theorem compD_filter {tg : Tg} {elt c : PX} {ρ : Rho} (p : PyData → Bool) (f : PyData → PyData) (ds : List PyData) (h : ∀ d ∈ ds, ∃ ρ1, asg tg d ρ = some ρ1 ∧ boolOf (evE G run c ρ1) = some (p d) ∧ (p d = true → evE G run elt ρ1 = some (f d))) :
    compD G run tg elt c ρ ds = some ((ds.filter p).map f) := by
  rw [compD_of G run (fun d => if p d then some (f d) else none) ds fun d hd => ?_]
  · congr 1
    induction ds with
    | nil => rfl
    | cons a r ih =>
      have ih := ih fun d hd => h d (List.mem_cons_of_mem _ hd)
      by_cases c : p a = true
      · rw [List.filterMap_cons_some (by rw [if_pos c]), ih, List.filter_cons_of_pos c, List.map_cons]
      · rw [List.filterMap_cons_none (by rw [if_neg c]), ih, List.filter_cons_of_neg c]
  · obtain ⟨ρ1, h1, h2, h3⟩ := h d hd
    by_cases c : p d = true
    · exact ⟨ρ1, h1, .inl ⟨f d, by rw [if_pos c], by rw [h2, c], h3 c⟩⟩
    · exact ⟨ρ1, h1, .inr ⟨by rw [if_neg c], by rw [h2]; simpa using c⟩⟩
/-- over a coded list -/
theorem compD_code {α : Type} {tg : Tg} {elt c : PX} {ρ : Rho} (g : α → PyData) (p : α → Bool) (f : α → PyData) : ∀ (xs : List α), (∀ x ∈ xs, ∃ ρ1, asg tg (g x) ρ = some ρ1 ∧ boolOf (evE G run c ρ1) = some (p x) ∧ (p x = true → evE G run elt ρ1 = some (f x))) →
    compD G run tg elt c ρ (xs.map g) = some ((xs.filter p).map f)
  | [], _ => rfl
  | x :: xs, h => by
    obtain ⟨ρ1, h1, h2, h3⟩ := h x (by simp)
    rw [List.map_cons, compD_cons, h1, Option.bind_some, compT_eq, compD_code g p f xs fun e he => h e (List.mem_cons_of_mem _ he), h2, Option.bind_some]
    cases hp : p x
    · rw [compK_f, List.filter_cons_of_neg (by simp [hp])]
    · rw [compK_t, h3 hp, consO_some, List.filter_cons_of_pos hp, List.map_cons]
theorem compD_codeM {α : Type} {tg : Tg} {elt c : PX} {ρ : Rho} (g : α → PyData) (f : α → PyData) (xs : List α) (h : ∀ x ∈ xs, ∃ ρ1, asg tg (g x) ρ = some ρ1 ∧ boolOf (evE G run c ρ1) = some true ∧ evE G run elt ρ1 = some (f x)) :
    compD G run tg elt c ρ (xs.map g) = some (xs.map f) := by
  have := compD_code G run g (fun _ => true) f xs fun x hx => by
    obtain ⟨ρ1, h1, h2, h3⟩ := h x hx
    exact ⟨ρ1, h1, h2, fun _ => h3⟩
  rwa [List.filter_eq_self.mpr (by simp)] at this
@[simp] theorem evSs_nil (ρ : Rho) : evSs G run .nil ρ = some (.nx ρ) := by rw [evSs]
@[simp] theorem evSs_cons (s : QS) (r : QSs) (ρ : Rho) : evSs G run (.cons s r) ρ = (evS G run s ρ).bind (cont G run r) := by rw [evSs]; rfl
@[simp] theorem evS_set (fz : List Nat) (i : Nat) (e : PX) (ρ : Rho) : evS G run (.set fz i e) ρ = (evE G run e (frzs fz ρ)).bind (setK i (frzs fz ρ)) := by
  rw [evS]
  cases evE G run e (frzs fz ρ) <;> rfl
def setDK (i : Nat) (ks : List Str) (ρ : Rho) (ds : List PyData) : Option Out := some (.nx (ρ.set i (.dic ks ds)))
@[simp] theorem setDK_eq (i : Nat) (ks : List Str) (ρ : Rho) (ds : List PyData) : setDK i ks ρ ds = some (.nx (ρ.set i (.dic ks ds))) := rfl
@[simp] theorem evS_setD (fz : List Nat) (i : Nat) (ks : List Str) (es : PXs) (ρ : Rho) : evS G run (.setD fz i ks es) ρ = (evEs G run es (frzs fz ρ)).bind (setDK i ks (frzs fz ρ)) := by
  rw [evS]
  cases evEs G run es (frzs fz ρ) <;> rfl
@[simp] theorem evS_setO (fz : List Nat) (i : Nat) (e : PX) (ρ : Rho) : evS G run (.setO fz i e) ρ = (evE G run e (frzs fz ρ)).bind (ownSet i (frzs fz ρ)) := by rw [evS]
@[simp] theorem evS_setT (fz is : List Nat) (e : PX) (ρ : Rho) : evS G run (.setT fz is e) ρ = (evE G run e (frzs fz ρ)).bind (asgK (.tp is) (frzs fz ρ)) := by rw [evS]; rfl
@[simp] theorem evS_app (fz : List Nat) (i : Nat) (e : PX) (ρ : Rho) : evS G run (.app fz i e) ρ = (evE G run e (frzs fz ρ)).bind (ownApp i (frzs fz ρ)) := by rw [evS]
@[simp] theorem evS_putI (fz : List Nat) (i : Nat) (k v : PX) (ρ : Rho) : evS G run (.putI fz i k v) ρ = (evE G run v (frzs fz ρ)).bind fun d => (evE G run k (frzs fz ρ)).bind fun x => ownPutI i (frzs fz ρ) x d := by rw [evS]
@[simp] theorem evS_ext (fz : List Nat) (i : Nat) (e : PX) (ρ : Rho) : evS G run (.ext fz i e) ρ = (evE G run e (frzs fz ρ)).bind (ownExt i (frzs fz ρ)) := by rw [evS]
@[simp] theorem evS_iff (fz : List Nat) (c : PX) (a b : QSs) (ρ : Rho) : evS G run (.iff fz c a b) ρ = (boolOf (evE G run c (frzs fz ρ))).bind (iteS G run a b (frzs fz ρ)) := by rw [evS]; rfl
@[simp] theorem evS_for (fz : List Nat) (tg : Tg) (it : PIt) (b : QSs) (ρ : Rho) : evS G run (.for fz tg it b) ρ = (evI G run false it (frzs fz ρ)).bind (loopD G run tg b (frzs fz ρ)) := by rw [evS]; rfl
@[simp] theorem evS_ret (fz : List Nat) (e : PX) (ρ : Rho) : evS G run (.ret fz e) ρ = (evE G run e (frzs fz ρ)).map .rt := by rw [evS]
@[simp] theorem evS_srt (fz : List Nat) (i : Nat) (tup : Bool) (a : PX) (js : List Nat) (ln : List Str) (b : PX) (ρ : Rho) : evS G run (.srt fz i tup a js ln b) ρ = (srtE tup (evE G run a (frzs fz ρ)) (capsR js (frzs fz ρ)) fun ρ1 => evE G run b ρ1).map fun d => .nx ((frzs fz ρ).set i (.val d)) := by rw [evS]
@[simp] theorem evS_retN (ρ : Rho) : evS G run .retN ρ = some (.rt .none) := by rw [evS]
@[simp] theorem evS_pass (ρ : Rho) : evS G run .pass ρ = some (.nx ρ) := by rw [evS]
end
@[simp] theorem frzs_nil (ρ : Rho) : frzs [] ρ = ρ := rfl
@[simp] theorem frzs_cons (i : Nat) (l : List Nat) (ρ : Rho) : frzs (i :: l) ρ = frzs l (frz1 i ρ) := rfl
@[simp] theorem frz1_nil (i : Nat) : frz1 i [] = [] := by cases i <;> rfl
@[simp] theorem frz1_own0 (ds : List PyData) (r : Rho) : frz1 0 (.own ds :: r) = .val (.list ds) :: r := rfl
@[simp] theorem frz1_val0 (ds : PyData) (r : Rho) : frz1 0 (.val ds :: r) = .val ds :: r := rfl
@[simp] theorem frz1_un0 (r : Rho) : frz1 0 (.un :: r) = .un :: r := rfl
@[simp] theorem frz1_succ (n : Nat) (s : Sl) (r : Rho) : frz1 (n + 1) (s :: r) = s :: frz1 n r := by rw [frz1]
@[simp] theorem getV_0 (d : PyData) (r : Rho) : getV 0 (.val d :: r) = some d := rfl
@[simp] theorem getV_s (n : Nat) (s : Sl) (r : Rho) : getV (n + 1) (s :: r) = getV n r := by simp [getV]
@[simp] theorem bor_0 (ds : List PyData) (r : Rho) (x : Option PyData) : bor (.var 0) (.own ds :: r) x = some (.list ds) := rfl
@[simp] theorem bor_0v (d : PyData) (r : Rho) (x : Option PyData) : bor (.var 0) (.val d :: r) x = x := rfl
@[simp] theorem bor_s (n : Nat) (s : Sl) (r : Rho) (x : Option PyData) : bor (.var (n + 1)) (s :: r) x = bor (.var n) r x := by simp [bor]
@[simp] theorem bor_lit (d : PyData) (ρ : Rho) (x : Option PyData) : bor (.lit d) ρ x = x := rfl
@[simp] theorem bor_glb (d : Nat) (ρ : Rho) (x : Option PyData) : bor (.glb d) ρ x = x := rfl
@[simp] theorem bor_bin (op : BOp) (a b : PX) (ρ : Rho) (x : Option PyData) : bor (.bin op a b) ρ x = x := rfl
@[simp] theorem bor_tup (a : PXs) (ρ : Rho) (x : Option PyData) : bor (.tup a) ρ x = x := rfl
@[simp] theorem bor_lst (a : PXs) (ρ : Rho) (x : Option PyData) : bor (.lst a) ρ x = x := rfl
@[simp] theorem bor_ix (a b : PX) (ρ : Rho) (x : Option PyData) : bor (.ix a b) ρ x = x := rfl
@[simp] theorem bor_slc (a b c : PX) (ρ : Rho) (x : Option PyData) : bor (.slc a b c) ρ x = x := rfl
@[simp] theorem bor_call (f : Nat) (b : PXs) (ρ : Rho) (x : Option PyData) : bor (.call f b) ρ x = x := rfl
@[simp] theorem bor_blt (f : Blt) (b : PX) (ρ : Rho) (x : Option PyData) : bor (.blt f b) ρ x = x := rfl
@[simp] theorem bor_lc (ws : List Nat) (elt : PX) (tg : Tg) (it : PIt) (c : PX) (ρ : Rho) (x : Option PyData) : bor (.lc ws elt tg it c) ρ x = x := rfl
@[simp] theorem bor_rngL (a : PX) (ρ : Rho) (x : Option PyData) : bor (.rngL a) ρ x = x := rfl
@[simp] theorem bor_cmp (op : COp) (a b : PX) (ρ : Rho) (x : Option PyData) : bor (.cmp op a b) ρ x = x := rfl
@[simp] theorem bor_isN (op : Bool) (a : PX) (ρ : Rho) (x : Option PyData) : bor (.isN op a) ρ x = x := rfl
@[simp] theorem bor_isTr (op : Bool) (a : PX) (ρ : Rho) (x : Option PyData) : bor (.isTr op a) ρ x = x := rfl
@[simp] theorem bor_not (a : PX) (ρ : Rho) (x : Option PyData) : bor (.not a) ρ x = x := rfl
@[simp] theorem bor_and (a b : PX) (ρ : Rho) (x : Option PyData) : bor (.and a b) ρ x = x := rfl
@[simp] theorem bor_or (a b : PX) (ρ : Rho) (x : Option PyData) : bor (.or a b) ρ x = x := rfl
@[simp] theorem bor_pick (ks : List Str) (es : PXs) (k : PX) (ρ : Rho) (x : Option PyData) : bor (.pick ks es k) ρ x = x := rfl
@[simp] theorem bor_getd (ks : List Str) (es : PXs) (k d : PX) (ρ : Rho) (x : Option PyData) : bor (.getd ks es k d) ρ x = x := rfl
@[simp] theorem bor_pickV (i : Nat) (k : PX) (ρ : Rho) (x : Option PyData) : bor (.pickV i k) ρ x = x := rfl
@[simp] theorem pickX_str (ks : List Str) (ds : List PyData) (x : Str) : pickX ks ds (.str x) = pickD ks ds x := rfl
@[simp] theorem getX_str (ks : List Str) (ds : List PyData) (x : Str) (y : PyData) : getX ks ds (.str x) y = some ((pickD ks ds x).getD y) := rfl
@[simp] theorem pickD_nil (ds : List PyData) (x : Str) : pickD [] ds x = none := by cases ds <;> rfl
@[simp] theorem pickD_cons (k : Str) (ks : List Str) (d : PyData) (ds : List PyData) (x : Str) : pickD (k :: ks) (d :: ds) x = if k = x then some d else pickD ks ds x := rfl
@[simp] theorem pickS_0 (ks : List Str) (ds : List PyData) (r : Rho) (x : PyData) : pickS (.dic ks ds :: r) 0 x = pickX ks ds x := rfl
@[simp] theorem pickS_s (i : Nat) (s : Sl) (r : Rho) (x : PyData) : pickS (s :: r) (i + 1) x = pickS r i x := by simp [pickS]
@[simp] theorem frz1_dic0 (ks : List Str) (ds : List PyData) (r : Rho) : frz1 0 (.dic ks ds :: r) = .dic ks ds :: r := rfl
@[simp] theorem bor_isI (a : PX) (t : Ty) (ρ : Rho) (x : Option PyData) : bor (.isI a t) ρ x = x := rfl
@[simp] theorem bor_rev (a : PX) (ρ : Rho) (x : Option PyData) : bor (.rev a) ρ x = x := rfl
@[simp] theorem bor_inG (ng : Bool) (a : PX) (g : Nat) (ρ : Rho) (x : Option PyData) : bor (.inG ng a g) ρ x = x := rfl
@[simp] theorem bor_pickG (g : Nat) (a : PX) (ρ : Rho) (x : Option PyData) : bor (.pickG g a) ρ x = x := rfl
@[simp] theorem bor_sset (a : PX) (ρ : Rho) (x : Option PyData) : bor (.sset a) ρ x = x := rfl
@[simp] theorem bor_ife (a b c : PX) (ρ : Rho) (x : Option PyData) : bor (.ife a b c) ρ x = x := rfl
@[simp] theorem gdHas_eq (neg : Bool) (kvs : List (PyData × PyData)) (x : Str) : gdHas neg (some (.dict kvs)) (.str x) = some (.bool (xor neg (dkGet kvs x).isSome)) := rfl
@[simp] theorem gdGet_eq (kvs : List (PyData × PyData)) (x : Str) : gdGet (some (.dict kvs)) (.str x) = dkGet kvs x := rfl
@[simp] theorem dkGet_nil (x : Str) : dkGet [] x = none := rfl
@[simp] theorem dkGet_cons (k : Str) (d : PyData) (r : List (PyData × PyData)) (x : Str) : dkGet ((.str k, d) :: r) x = if k = x then some d else dkGet r x := rfl
@[simp] theorem revD_l (a : List PyData) : revD (.list a) = some (.list a.reverse) := rfl
@[simp] theorem revD_t (a : List PyData) : revD (.tuple a) = some (.tuple a.reverse) := rfl
@[simp] theorem bor_join (a b : PX) (ρ : Rho) (x : Option PyData) : bor (.join a b) ρ x = x := rfl
@[simp] theorem bor_split (a b : PX) (ρ : Rho) (x : Option PyData) : bor (.split a b) ρ x = x := rfl
@[simp] theorem bor_index (a b : PX) (ρ : Rho) (x : Option PyData) : bor (.index a b) ρ x = x := rfl
@[simp] theorem slP_omit (x : Option PyData) : slP .omit x = some none := rfl
@[simp] theorem slP_lit (d : PyData) (i : Int) : slP (.lit d) (some (.int i)) = some (some i) := rfl
@[simp] theorem slP_var (d : Nat) (i : Int) : slP (.var d) (some (.int i)) = some (some i) := rfl
@[simp] theorem slP_bin (op : BOp) (a b : PX) (i : Int) : slP (.bin op a b) (some (.int i)) = some (some i) := rfl
/-- what a plain def gives -/
def outD : Out → PyData
  | .rt d => d
  | _ => .none
@[simp] theorem outD_rt (d : PyData) : outD (.rt d) = d := rfl
@[simp] theorem outD_nx (ρ : Rho) : outD (.nx ρ) = .none := rfl
@[simp] theorem wipeR_nil (ρ : Rho) : wipeR ρ [] = ρ := rfl
@[simp] theorem wipeR_cons (ρ : Rho) (v : Nat) (vs : List Nat) : wipeR ρ (v :: vs) = (wipeR ρ vs).set v .un := rfl
@[simp] theorem asg_nm (i : Nat) (d : PyData) (ρ : Rho) : asg (.nm i) d ρ = some (ρ.set i (.val d)) := rfl
@[simp] theorem setAll_nil (ρ : Rho) : setAll [] [] ρ = ρ := rfl
@[simp] theorem setAll_cons (i : Nat) (is : List Nat) (d : PyData) (ds : List PyData) (ρ : Rho) : setAll (i :: is) (d :: ds) ρ = setAll is ds (ρ.set i (.val d)) := rfl
@[simp] theorem asg_tp (is : List Nat) (ds : List PyData) (ρ : Rho) : asg (.tp is) (.tuple ds) ρ = if is.length = ds.length then some (setAll is ds ρ) else none := rfl
@[simp] theorem asgK_eq (tg : Tg) (ρ : Rho) (d : PyData) : asgK tg ρ d = (asg tg d ρ).map .nx := rfl
@[simp] theorem ownSet_list (i : Nat) (ρ : Rho) (ds : List PyData) : ownSet i ρ (.list ds) = some (.nx (ρ.set i (.own ds))) := rfl
theorem ownApp_own {i : Nat} {ρ : Rho} {ds : List PyData} (d : PyData) (h : ρ[i]? = some (.own ds)) (hl : ds.length < 1000000) : ownApp i ρ d = some (.nx (ρ.set i (.own (ds ++ [d])))) := by
  unfold ownApp
  rw [h]
  simp [hl]
theorem ownExt_own {i : Nat} {ρ : Rho} {ds : List PyData} (es : List PyData) (h : ρ[i]? = some (.own ds)) (hl : ds.length + es.length ≤ 1000000) : ownExt i ρ (.list es) = some (.nx (ρ.set i (.own (ds ++ es)))) := by
  unfold ownExt
  rw [h]
  have : catOk ds.length es.length = true := by simp only [catOk, decide_eq_true_eq, sizeLine_eq]; omega
  simp [this]
/-! ### operators -/
@[simp] theorem bop_add_ii (a b : Int) : bop .add (.int a) (.int b) = some (.int (a + b)) := rfl
@[simp] theorem bop_sub_ii (a b : Int) : bop .sub (.int a) (.int b) = some (.int (a - b)) := rfl
theorem catOk_of {a b : Nat} (h : a + b ≤ 16777216) : catOk a b = true := by simp only [catOk, decide_eq_true_eq, sizeLine_eq]; exact h
@[simp] theorem bop_add_tt (a b : List PyData) : bop .add (.tuple a) (.tuple b) = if catOk a.length b.length then some (.tuple (a ++ b)) else none := rfl
@[simp] theorem bop_add_ll (a b : List PyData) : bop .add (.list a) (.list b) = if catOk a.length b.length then some (.list (a ++ b)) else none := rfl
@[simp] theorem bop_add_ss (a b : Str) : bop .add (.str a) (.str b) = if catOk a.length b.length then some (.str (a ++ b)) else none := rfl
@[simp] theorem bop_mul_ii (a b : Int) : bop .mul (.int a) (.int b) = if rng a || rng b then some (.int (a * b)) else none := rfl
theorem bop_modP {a b : Int} (h : 0 < b) : bop .mod (.int a) (.int b) = some (.int (a % b)) := by show (if decide (0 < b) then _ else _) = _; simp [h]
theorem bop_fdiv_ii {a b : Int} (h : 0 < b) (h2 : b < 1073741824) : bop .fdiv (.int a) (.int b) = some (.int (a / b)) := by show (if decide (0 < b) && decide (b < 1073741824) then _ else _) = _; simp [h, h2]
@[simp] theorem copD_lt (a b : Int) : copD .lt (.int a) (.int b) = some (.bool (decide (a < b))) := rfl
@[simp] theorem copD_le (a b : Int) : copD .le (.int a) (.int b) = some (.bool (decide (a ≤ b))) := rfl
@[simp] theorem copD_gt (a b : Int) : copD .gt (.int a) (.int b) = some (.bool (decide (b < a))) := rfl
@[simp] theorem copD_ge (a b : Int) : copD .ge (.int a) (.int b) = some (.bool (decide (b ≤ a))) := rfl
theorem copD_eq {a b : PyData} (h : eqOk a b = true) : copD .eq a b = some (.bool (PyData.eqv a b)) := by
  have : cop .eq a b = if eqOk a b then some (PyData.eqv a b) else none := by cases a <;> cases b <;> rfl
  rw [copD, this, if_pos h]; rfl
theorem copD_ne {a b : PyData} (h : eqOk a b = true) : copD .ne a b = some (.bool (!PyData.eqv a b)) := by
  have : cop .ne a b = if eqOk a b then some (!PyData.eqv a b) else none := by cases a <;> cases b <;> rfl
  rw [copD, this, if_pos h]; rfl
theorem eqOk_str_r (d : PyData) (s : Str) : eqOk d (.str s) = true := by simp [eqOk, PyData.depth]
theorem eqOk_int_r (d : PyData) (s : Int) : eqOk d (.int s) = true := by simp [eqOk, PyData.depth]
theorem eqOk_bool_r (d : PyData) (s : Bool) : eqOk d (.bool s) = true := by simp [eqOk, PyData.depth]
theorem eqOk_none_r (d : PyData) : eqOk d .none = true := by simp [eqOk, PyData.depth]
theorem eqOk_le {d e : PyData} (h : d.depth ≤ 64 ∨ e.depth ≤ 64) : eqOk d e = true := by simp only [eqOk, decide_eq_true_eq]; omega
theorem eqOk_str_l (d : PyData) (s : Str) : eqOk (.str s) d = true := by simp [eqOk, PyData.depth]
theorem eqOk_int_l (d : PyData) (s : Int) : eqOk (.int s) d = true := by simp [eqOk, PyData.depth]
theorem eqOk_none_l (d : PyData) : eqOk .none d = true := by simp [eqOk, PyData.depth]
theorem eqOk_bool_l (d : PyData) (s : Bool) : eqOk (.bool s) d = true := by simp [eqOk, PyData.depth]
@[simp] theorem eq_str_r (d : PyData) (s : Str) : copD .eq d (.str s) = some (.bool (PyData.eqv d (.str s))) := copD_eq (eqOk_str_r _ _)
@[simp] theorem eq_int_r (d : PyData) (s : Int) : copD .eq d (.int s) = some (.bool (PyData.eqv d (.int s))) := copD_eq (eqOk_int_r _ _)
@[simp] theorem eq_none_r (d : PyData) : copD .eq d .none = some (.bool (PyData.eqv d .none)) := copD_eq (eqOk_none_r _)
@[simp] theorem ne_str_r (d : PyData) (s : Str) : copD .ne d (.str s) = some (.bool (!PyData.eqv d (.str s))) := copD_ne (eqOk_str_r _ _)
@[simp] theorem ne_int_r (d : PyData) (s : Int) : copD .ne d (.int s) = some (.bool (!PyData.eqv d (.int s))) := copD_ne (eqOk_int_r _ _)
@[simp] theorem eq_tup0_r (d : PyData) : copD .eq d (.tuple []) = some (.bool (PyData.eqv d (.tuple []))) := copD_eq (eqOk_le (.inr (by simp [PyData.depth, PyData.depthAll])))
@[simp] theorem ne_tup0_r (d : PyData) : copD .ne d (.tuple []) = some (.bool (!PyData.eqv d (.tuple []))) := copD_ne (eqOk_le (.inr (by simp [PyData.depth, PyData.depthAll])))
@[simp] theorem eq_lst0_r (d : PyData) : copD .eq d (.list []) = some (.bool (PyData.eqv d (.list []))) := copD_eq (eqOk_le (.inr (by simp [PyData.depth, PyData.depthAll])))
@[simp] theorem ne_lst0_r (d : PyData) : copD .ne d (.list []) = some (.bool (!PyData.eqv d (.list []))) := copD_ne (eqOk_le (.inr (by simp [PyData.depth, PyData.depthAll])))
theorem copD_in_t {a : PyData} {b : List PyData} (h : inOk b a = true) : copD .isin a (.tuple b) = some (.bool (b.any fun z => PyData.eqv z a)) := by
  have : cop .isin a (.tuple b) = if inOk b a then some (b.any fun z => PyData.eqv z a) else none := by cases a <;> rfl
  rw [copD, this, if_pos h]; rfl
theorem copD_in_l {a : PyData} {b : List PyData} (h : inOk b a = true) : copD .isin a (.list b) = some (.bool (b.any fun z => PyData.eqv z a)) := by
  have : cop .isin a (.list b) = if inOk b a then some (b.any fun z => PyData.eqv z a) else none := by cases a <;> rfl
  rw [copD, this, if_pos h]; rfl
theorem copD_notin_t {a : PyData} {b : List PyData} (h : inOk b a = true) : copD .notin a (.tuple b) = some (.bool (!b.any fun z => PyData.eqv z a)) := by
  have : cop .notin a (.tuple b) = if inOk b a then some (!b.any fun z => PyData.eqv z a) else none := by cases a <;> rfl
  rw [copD, this, if_pos h]; rfl
theorem copD_notin_l {a : PyData} {b : List PyData} (h : inOk b a = true) : copD .notin a (.list b) = some (.bool (!b.any fun z => PyData.eqv z a)) := by
  have : cop .notin a (.list b) = if inOk b a then some (!b.any fun z => PyData.eqv z a) else none := by cases a <;> rfl
  rw [copD, this, if_pos h]; rfl
theorem inOk_str (xs : List PyData) (s : Str) : inOk xs (.str s) = true := by simp [inOk, PyData.depth]
theorem inOk_int (xs : List PyData) (s : Int) : inOk xs (.int s) = true := by simp [inOk, PyData.depth]
theorem inOk_bool (xs : List PyData) (s : Bool) : inOk xs (.bool s) = true := by simp [inOk, PyData.depth]
theorem inOk_le {xs : List PyData} {d : PyData} (h : d.depth ≤ 64) : inOk xs d = true := by simp only [inOk, decide_eq_true_eq]; omega
@[simp] theorem in_str_t (s : Str) (b : List PyData) : copD .isin (.str s) (.tuple b) = some (.bool (b.any fun z => PyData.eqv z (.str s))) := copD_in_t (inOk_str _ _)
@[simp] theorem in_int_t (s : Int) (b : List PyData) : copD .isin (.int s) (.tuple b) = some (.bool (b.any fun z => PyData.eqv z (.int s))) := copD_in_t (inOk_int _ _)
@[simp] theorem in_int_l (s : Int) (b : List PyData) : copD .isin (.int s) (.list b) = some (.bool (b.any fun z => PyData.eqv z (.int s))) := copD_in_l (inOk_int _ _)
@[simp] theorem in_bool_l (s : Bool) (b : List PyData) : copD .isin (.bool s) (.list b) = some (.bool (b.any fun z => PyData.eqv z (.bool s))) := copD_in_l (inOk_bool _ _)
@[simp] theorem notin_bool_l (s : Bool) (b : List PyData) : copD .notin (.bool s) (.list b) = some (.bool (!b.any fun z => PyData.eqv z (.bool s))) := copD_notin_l (inOk_bool _ _)
@[simp] theorem isND_eq (ng : Bool) (x : PyData) : isND ng x = some (.bool (xor ng (isNone x))) := rfl
@[simp] theorem isID_eq (t : Ty) (x : PyData) : isID t x = some (.bool (isTy t x)) := rfl
@[simp] theorem blt_len_l (a : List PyData) : blt .len (.list a) = some (.int a.length) := rfl
@[simp] theorem blt_len_t (a : List PyData) : blt .len (.tuple a) = some (.int a.length) := rfl
@[simp] theorem blt_len_s (a : Str) : blt .len (.str a) = some (.int a.length) := rfl
@[simp] theorem blt_int_i (a : Int) : blt .int (.int a) = some (.int a) := rfl
@[simp] theorem blt_int_b (a : Bool) : blt .int (.bool a) = some (.int (if a then 1 else 0)) := rfl
@[simp] theorem blt_tup_l (a : List PyData) : blt .tuple (.list a) = some (.tuple a) := rfl
@[simp] theorem blt_tup_t (a : List PyData) : blt .tuple (.tuple a) = some (.tuple a) := rfl
@[simp] theorem blt_lst_l (a : List PyData) : blt .list (.list a) = some (.list a) := rfl
@[simp] theorem blt_lst_t (a : List PyData) : blt .list (.tuple a) = some (.list a) := rfl
theorem blt_sorted_l {a : List PyData} (h : sortOk a = true) : blt .sorted (.list a) = some (.list (sortD a)) := by
  show (if sortOk a then some (PyData.list (sortD a)) else none) = _
  rw [if_pos h]
theorem boolsOf_map (bs : List Bool) : boolsOf (bs.map .bool) = some bs := by
  induction bs with
  | nil => rfl
  | cons b r ih => show (boolsOf (r.map .bool)).map (b :: ·) = _; rw [ih]; rfl
theorem strsOf_map (bs : List Str) : strsOf (bs.map .str) = some bs := by
  induction bs with
  | nil => rfl
  | cons b r ih => show (strsOf (r.map .str)).map (b :: ·) = _; rw [ih]; rfl
theorem blt_all_map (bs : List Bool) : blt .all (.list (bs.map .bool)) = some (.bool (bs.all id)) := by
  show (boolsOf _).map _ = _
  rw [boolsOf_map]; rfl
theorem blt_any_map (bs : List Bool) : blt .any (.list (bs.map .bool)) = some (.bool (bs.any id)) := by
  show (boolsOf _).map _ = _
  rw [boolsOf_map]; rfl
@[simp] theorem ixD_li (a : List PyData) (i : Int) : ixD (.list a) (.int i) = atI a i := rfl
@[simp] theorem ixD_ti (a : List PyData) (i : Int) : ixD (.tuple a) (.int i) = atI a i := rfl
@[simp] theorem slD_l (a : List PyData) (l h : Option Int) : slD (.list a) l h = some (.list (cutD a l h)) := rfl
@[simp] theorem slD_t (a : List PyData) (l h : Option Int) : slD (.tuple a) l h = some (.tuple (cutD a l h)) := rfl
@[simp] theorem seqD_l (a : List PyData) : seqD (.list a) = some a := rfl
@[simp] theorem seqD_t (a : List PyData) : seqD (.tuple a) = some a := rfl
@[simp] theorem enumK_l (a : List PyData) : enumK (.list a) = some (enumD 0 a) := rfl
@[simp] theorem enumK_t (a : List PyData) : enumK (.tuple a) = some (enumD 0 a) := rfl
@[simp] theorem rgK_int (n : Int) : rgK (.int n) = if rngOk n then some (rgD n) else none := rfl
theorem rngOk_of {n : Int} (h0 : 0 ≤ n) (h1 : n ≤ 1000000) : rngOk n = true := by
  rw [rngOk_iff]
  omega
/-! places -/
@[simp] theorem atI_0 {α : Type} (x : α) (r : List α) : atI (x :: r) 0 = some x := by
  have := atI_nat (xs := x :: r) (j := 0) (v := x) rfl
  exact this
@[simp] theorem atI_1 {α : Type} (x y : α) (r : List α) : atI (x :: y :: r) 1 = some y := by
  have := atI_nat (xs := x :: y :: r) (j := 1) (v := y) rfl
  exact this
@[simp] theorem atI_2 {α : Type} (x y z : α) (r : List α) : atI (x :: y :: z :: r) 2 = some z := by
  have := atI_nat (xs := x :: y :: z :: r) (j := 2) (v := z) rfl
  exact this
@[simp] theorem atI_3 {α : Type} (x y z u : α) (r : List α) : atI (x :: y :: z :: u :: r) 3 = some u := by
  have := atI_nat (xs := x :: y :: z :: u :: r) (j := 3) (v := u) rfl
  exact this
theorem atI_nn {α : Type} {xs : List α} {i : Int} (h0 : 0 ≤ i) (h1 : i < xs.length) : ∃ x, x ∈ xs ∧ L2.atI xs i = some x := by
  have hk : i.toNat < xs.length := by omega
  refine ⟨xs[i.toNat], List.getElem_mem hk, ?_⟩
  have e : i = ((i.toNat : Nat) : Int) := by omega
  have q : L2.atI xs ((i.toNat : Nat) : Int) = some xs[i.toNat] := L2.atI_nat (List.getElem?_eq_getElem hk)
  rwa [← e] at q
/-! slices -/
theorem cutD_from (n : Nat) (xs : List PyData) : cutD xs (some (n : Int)) none = xs.drop n := by
  unfold cutD
  rw [HT.sIx_nat, HT.sIx_none]
  by_cases h : n ≤ xs.length
  · rw [Nat.min_eq_left h, List.take_of_length_le (by rw [List.length_drop]; exact Nat.le_refl _)]
  · rw [Nat.min_eq_right (by omega), Nat.sub_self, List.take_zero, List.drop_eq_nil_of_le (by omega)]
theorem cutD_to (n : Nat) (xs : List PyData) : cutD xs none (some (n : Int)) = xs.take n := by
  unfold cutD
  rw [HT.sIx_nat, HT.sIx_none, List.drop_zero, Nat.sub_zero]
  by_cases h : n ≤ xs.length
  · rw [Nat.min_eq_left h]
  · rw [Nat.min_eq_right (by omega), List.take_length, List.take_of_length_le (by omega)]
theorem cutD_mid (n m : Nat) (xs : List PyData) : cutD xs (some (n : Int)) (some (m : Int)) = (xs.drop n).take (m - n) := by
  unfold cutD
  rw [HT.sIx_nat, HT.sIx_nat]
  by_cases h : n ≤ xs.length
  · rw [Nat.min_eq_left h]
    by_cases h2 : m ≤ xs.length
    · rw [Nat.min_eq_left h2]
    · rw [Nat.min_eq_right (by omega), List.take_of_length_le (by rw [List.length_drop]; exact Nat.le_refl _), List.take_of_length_le (by rw [List.length_drop]; omega)]
  · have h3 : min n xs.length = xs.length := by omega
    rw [h3, List.drop_eq_nil_of_le (Nat.le_refl _), List.drop_eq_nil_of_le (by omega), List.take_nil, List.take_nil]
@[simp] theorem cutD_1 (xs : List PyData) : cutD xs (some 1) none = xs.drop 1 := cutD_from 1 xs
@[simp] theorem cutD_2 (xs : List PyData) : cutD xs none (some 2) = xs.take 2 := cutD_to 2 xs
@[simp] theorem cutD_3 (xs : List PyData) : cutD xs none (some 3) = xs.take 3 := cutD_to 3 xs
@[simp] theorem cutD_13 (xs : List PyData) : cutD xs (some 1) (some 3) = (xs.drop 1).take 2 := cutD_mid 1 3 xs
/-! texts that give values alone -/
mutual
def noR : QS → Bool
  | .retD _ => false
  | .retM _ => false
  | .iff _ _ a b => noRs a && noRs b
  | .for _ _ _ b => noRs b
  | .whl _ b => noRs b
  | _ => true
def noRs : QSs → Bool
  | .nil => true
  | .cons s r => noR s && noRs r
end
def Out.gd : Out → Prop
  | .nx _ => True
  | .rt _ => True
  | _ => False
theorem gd_bind {α : Type} {x : Option α} {f : α → Option Out} (h : ∀ a o, f a = some o → o.gd) {o : Out} (e : x.bind f = some o) : o.gd := by
  obtain ⟨a, _, e⟩ := Option.bind_eq_some_iff.mp e
  exact h a o e
theorem gd_mapN {α : Type} {x : Option α} {f : α → Rho} {o : Out} (e : (x.map fun a => Out.nx (f a)) = some o) : o.gd := by
  obtain ⟨a, _, rfl⟩ := Option.map_eq_some_iff.mp e
  trivial
theorem gd_mapR {x : Option PyData} {o : Out} (e : x.map Out.rt = some o) : o.gd := by
  obtain ⟨a, _, rfl⟩ := Option.map_eq_some_iff.mp e
  trivial
theorem gd_then {x : Option Out} {f : Rho → Option Out} (hx : ∀ o, x = some o → o.gd) (h : ∀ ρ o, f ρ = some o → o.gd) {o : Out} (e : x.bind (thenO f) = some o) : o.gd := by
  obtain ⟨a, h1, e⟩ := Option.bind_eq_some_iff.mp e
  have := hx a h1
  cases a with
  | nx ρ => exact h ρ o e
  | rt d => cases e; trivial
  | ro _ => exact this.elim
  | rm _ _ _ _ _ => exact this.elim
theorem gd_loop {f : PyData → Rho → Option Out} (h : ∀ d ρ o, f d ρ = some o → o.gd) : ∀ (ds : List PyData) (ρ : Rho) {o : Out}, loopR f ds ρ = some o → o.gd
  | [], _, _, e => by cases e; trivial
  | d :: ds, ρ, _, e => gd_then (fun o h1 => h d ρ o h1) (fun ρ' o h2 => gd_loop h ds ρ' h2) e
theorem gd_whl {c : Rho → Option Bool} {f : Rho → Option Out} (h : ∀ ρ o, f ρ = some o → o.gd) : ∀ (m : Nat) (ρ : Rho) {o : Out}, whlR c f m ρ = some o → o.gd
  | 0, _, _, e => by cases e
  | m + 1, ρ, o, e => by
    unfold whlR at e
    obtain ⟨b, _, e⟩ := Option.bind_eq_some_iff.mp e
    cases b with
    | true => exact gd_then (fun o h1 => h ρ o h1) (fun ρ' o h2 => gd_whl h m ρ' h2) e
    | false => cases e; trivial
section
variable {G : Nat → Option PyData} {r : Nat → List PyData → Option PyData}
mutual
theorem gdS : ∀ (s : QS) (ρ : Rho) {o : Out}, noR s = true → evS G r s ρ = some o → o.gd
  | .set fz i e, ρ, o, _, h => by rw [evS] at h; exact gd_mapN h
  | .setO fz i e, ρ, o, _, h => by
    rw [evS] at h
    refine gd_bind (fun a o e => ?_) h
    cases a <;> cases e
    trivial
  | .setT fz is e, ρ, o, _, h => by rw [evS] at h; exact gd_bind (fun a o e => gd_mapN (f := id) e) h
  | .setD fz i ks es, ρ, o, _, h => by rw [evS] at h; exact gd_mapN h
  | .app fz i e, ρ, o, _, h => by
    rw [evS] at h
    refine gd_bind (fun a o e => ?_) h
    unfold ownApp at e
    split at e
    · split at e
      · cases e; trivial
      · cases e
    · cases e
  | .ext fz i e, ρ, o, _, h => by
    rw [evS] at h
    refine gd_bind (fun a o e => ?_) h
    unfold ownExt at e
    split at e
    · split at e
      · cases e; trivial
      · cases e
    · cases e
  | .iff fz c a b, ρ, o, n, h => by
    rw [evS] at h
    unfold noR at n
    rw [Bool.and_eq_true] at n
    refine gd_bind (fun k o e => ?_) h
    cases k with
    | true => exact gdSs a _ n.1 e
    | false => exact gdSs b _ n.2 e
  | .for fz tg it b, ρ, o, n, h => by
    rw [evS] at h
    unfold noR at n
    exact gd_bind (fun ds o e => gd_loop (fun d ρ1 o e => gd_bind (fun ρ2 o e => gdSs b ρ2 n e) e) ds _ e) h
  | .ret fz e, ρ, o, _, h => by rw [evS] at h; exact gd_mapR h
  | .srt fz i tup a js ln b, ρ, o, _, h => by rw [evS] at h; exact gd_mapN h
  | .obs is, ρ, o, _, h => by rw [evS] at h; cases h; trivial
  | .setN fz i p, ρ, o, _, h => by rw [evS] at h; exact gd_mapN h
  | .memo k f es, ρ, o, _, h => by
    rw [evS] at h
    refine gd_bind (fun a o e => gd_bind (fun ds o e => ?_) e) h
    split at e
    · exact gd_mapR e
    · cases e
  | .newD fz i, ρ, o, _, h => by rw [evS] at h; cases h; trivial
  | .putD fz i k v, ρ, o, _, h => by
    rw [evS] at h
    refine gd_bind (fun a o e => gd_bind (fun ds o e => ?_) e) h
    unfold ownPut at e
    split at e
    · split at e
      · cases e; trivial
      · cases e
    · cases e
  | .putI fz i k v, ρ, o, _, h => by
    rw [evS] at h
    refine gd_bind (fun a o e => gd_bind (fun ds o e => ?_) e) h
    unfold ownPutI at e
    split at e
    · split at e
      · exact gd_mapN e
      · cases e
    · cases e
  | .retD i, ρ, o, n, h => by cases n
  | .mks, ρ, o, _, h => by
    rw [evS] at h
    unfold mksR at h
    split at h
    · cases h; trivial
    · cases h
  | .appT i e, ρ, o, _, h => by
    rw [evS] at h
    refine gd_bind (fun a o e => ?_) h
    unfold thgApp at e
    split at e
    · split at e
      · cases e; trivial
      · cases e
    · cases e
  | .putL i k v, ρ, o, _, h => by
    rw [evS] at h
    refine gd_bind (fun a o e => gd_bind (fun ds o e => ?_) e) h
    unfold lnkPut at e
    split at e
    · split at e
      · cases e; trivial
      · cases e
    · cases e
  | .retM e, ρ, o, n, h => by cases n
  | .callM x f es, ρ, o, _, h => by
    rw [evS] at h
    refine gd_bind (fun a o e => gd_bind (fun ds o e => gd_bind (fun y o e => ?_) e) e) h
    unfold resM at e
    split at e
    · cases e; trivial
    · cases e
  | .whl c b, ρ, o, n, h => by
    rw [evS] at h
    unfold noR at n
    exact gd_whl (fun ρ1 o e => gdSs b ρ1 n e) _ _ h
  | .retN, ρ, o, _, h => by rw [evS] at h; cases h; trivial
  | .pass, ρ, o, _, h => by rw [evS] at h; cases h; trivial
theorem gdSs : ∀ (s : QSs) (ρ : Rho) {o : Out}, noRs s = true → evSs G r s ρ = some o → o.gd
  | .nil, ρ, o, _, h => by rw [evSs] at h; cases h; trivial
  | .cons s t, ρ, o, n, h => by
    rw [evSs] at h
    unfold noRs at n
    rw [Bool.and_eq_true] at n
    exact gd_then (fun o e => gdS s ρ n.1 e) (fun ρ' o e => gdSs t ρ' n.2 e) h
end
end
theorem outP_map {x : Option Out} (h : ∀ o, x = some o → o.gd) : x.bind outP = x.map outD := by
  cases x with
  | none => rfl
  | some o =>
    have := h o rfl
    cases o with
    | nx ρ => rfl
    | rt d => rfl
    | ro _ => exact this.elim
    | rm _ _ _ _ _ => exact this.elim
/-- a plain def of the table: its number of parameters, of slots, its body -/
def Has (T : Tab) (f k m : Nat) (b : QSs) : Prop := ∃ F, T.fn f = some F ∧ F.ps.length = k ∧ F.N.length = m ∧ (F.kd, noRs F.body, F.body) = (Kd.pl, true, b)
theorem run_succ {T : Tab} {f k m : Nat} {b : QSs} (h : Has T f k m b) (n : Nat) (ds : List PyData) (hl : ds.length = k) : T.run (n + 1) f ds = (evSs T.G (T.run n) b (startR m ds)).map outD := by
  obtain ⟨F, h1, rfl, rfl, h2⟩ := h
  simp only [Prod.mk.injEq] at h2
  obtain ⟨h2, h3, rfl⟩ := h2
  rw [Tab.run, h1]
  simp only [hl, if_true, h2]
  exact outP_map fun o e => gdSs F.body _ h3 e
/-- one of any kind -/
def HasK (T : Tab) (f k m : Nat) (kd : Kd) (b : QSs) : Prop := ∃ F, T.fn f = some F ∧ F.ps.length = k ∧ F.N.length = m ∧ F.kd = kd ∧ F.body = b
theorem run_succK {T : Tab} {f k m : Nat} {kd : Kd} {b : QSs} (h : HasK T f k m kd b) (n : Nat) (ds : List PyData) (hl : ds.length = k) : T.run (n + 1) f ds = (evSs T.G (T.run n) b (startR m ds)).bind (outK kd) := by
  obtain ⟨F, h1, rfl, rfl, rfl, rfl⟩ := h
  rw [Tab.run, h1]
  simp only [hl, if_true]
@[simp] theorem eqv_ii (a b : Int) : PyData.eqv (.int a) (.int b) = (a == b) := by simp [PyData.eqv]
@[simp] theorem eqv_ss (a b : Wd) : PyData.eqv (.str a.s) (.str b.s) = decide (a = b) := by
  have := Wd.s_beq a b
  simp only [PyData.eqv]
  first | exact this | (simp only [← this]; rfl) | simp
@[simp] theorem eqv_nn : PyData.eqv .none .none = true := by simp [PyData.eqv]
@[simp] theorem eqv_ts (a : List PyData) (b : Str) : PyData.eqv (.tuple a) (.str b) = false := by simp [PyData.eqv]
@[simp] theorem eqv_st (a : List PyData) (b : Str) : PyData.eqv (.str b) (.tuple a) = false := by simp [PyData.eqv]
theorem eqv_tt (a b : List PyData) : PyData.eqv (.tuple a) (.tuple b) = PyData.eqvAll a b := by simp [PyData.eqv]
theorem eqv_ll (a b : List PyData) : PyData.eqv (.list a) (.list b) = PyData.eqvAll a b := by simp [PyData.eqv]
@[simp] theorem eqvAll_nn : PyData.eqvAll [] [] = true := by simp [PyData.eqvAll]
@[simp] theorem eqvAll_cn (a : PyData) (l : List PyData) : PyData.eqvAll (a :: l) [] = false := by simp [PyData.eqvAll]
@[simp] theorem eqvAll_nc (a : PyData) (l : List PyData) : PyData.eqvAll [] (a :: l) = false := by simp [PyData.eqvAll]
@[simp] theorem eqvAll_cc (a b : PyData) (l m : List PyData) : PyData.eqvAll (a :: l) (b :: m) = (PyData.eqv a b && PyData.eqvAll l m) := by simp [PyData.eqvAll]
@[simp] theorem Wd.s_eq (a b : Wd) : (a.s = b.s) = (a = b) := propext (Wd.s_inj a b)
@[simp] theorem tupD_le (ds : List PyData) (h : ds.length ≤ 1000) : tupD ds = some (.tuple ds) := by simp [tupD, h]
@[simp] theorem lstD_le (ds : List PyData) (h : ds.length ≤ 1000) : lstD ds = some (.list ds) := by simp [lstD, h]
end Ev

/-! EvR: an exception out of a comprehension (a def's own, none of a try around). -/
namespace Ev
open PySem PySem.Spec PyProof.Rows L2 HandSPX
section
variable {M : Model} {A : Around} {E : Value → Shared → Prop} {s : Shared} {Z : Obj → Prop} {base : Heap} {env : Env} {outer l : List Env} {L e : Addr}
/-- in the air, whatever its flight is said to be -/
def Airy (base : Heap) (l : List Env) (e : Addr) (Z : Obj → Prop) (h : Heap) : Prop := base.StaysIn h ∧ base.get? e = none ∧ h.FunFrames base l ∧ ∃ fl, TracedZ h base e Z fl
theorem airy_leaves {Q : Unit → Shared → Prop} (hZ : Steady Z) (hfr : A.frames = some (env :: outer)) (hf : env.frame = some L) (x : Airy base (env :: outer) e Z s.heap)
    (hQ : ∀ h', FlyingZ base outer e Z h' → s.heap.UpToSlots h' → Q () { s with heap := h' }) : wpAny M A (leaving env (.ref e)) Q E s := by
  obtain ⟨hkb, hen, hl, fl, ht⟩ := x
  cases q : (fl == rawInt L) with
  | true => exact leaves_heldZ hf ⟨hkb, hen, hl, (eq_of_beq q) ▸ ht⟩ hQ
  | false =>
    obtain ⟨oe, vs, T, oT, ts, he, hz, hd, h1, hnT, hTe, hT, hdT, h3⟩ := ht
    have away : ∀ b, b ≠ T → (s.heap.update T (Obj.mapFields (·.setIfInBounds 3 Value.none))).get? b = s.heap.get? b := fun b hb => Heap.get?_update_other _ _ (Ne.symm hb)
    have plainO : ∀ b o, s.heap.get? b = some o → (∀ vs, o.data ≠ .fields vs) → b ≠ T := fun b o hb hnf z => by
      rw [z, hT] at hb; injection hb with hb; subst hb; exact hnf ts hdT
    unfold leaving noteFrame
    simp only [hf]
    refine wpAny_bind (wpAny_bind (wpAny_field he hd h1 ?_))
    rw [if_pos (show (Value.ref T != Value.none) = true from by simp)]
    refine wpAny_bind (wpAny_field hT hdT h3 ?_)
    rw [if_neg (by rw [q]; exact Bool.false_ne_true)]
    refine wpAny_bind (wpAny_setField hT hdT (Array.getElem?_eq_some_iff.mp h3).1 ?_)
    refine wpAny_newEntryZ hZ hfr (hl.of_keeps fun b o hb hnf => ⟨o, (away b (plainO b o hb hnf)).trans hb, rfl⟩) hf ((away e (Ne.symm hTe)).trans he)
      (fun b o hbo => (away b fun z => by rw [z, hnT] at hbo; cases hbo).trans (hkb b o hbo)) hen hd (Array.getElem?_eq_some_iff.mp h1).1 hz fun h' hL => ?_
    obtain ⟨x1, ⟨_, _, x2⟩, x3, x4⟩ := hL
    exact hQ h' ⟨x1, hen, x2, x3⟩ fun b o hb hnf => x4 b o ((away b (plainO b o hb hnf)).trans hb) hnf
/-- the comprehension lets its names go and hands it on -/
theorem airy_passOn {α : Type} {what : String} {env' : Env} {Q : α → Shared → Prop} (x : Airy base l e Z s.heap) (hE : ∀ h', Airy base l e Z h' → s.heap.UpToSlots h' → E (.ref e) { s with heap := h' }) :
    wpAny M A (PySem.passOn what (.ref e) env' : Sem α) Q E s := by
  obtain ⟨hkb, hen, hl, fl, ht⟩ := x
  have ht' := ht
  obtain ⟨oe, vs, T, oT, ts, he, hz, hd, h1, hnT, hTe, hT, hdT, h3⟩ := ht'
  unfold PySem.passOn
  refine wpAny_bind (wpAny_field he hd h1 ?_)
  rw [if_neg (show ¬ ((Value.ref T == Value.none) = true) from by simp)]
  refine wpAny_bind (setFlight_anyZ hkb hl ht fun h' k1 k2 k3 k4 => ?_)
  exact wpAny_throw (hE h' ⟨k1, hen, k2, _, k3⟩ k4)
end
section
variable {X : Cx} {pins : List (Addr × Obj)} {σ : L2.St} {H : Hp} {sI s' : Shared} {B : Heap} {E : XK} {cls : Value} {d : Option Addr} {a C : Addr}
/-- an exception that came out of a comprehension (its names' place C is let go) leaves the def -/
theorem leave_airy (hs : X.stack = X.env :: X.outer) (hf : X.env.frame = some X.env.locals) (hex : X.ex = []) {E₁ : Value → Shared → Prop} (I : Inv X pins σ H sI) (hC : H C = none) (hC0 : X.s_0.heap.objs.size ≤ C)
    (nb : ∀ b o, sI.heap.get? b = some o → b ∉ frs X.stack → b ≠ C → B.get? b = some o) (up : ∀ b o, b ≠ C → sI.heap.get? b = some o → (∀ vs, o.data ≠ .fields vs) → ∃ sl, s'.heap.get? b = some { o with slots := sl })
    (sky : Airy B X.stack a (Zc cls d) s'.heap) (na : H a = none) (os : s'.os = sI.os) (ag : AllBare s'.gens) (w : E cls d H) :
    wpAny (model X.prog X.w) X.A (leaving X.env (.ref a)) (fun _ s'' => CX X.prog X.w X.outer X.H_0 X.s_0 E (.ref a) s'') E₁ s' := by
  have hfr : X.A.frames = some (X.env :: X.outer) := by rw [I.ok.frames, hs]
  have nst : ∀ b o, X.s_0.heap.get? b = some o → b ∉ X.fs → b ∉ frs X.stack := fun b o e hb hm => by
    rcases List.mem_cons.mp (I.stkSub b hm) with z | z
    · have h1 := Heap.lt_size e
      have h2 := I.ok.above
      rw [z] at h1
      exact absurd (Nat.lt_of_lt_of_le h1 h2) (Nat.lt_irrefl _)
    · exact hb z
  have nC : ∀ b o, X.s_0.heap.get? b = some o → b ≠ C := fun b o e z => by
    have h1 := Heap.lt_size e
    rw [z] at h1
    exact absurd (Nat.lt_of_lt_of_le h1 hC0) (Nat.lt_irrefl _)
  have hex' : ∀ b, b ∉ X.ex := fun b hb => by rw [hex] at hb; cases hb
  have hokB : HOk X.prog X.w H B := fun b o q =>
    (I.hok b o q).stay (fun c u hc r => nb c u r (fun hm => by
      have z := I.stkFree c hm
      rcases hc with hc | hc
      · rw [hc, q] at z; cases z
      · rw [hc] at z; cases z) (fun z => by
      rcases hc with hc | hc
      · rw [← z, hc, q] at hC; cases hC
      · rw [← z, hc] at hC; cases hC)) (fun _ r => r) fun _ _ r => r
  rw [hs] at sky
  refine airy_leaves Zc.steady hfr hf sky fun h' fl up' => ?_
  refine ⟨a, B, H, cls, d, rfl, fl, hokB, ⟨fun b o e n hb => nb b o (I.base.keep b o e n hb (hex' b)) (nst b o e hb) (nC b o e), fun b o e hb => ?_, fun b o e n => I.base.free b o e n (hex' b), fun b o e hb => ?_, I.base.tups, I.base.frzs, I.base.tbls⟩,
    na, os.trans I.os, ag, w⟩
  · obtain ⟨_, o₀, e₀, hnf⟩ := I.ok.funs.mem hb
    rw [e] at e₀; cases e₀
    obtain ⟨sl, e1⟩ := I.base.slot b o e (I.ok.frf b hb) hb (hex' b)
    obtain ⟨sl2, e2⟩ := up b _ (nC b o e) e1 hnf
    obtain ⟨sl3, e3⟩ := up' b _ e2 hnf
    exact ⟨sl3, e3⟩
  · obtain ⟨o', e1⟩ := I.base.there b o e (hex' b)
    exact ⟨o', nb b o' e1 (nst b o e hb) (nC b o e)⟩
theorem funFrames_but {base base' h h' : Heap} {C : Addr} (k : ∀ b, b ≠ C → h'.get? b = h.get? b) (kb : ∀ b, base.get? b = none → base'.get? b = none) : ∀ {l : List Env}, h.FunFrames base l → (∀ L ∈ frs l, L ≠ C) → h'.FunFrames base' l
  | [], _, _ => trivial
  | env :: l, x, n => by
    obtain ⟨hk, ⟨L, o, hf, hb, ho, hd⟩, hr⟩ := x
    have hm : L ∈ frs (env :: l) := List.mem_filterMap.mpr ⟨env, List.mem_cons_self, hf⟩
    exact ⟨hk, ⟨L, o, hf, kb L hb, (k L (n L hm)).trans ho, hd⟩, funFrames_but k kb hr fun b hb => by
      obtain ⟨e, he, q⟩ := List.mem_filterMap.mp hb
      exact n b (List.mem_filterMap.mpr ⟨e, List.mem_cons_of_mem _ he, q⟩)⟩
/-- what a call lets out within a comprehension: noted by the def's frame, handed on by the comprehension, out of the def -/
theorem blk_raises {ce : Env} {s : Shared} {u : Value} {use : Option (Value → Sem Unit)} {Qf : Value → Shared → Prop} {acc : Value} {m : Str → Option Value} {E₁ : Value → Shared → Prop}
    (hs : X.stack = X.env :: X.outer) (hf : X.env.frame = some X.env.locals) (hex : X.ex = []) (hx : X.xe = fun e s' => wpAny (model X.prog X.w) X.A (leaving X.env e) (fun _ s'' => CX X.prog X.w X.outer X.H_0 X.s_0 E e s'') E₁ s')
    (hce : ce.frame = X.env.frame) (I : Inv X pins σ H s) (hC : H C = none) (hC0 : X.s_0.heap.objs.size ≤ C) (hCf : C ∉ frs X.stack) (hn : s.heap.Ns C m) (c : CX X.prog X.w X.stack H s E u s') :
    notedBy (model X.prog X.w) X.A ce (fun e s'' => compPost (model X.prog X.w) X.A X.xe use Qf acc C (.error e) s'') u s' := by
  have hfr : X.A.frames = some (X.env :: X.outer) := by rw [I.ok.frames, hs]
  have c' : CX X.prog X.w X.stack H s (fun cls d H' => E cls d H' ∧ H' C = none) u s' := by
    obtain ⟨a, B, H', cls, d, e, fl, hok, ub, na, os, ag, w⟩ := c
    obtain ⟨o, _, _, ho, _⟩ := hn
    exact ⟨a, B, H', cls, d, e, fl, hok, ub, na, os, ag, w, ub.free C o ho hC⟩
  have hn' : s'.heap.Ns C m := by
    obtain ⟨a, B, H', cls, d, e, fl, hok, ub, na, os, ag, w⟩ := c
    exact hn.at fun o ho => fl.1 C o (ub.keep C o ho hC hCf)
  obtain ⟨a, B, sI, pins', σ', H', cls, d, rfl, I', nb, up, sky, na, os, ag, w, wC⟩ := XE.of_call (W := fun cls d _ H' => E cls d H' ∧ H' C = none) I (fun _ _ _ h => h) c'
  unfold notedBy
  have en : noteFrame (.ref a) ce = noteFrame (.ref a) X.env := by unfold noteFrame PySem.frameOf; rw [hce]
  rw [en]
  have fin : ∀ h1, HeldZ B X.stack a (Zc cls d) X.env.locals h1 → s'.heap.UpToSlots h1 → compPost (model X.prog X.w) X.A X.xe use Qf acc C (.error (.ref a)) { s' with heap := h1 } := by
    intro h1 hh up1
    obtain ⟨f1, f2, f3, f4⟩ := hh
    have hn1 : h1.Ns C m := up1.ns hn'
    have key : ∀ h', Heap.SameBut C h1 h' → ∀ cenv : Env, wpAny (model X.prog X.w) X.A (PySem.passOn "comprehension.variables-let-go" (.ref a) cenv : Sem Value) (fun _ _ => False) X.xe { s' with heap := h' } := by
      intro h' sb cenv
      have nCe : ∀ b o vs, h1.get? b = some o → o.data = .fields vs → b ≠ C := fun b o vs hb hd z => by
        obtain ⟨o', es, ep, ho', hd', _⟩ := hn1
        rw [z, ho'] at hb
        cases hb
        rw [hd'] at hd
        cases hd
      have air : Airy (PySem.W.hideAll B [C]) X.stack a (Zc cls d) h' := by
        refine ⟨fun b o hb => ?_, ?_, funFrames_but sb.2 (fun b hb => ?_) f3 (fun L hL z => hCf (z ▸ hL)), rawInt X.env.locals, ?_⟩
        · have hbC : b ≠ C := fun z => by
            rw [z, PySem.W.hideAll_none [C] (List.mem_singleton.mpr rfl)] at hb; cases hb
          exact (sb.2 b hbC).trans (f1 b o (PySem.W.of_hideAll _ hb))
        · cases q : (PySem.W.hideAll B [C]).get? a with
          | none => rfl
          | some o =>
            have z := PySem.W.of_hideAll _ q
            rw [f2] at z; cases z
        · cases q : (PySem.W.hideAll B [C]).get? b with
          | none => rfl
          | some o =>
            have z := PySem.W.of_hideAll _ q
            rw [hb] at z; cases z
        · obtain ⟨oe, vs, T', oT, ts, he, hz, hd, h1', hnT, hTe, hT, hdT, h3⟩ := f4
          refine ⟨oe, vs, T', oT, ts, (sb.2 a (nCe a oe vs he hd)).trans he, hz, hd, h1', ?_, hTe, (sb.2 T' (nCe T' oT ts hT hdT)).trans hT, hdT, h3⟩
          cases q : (PySem.W.hideAll B [C]).get? T' with
          | none => rfl
          | some o =>
            have z := PySem.W.of_hideAll _ q
            rw [hnT] at z; cases z
      refine airy_passOn (s := { s' with heap := h' }) air fun h2 air2 up2 => ?_
      rw [hx]
      refine leave_airy (s' := { s' with heap := h2 }) hs hf hex I' wC hC0 (fun b o hb hm hbC => PySem.W.hideAll_get _ (nb b o hb hm) (by simpa using hbC)) (fun b o hbC hb hnf => ?_) air2 na os ag w
      obtain ⟨s1, e1⟩ := up b o hb hnf
      obtain ⟨s2, e2⟩ := up1 b _ e1 hnf
      obtain ⟨s3, e3⟩ := up2 b _ ((sb.2 b hbC).trans e2) hnf
      exact ⟨s3, e3⟩
    cases use with
    | none => exact ⟨m, hn1, fun h' sb cenv _ => key h' sb cenv⟩
    | some v => exact ⟨m, hn1, fun h' sb cenv _ => key h' sb cenv⟩
  rw [hs] at sky fin
  rcases sky with ⟨hB, hnn, hl, oe, vs, he, hz, hd, h1⟩ | fl | hh
  · exact look_newZ Zc.steady hfr hl hf he hB hnn hd h1 hz fin
  · exact looks_onZ Zc.steady hfr hf fl fin
  · exact againZ hf hh.2.2.2 (fin s'.heap hh (Heap.UpToSlots.refl _))
theorem ok_xe (y : Value → Shared → Prop) (o : X.Ok) : ({ X with xe := y } : Cx).Ok := by
  obtain ⟨a1, a2, a3, a4, a5, a6, a7, a8, a9, b1, b2, b3, b4, b5, b6, b7, b8, b9⟩ := o
  exact ⟨a1, a2, a3, a4, a5, a6, a7, a8, a9, b1, b2, b3, b4, b5, b6, b7, b8, b9⟩
theorem inv_xe (y : Value → Shared → Prop) {s : Shared} (I : Inv X pins σ H s) : Inv ({ X with xe := y } : Cx) pins σ H s := by
  obtain ⟨a1, a2, a3, a4, a5, a6, a7, a8, a9, b1, b2⟩ := I
  exact ⟨ok_xe y a1, a2, a3, a4, a5, a6, a7, a8, a9, b1, b2⟩
theorem xe_inv (y : Value → Shared → Prop) {s : Shared} (I : Inv ({ X with xe := y } : Cx) pins σ H s) : Inv X pins σ H s := by
  have := inv_xe X.xe I
  exact this
/-- a comprehension's block whose item may call what raises -/
def blkE (X : Cx) (E : XK) (s : Shared) (H : Hp) (scope : Scope) (ce : Env) (fp : List Addr) : Cx := { X.blk s H scope ce fp with xe := fun u s' => ∃ pins σ H' sc, Inv (X.blk s H scope ce fp) pins σ H' sc ∧ CX X.prog X.w X.stack H' sc E u s' }
/-- such a call's exception is one that the block lets out -/
theorem blkE_pass (X : Cx) (E : XK) (s : Shared) (H : Hp) (scope : Scope) (ce : Env) (fp : List Addr) (σ : L2.St) : ∀ (pins : List (Addr × Obj)) (H' : Hp) (sc : Shared) (u : Value) (s' : Shared), Inv (blkE X E s H scope ce fp) pins σ H' sc → CX X.prog X.w X.stack H' sc E u s' → (blkE X E s H scope ce fp).xe u s' :=
  fun pins H' sc u s' I c => ⟨pins, σ, H', sc, xe_inv _ I, c⟩
theorem frs_below (I : Inv X pins σ H sI) : ∀ b ∈ frs X.stack, b < sI.heap.objs.size := fun b hb => by
  obtain ⟨_, o, e, _⟩ := I.stack.mem hb
  exact Heap.lt_size e
theorem pe_lcX {elt tg iter : Expr} {ifs : List Expr} {scope : Scope} {own : List (Str × Nat)} {pos : Pos} {wi : TI} {g : TG} {tt : TT} {te : TE} {E₁ : Value → Shared → Prop} (hc : X.calm = true) (hN : X.N.Nodup)
    (hs0 : X.stack = X.env :: X.outer) (hf0 : X.env.frame = some X.env.locals) (hex0 : X.ex = []) (hx0 : X.xe = fun e s' => wpAny (model X.prog X.w) X.A (leaving X.env e) (fun _ s'' => CX X.prog X.w X.outer X.H_0 X.s_0 E e s'') E₁ s')
    (hi : PI X tg iter wi) (ok : BlkOk X.N X.env.scope scope own)
    (hg : ∀ (s : Shared) (H : Hp) (C : Addr) (cl : List (Str × Addr)) (fp : List Addr), PG (X.blk s H scope (compEnvC scope cl C X.env) fp) tg g) (ht : ∀ (s : Shared) (H : Hp) (C : Addr) (cl : List (Str × Addr)) (fp : List Addr), PTs (X.blk s H scope (compEnvC scope cl C X.env) fp) ifs tt)
    (he : ∀ (s : Shared) (H : Hp) (C : Addr) (cl : List (Str × Addr)) (fp : List Addr), PE (blkE X E s H scope (compEnvC scope cl C X.env) fp) elt te) (hs : ∀ x, foldedSetIterable iter X.env x = pure x := by intro _; rfl) :
    PE X (.ListComp elt [⟨tg, iter, ifs, 0⟩] scope pos) (tLc wi g tt te (own.map (·.2))) := by
  refine ⟨fun pins s σ H Q I h => ?_⟩
  rw [eval_ListComp]
  have hfree : ∀ y ∈ scope.names, y.2 = .free → ∃ c, X.env.cells.lookup y.1 = some c := fun y hy e => by
    rcases ok.free y hy e with k | k
    · exact I.ok.has _ (.inl k)
    · exact I.ok.has _ (.inr k)
  refine wpAny_comprehension_free rfl hs (closure_ok hfree) ok.kind (fun y hy e => by rw [ok.uniq y hy, e]) (thn (hi.run pins s σ H _ I h) fun xv s1 hx => thn hx fun itv s2 h2 => ?_)
  obtain ⟨it, fp, tn, J, H2, e, I2, T, st2, f2, q⟩ := h2
  subst e
  refine wpAny_newObj_type (newEnv_comp ?_) (by show 0 ≤ sizeLine; decide)
  -- the list that is made
  generalize hD : s2.heap.objs.size = D
  have freshD : H2 D = none := I2.hok.fresh (Nat.le_of_eq hD)
  obtain ⟨W, ⟨m0, w0⟩, turn⟩ := q D freshD
  generalize hs3 : ({ s2 with heap := s2.heap.push { cls := .type "list", data := .seq ([] : List Value).toArray } } : Shared) = s3
  have h3 : s3.heap = s2.heap.push { cls := .type "list", data := .seq ([] : List Value).toArray } := by rw [← hs3]
  have I3 : Inv X pins σ (upd H2 D (.lst [])) s3 := by
    rw [← hs3]
    refine I2.laid (t' := s2.toks) (fun b o e => Heap.get?_push_of_some _ e) (Nat.le_of_eq hD) ⟨Nat.zero_le _, [], 0, .nil, ?_⟩
    rw [← hD]
    exact Heap.get?_push_size _ rfl
  have small : ∀ b ∈ fp, b < s2.heap.objs.size := fun b hb => let ⟨_, e, _⟩ := T.obj _ _ st2 b hb; Heap.lt_size e
  have f3 : ∀ b ∈ fp, FpOk X pins (upd H2 D (.lst [])) b ∧ b < s3.heap.objs.size := fun b hb => by
    have lt := small b hb
    refine ⟨⟨?_, (f2 b hb).2⟩, by rw [h3, Heap.size_push]; exact Nat.lt_succ_of_lt lt⟩
    rw [upd_ne (by rw [← hD]; exact Nat.ne_of_lt lt)]
    exact (f2 b hb).1
  have I4 := block_start I3 ok hN f3
  have st3 : tn 0 s3.heap := T.keep _ _ _ st2 fun b _ o e => by rw [h3]; exact Heap.get?_push_of_some _ e
  have atC : X.s_0.heap.objs.size ≤ s3.heap.objs.size := by
    obtain ⟨m, hn, _⟩ := I3.loc
    exact Nat.le_trans I3.ok.above (Nat.le_of_lt hn.lt)
  have notFr : s3.heap.objs.size ∉ frs X.stack := fun hb => absurd (frs_below I3 _ hb) (Nat.lt_irrefl _)
  show codeAny _ _ (.compStart (.ListComp elt [⟨tg, iter, ifs, 0⟩] scope pos) 0 (.ref it) (.ref D) (compEnvC scope (cellsFrom (s3.heap.objs.size + 1) scope.names (cloFrom X.env.cells scope.names [])) s3.heap.objs.size X.env)) (compPost (model X.prog X.w) X.A X.xe none (EP X pins σ Q) (.ref D) s3.heap.objs.size) { s3 with heap := pushCells (s3.heap.push { cls := .type "dict", data := .dict #[] }) scope.names }
  have pg := hg s3 (upd H2 D (.lst [])) s3.heap.objs.size (cellsFrom (s3.heap.objs.size + 1) scope.names (cloFrom X.env.cells scope.names [])) fp
  have pt := ht s3 (upd H2 D (.lst [])) s3.heap.objs.size (cellsFrom (s3.heap.objs.size + 1) scope.names (cloFrom X.env.cells scope.names [])) fp
  have pe := he s3 (upd H2 D (.lst [])) s3.heap.objs.size (cellsFrom (s3.heap.objs.size + 1) scope.names (cloFrom X.env.cells scope.names [])) fp
  have nfp : ∀ b ∈ fp, (upd H2 D (.lst [])) b = none := fun b hb => (f3 b hb).1.1
  generalize hce : compEnvC scope (cellsFrom (s3.heap.objs.size + 1) scope.names (cloFrom X.env.cells scope.names [])) s3.heap.objs.size X.env = ce at I4 pg pt pe ⊢
  have cL : ce.locals = s3.heap.objs.size := by subst hce; rfl
  have cF : ce.frame = X.env.frame := by subst hce; rfl
  generalize hH3 : upd H2 D (.lst []) = H3 at I3 I4 pg pt pe w0 nfp f3
  generalize hs4 : ({ s3 with heap := pushCells (s3.heap.push { cls := .type "dict", data := .dict #[] }) scope.names } : Shared) = s4 at I4 ⊢
  have st4 : tn 0 s4.heap := T.keep _ _ _ st3 fun b _ o e => by rw [← hs4]; exact pushCells_keeps _ _ _ _ (Heap.get?_push_of_some _ e)
  -- the block's state is one of the def
  have home : ∀ {pins' : List (Addr × Obj)} {σ' : L2.St} {H' : Hp} {s' : Shared}, Inv (X.blk s3 H3 scope ce fp) pins' σ' H' s' → Inv X pins σ H' s' ∧ H' s3.heap.objs.size = none ∧ ∃ m, s'.heap.Ns s3.heap.objs.size m := fun {pins' σ' H' s'} I6 => by
    refine ⟨I3.call' (ch := fp) I6.os I6.base I6.hok I6.bare fun b hb => ⟨(f3 b hb).1.2.2.2.1, (f3 b hb).1.2.1, (f3 b hb).1.2.2.2.2.1, (f3 b hb).1.2.2.2.2.2⟩, ?_, ?_⟩
    · have z : H' ce.locals = none := I6.free
      rwa [cL] at z
    · obtain ⟨m, hn, _⟩ := I6.loc
      have hn : s'.heap.Ns ce.locals m := hn
      rw [cL] at hn
      exact ⟨m, hn⟩
  have fpOk : ∀ {σ' : L2.St} {H' : Hp} {s' : Shared}, Inv (X.blk s3 H3 scope ce fp) [] σ' H' s' → (∀ b ∈ fp, H' b = none) → ∀ b ∈ fp, FpOk (X.blk s3 H3 scope ce fp) [] H' b := fun {σ' H' s'} I' hn b hb =>
    ⟨hn b hb, (I'.ok.exf b hb).1, I'.ok.exfs b hb, .inl hb, fun x c e => (I'.ok.exf b hb).2 x c e, fun p hp => absurd (show p ∈ ([] : List (Addr × Obj)) ++ [] from hp) (by simp)⟩
  have loop : codeAny (model X.prog X.w) X.A (.compLoop (.ListComp elt [⟨tg, iter, ifs, 0⟩] scope pos) 0 (.ref it) (.ref D) ce) (compPost (model X.prog X.w) X.A X.xe none (EP X pins σ Q) (.ref D) s3.heap.objs.size) s4 := by
    refine compLoop_any (fun n s' => ∃ i H', Inv (X.blk s3 H3 scope ce fp) [] (wipe σ (own.map (·.2))) H' s' ∧ tn i s'.heap ∧ (∀ b ∈ fp, H' b = none) ∧ W i n H') ?_ m0 ⟨0, H3, I4, st4, nfp, w0⟩
    rintro n s5 ⟨i, H5, I5, st5, n5, w5⟩
    rcases turn i n H5 w5 with ⟨stop, qq⟩ | ⟨go, Nx, hNx, step⟩
    · refine thnF (T.done (X.blk s3 H3 scope ce fp) rfl rfl rfl hc i [] s5 _ H5 (fun _ _ => False) I5 (fpOk I5 n5) st5 stop) fun r s6 ⟨hr, I6⟩ => ?_
      subst hr
      obtain ⟨I7, nC, m, hn⟩ := home I6
      obtain ⟨f0, f1, f2', f3', f4, f5⟩ := I3.fpOk (Nat.le_refl _) nC
      exact ⟨m, hn, fun h'' sb => ⟨.ref D, H5, I7.turned (t' := s6.toks) (fun b o hb e => (sb.2 b hb).trans e) f0 f1 f3' f4 f5, rfl, qq⟩⟩
    · refine thnF (T.item (X.blk s3 H3 scope ce fp) rfl rfl rfl hc i [] s5 _ H5 (fun _ _ => False) I5 (fpOk I5 n5) st5 go) fun r s6 ⟨u, hr, h6⟩ => ?_
      subst hr
      refine thnF h6 fun _ s7 ⟨x, H7, I7, r7, y7, st7, n7⟩ => ?_
      refine thnF (pg.run _ s7 _ H7 x u _ (I7.pinned (fpOk I7 n7) (T.obj _ _ st7)) r7 (step x H7 y7)) fun _ s8 ⟨σ8, H8, I8, hw8, q8⟩ => ?_
      refine thnF (pt.run _ s8 σ8 H8 _ I8 q8) fun b s9 ⟨H9, I9, q9⟩ => ?_
      have fin : ∀ {s' : Shared} {H' : Hp}, Inv (X.blk s3 H3 scope ce fp) ([] ++ pinsAt fp s7.heap) σ8 H' s' → Nx H' → ∃ m, m < n ∧ ∃ i H', Inv (X.blk s3 H3 scope ce fp) [] (wipe σ (own.map (·.2))) H' s' ∧ tn i s'.heap ∧ (∀ b ∈ fp, H' b = none) ∧ W i m H' := fun {s' H'} I' nx => by
        obtain ⟨m', hm, w'⟩ := hNx H' nx
        have pin' : ∀ b ∈ fp, ∀ o, s7.heap.get? b = some o → s'.heap.get? b = some o ∧ H' b = none := fun b hb o e =>
          let z := I'.pin (b, o) (List.mem_append_right _ (List.mem_append_right _ (mem_pinsAt hb e)))
          ⟨z.1, z.2.1⟩
        have hl : (wipe σ (own.map (·.2))).length = σ8.length := by rw [← hw8, wipe_length]
        refine ⟨m', hm, i + 1, H', (I'.unpinned (pins := [])).weak hl (fun j v e => ?_), T.keep _ _ _ st7 fun b hb o e => (pin' b hb o e).1, fun b hb => ?_, w'⟩
        · rw [← hw8] at e
          exact (wipe_some e).1
        · obtain ⟨o, e, _⟩ := T.obj _ _ st7 b hb
          exact (pin' b hb o e).2
      cases b with
      | false =>
        simp only [Bool.false_eq_true, if_false] at q9 ⊢
        exact fin I9 q9
      | true =>
        simp only [if_true] at q9 ⊢
        refine wpAny_mono (pe.run _ s9 σ8 H9 _ (inv_xe _ I9) q9) (fun z s10 ⟨yv, H10, I10, r10, acc, hD10, hz10, nx⟩ => ?_) fun u s' ⟨pins', σ', H', sc, I', c⟩ => ?_
        · exact app_ok (X := X.blk s3 H3 scope ce fp) (xe_inv _ I10) hD10 hz10 r10 fun s11 I11 => fin I11 nx
        · obtain ⟨I7', nC, m, hn⟩ := home I'
          exact blk_raises hs0 hf0 hex0 hx0 cF I7' nC atC notFr hn c
  exact codeAny_compStart_list loop (T.self X.A 0 _ _ _ st4 loop)
end
end Ev

namespace Ev
open PySem
def b_is_number : QSs := .cons (.ret [] (.and (.isI (.var 0) .int) (.and (.not (.isI (.var 0) .bool)) (.chain .le .le (.lit (.int 0)) (.var 0) (.var 1))))) (.nil)
def b_is_word : QSs := .cons (.ret [] (.and (.isI (.var 0) .str) (.cmp .isin (.var 0) (.var 1)))) (.nil)
def b_is_form_to : QSs := .cons (.iff [] (.isI (.var 0) .str) (.cons (.ret [] (.cmp .isin (.var 0) (.tup (.cons (.lit (.str (Wd.s .yes))) (.cons (.lit (.str (Wd.s .no))) (.nil)))))) (.nil)) (.nil)) (.cons (.iff [] (.or (.not (.isI (.var 0) .tuple)) (.or (.cmp .lt (.blt .len (.var 0)) (.lit (.int 2))) (.not (.isI (.ix (.var 0) (.lit (.int 0))) .str)))) (.cons (.ret [] (.lit (.bool false))) (.nil)) (.nil)) (.cons (.iff [] (.cmp .isin (.ix (.var 0) (.lit (.int 0))) (.tup (.cons (.lit (.str (Wd.s .a))) (.cons (.lit (.str (Wd.s .b))) (.cons (.lit (.str (Wd.s .to))) (.nil)))))) (.cons (.ret [] (.and (.cmp .eq (.blt .len (.var 0)) (.bin .add (.lit (.int 2)) (.blt .int (.cmp .eq (.ix (.var 0) (.lit (.int 0))) (.lit (.str (Wd.s .to))))))) (.blt .all (.lc [2] (.call 1 (.cons (.var 2) (.cons (.glb 5) (.nil)))) (.nm 2) (.seq (.slc (.var 0) (.lit (.int 1)) (.omit))) (.lit (.bool true)))))) (.nil)) (.nil)) (.cons (.iff [] (.or (.cmp .eq (.var 1) (.lit (.int 0))) (.or (.inG true (.ix (.var 0) (.lit (.int 0))) 4) (.cmp .ne (.blt .len (.var 0)) (.bin .add (.lit (.int 1)) (.pickG 4 (.ix (.var 0) (.lit (.int 0)))))))) (.cons (.ret [] (.lit (.bool false))) (.nil)) (.nil)) (.cons (.ret [] (.blt .all (.lc [2] (.call 2 (.cons (.var 2) (.cons (.bin .sub (.var 1) (.lit (.int 1))) (.nil)))) (.nm 2) (.seq (.slc (.var 0) (.lit (.int 1)) (.omit))) (.lit (.bool true))))) (.nil)))))
def b_is_form : QSs := .cons (.ret [] (.call 2 (.cons (.var 0) (.cons (.glb 0) (.nil))))) (.nil)
def b_is_demand : QSs := .cons (.iff [] (.or (.not (.isI (.var 0) .tuple)) (.cmp .ne (.blt .len (.var 0)) (.lit (.int 3)))) (.cons (.ret [] (.lit (.bool false))) (.nil)) (.nil)) (.cons (.ret [] (.and (.call 1 (.cons (.ix (.var 0) (.lit (.int 0))) (.cons (.glb 6) (.nil)))) (.and (.call 1 (.cons (.ix (.var 0) (.lit (.int 1))) (.cons (.glb 6) (.nil)))) (.call 3 (.cons (.ix (.var 0) (.lit (.int 2))) (.nil)))))) (.nil))
def b_marks_of : QSs := .cons (.ret [] (.lc [1, 2] (.var 1) (.tp [1, 2]) (.enum (.var 0)) (.cmp .eq (.slc (.var 2) (.omit) (.lit (.int 2))) (.tup (.cons (.lit (.str (Wd.s .some))) (.cons (.lit (.str (Wd.s .each))) (.nil))))))) (.nil)
def b_is_row : QSs := .cons (.iff [] (.or (.not (.isI (.var 0) .tuple)) (.or (.cmp .gt (.blt .len (.var 0)) (.glb 1)) (.not (.blt .all (.lc [1] (.call 4 (.cons (.var 1) (.nil))) (.nm 1) (.seq (.var 0)) (.lit (.bool true))))))) (.cons (.ret [] (.lit (.bool false))) (.nil)) (.nil)) (.cons (.ret [] (.cmp .le (.blt .len (.call 5 (.cons (.var 0) (.nil)))) (.glb 2))) (.nil))
def b_law_cell_at : QSs := .cons (.iff [] (.cmp .lt (.var 1) (.blt .len (.var 0))) (.cons (.ret [] (.ix (.var 0) (.var 1))) (.nil)) (.nil)) (.cons (.ret [] (.lit (.int 0))) (.nil))
def b_law_mixed : QSs := .cons (.set [] 2 (.bin .mod (.bin .mul (.bin .add (.bin .add (.call 10 (.cons (.var 0) (.cons (.var 1) (.nil)))) (.bin .mul (.lit (.int 7919)) (.var 1))) (.lit (.int 1))) (.lit (.int 48271))) (.lit (.int 2147483647)))) (.cons (.ret [] (.bin .mod (.bin .add (.bin .add (.bin .mul (.var 2) (.var 2)) (.bin .mul (.lit (.int 7)) (.var 2))) (.var 1)) (.lit (.int 2147483629)))) (.nil))
def b_law_drawn : QSs := .cons (.set [] 2 (.bin .mod (.bin .mul (.bin .add (.bin .add (.var 0) (.bin .mul (.lit (.int 104729)) (.var 1))) (.lit (.int 17))) (.lit (.int 69621))) (.lit (.int 2147483647)))) (.cons (.ret [] (.bin .mod (.bin .add (.bin .add (.bin .mul (.var 2) (.var 2)) (.bin .mul (.lit (.int 3)) (.var 2))) (.var 1)) (.lit (.int 2147483629)))) (.nil))
def b_law_form : QSs := .cons (.set [] 2 (.bin .mod (.var 0) (.lit (.int 10)))) (.cons (.iff [] (.or (.cmp .eq (.var 1) (.lit (.int 0))) (.cmp .lt (.var 2) (.lit (.int 3)))) (.cons (.set [] 3 (.lst (.cons (.tup (.cons (.lit (.str (Wd.s .a))) (.cons (.lit (.str (Wd.s .x))) (.nil)))) (.cons (.tup (.cons (.lit (.str (Wd.s .a))) (.cons (.lit (.str (Wd.s .y))) (.nil)))) (.cons (.tup (.cons (.lit (.str (Wd.s .b))) (.cons (.lit (.str (Wd.s .x))) (.nil)))) (.cons (.tup (.cons (.lit (.str (Wd.s .b))) (.cons (.lit (.str (Wd.s .y))) (.nil)))) (.cons (.tup (.cons (.lit (.str (Wd.s .to))) (.cons (.lit (.str (Wd.s .x))) (.cons (.lit (.str (Wd.s .y))) (.nil))))) (.cons (.tup (.cons (.lit (.str (Wd.s .to))) (.cons (.lit (.str (Wd.s .y))) (.cons (.lit (.str (Wd.s .x))) (.nil))))) (.cons (.tup (.cons (.lit (.str (Wd.s .to))) (.cons (.lit (.str (Wd.s .x))) (.cons (.lit (.str (Wd.s .y))) (.nil))))) (.nil)))))))))) (.cons (.ret [] (.ix (.bin .add (.var 3) (.lst (.cons (.tup (.cons (.lit (.str (Wd.s .to))) (.cons (.lit (.str (Wd.s .x))) (.cons (.lit (.str (Wd.s .x))) (.nil))))) (.cons (.tup (.cons (.lit (.str (Wd.s .to))) (.cons (.lit (.str (Wd.s .y))) (.cons (.lit (.str (Wd.s .y))) (.nil))))) (.cons (.tup (.cons (.lit (.str (Wd.s .to))) (.cons (.lit (.str (Wd.s .y))) (.cons (.lit (.str (Wd.s .x))) (.nil))))) (.cons (.lit (.str (Wd.s .yes))) (.cons (.lit (.str (Wd.s .no))) (.nil)))))))) (.bin .mod (.bin .fdiv (.var 0) (.lit (.int 10))) (.lit (.int 12))))) (.nil))) (.nil)) (.cons (.set [] 4 (.call 13 (.cons (.call 12 (.cons (.var 0) (.cons (.lit (.int 1)) (.nil)))) (.cons (.bin .sub (.var 1) (.lit (.int 1))) (.nil))))) (.cons (.iff [] (.cmp .eq (.var 2) (.lit (.int 3))) (.cons (.ret [] (.tup (.cons (.lit (.str (Wd.s .not))) (.cons (.var 4) (.nil))))) (.nil)) (.nil)) (.cons (.set [] 5 (.call 13 (.cons (.call 12 (.cons (.var 0) (.cons (.lit (.int 2)) (.nil)))) (.cons (.bin .sub (.var 1) (.lit (.int 1))) (.nil))))) (.cons (.iff [] (.and (.cmp .lt (.var 2) (.lit (.int 6))) (.cmp .gt (.var 1) (.lit (.int 1)))) (.cons (.ret [] (.tup (.cons (.lit (.str (Wd.s .either))) (.cons (.tup (.cons (.lit (.str (Wd.s .not))) (.cons (.call 13 (.cons (.call 12 (.cons (.var 0) (.cons (.lit (.int 1)) (.nil)))) (.cons (.bin .sub (.var 1) (.lit (.int 2))) (.nil)))) (.nil)))) (.cons (.var 5) (.nil)))))) (.nil)) (.nil)) (.cons (.ret [] (.tup (.cons (.ix (.tup (.cons (.lit (.str (Wd.s .both))) (.cons (.lit (.str (Wd.s .either))) (.nil)))) (.bin .mod (.var 2) (.lit (.int 2)))) (.cons (.var 4) (.cons (.var 5) (.nil)))))) (.nil)))))))
def b_law_demand : QSs := .cons (.set [] 2 (.ix (.tup (.cons (.lit (.str (Wd.s .each))) (.cons (.lit (.str (Wd.s .each))) (.cons (.lit (.str (Wd.s .each))) (.cons (.lit (.str (Wd.s .some))) (.nil)))))) (.bin .mod (.var 0) (.lit (.int 4))))) (.cons (.set [] 3 (.ix (.tup (.cons (.lit (.str (Wd.s .some))) (.cons (.lit (.str (Wd.s .each))) (.cons (.lit (.str (Wd.s .some))) (.nil))))) (.bin .mod (.bin .fdiv (.var 0) (.lit (.int 4))) (.lit (.int 3))))) (.cons (.ret [] (.tup (.cons (.var 2) (.cons (.var 3) (.cons (.call 13 (.cons (.bin .fdiv (.var 0) (.lit (.int 12))) (.cons (.var 1) (.nil)))) (.nil)))))) (.nil)))
def b_law_row_f0 : QSs := .cons (.set [] 4 (.call 14 (.cons (.call 12 (.cons (.var 0) (.cons (.var 3) (.nil)))) (.cons (.lit (.int 3)) (.nil))))) (.cons (.set [] 5 (.lc [6] (.var 6) (.nm 6) (.seq (.var 2)) (.cmp .eq (.slc (.var 6) (.omit) (.lit (.int 2))) (.tup (.cons (.lit (.str (Wd.s .some))) (.cons (.lit (.str (Wd.s .each))) (.nil))))))) (.cons (.iff [] (.and (.cmp .eq (.slc (.var 4) (.omit) (.lit (.int 2))) (.tup (.cons (.lit (.str (Wd.s .some))) (.cons (.lit (.str (Wd.s .each))) (.nil))))) (.cmp .eq (.blt .len (.var 5)) (.lit (.int 2)))) (.cons (.set [] 4 (.tup (.cons (.lit (.str (Wd.s .each))) (.cons (.lit (.str (Wd.s .some))) (.cons (.ix (.var 4) (.lit (.int 2))) (.nil)))))) (.nil)) (.nil)) (.cons (.set [] 2 (.bin .add (.var 2) (.tup (.cons (.var 4) (.nil))))) (.nil))))
def b_law_row : QSs := .cons (.set [] 2 (.tup (.nil))) (.cons (.for [] (.nm 3) (.rng1 (.bin .mod (.var 0) (.bin .add (.var 1) (.lit (.int 1))))) b_law_row_f0) (.cons (.ret [] (.var 2)) (.nil)))
def b_law_world_f0 : QSs := .cons (.app [] 3 (.blt .tuple (.lc [5] (.var 5) (.nm 5) (.rng1 (.var 2)) (.cmp .eq (.bin .mod (.bin .fdiv (.call 12 (.cons (.var 0) (.cons (.bin .add (.bin .mul (.lit (.int 10)) (.var 4)) (.var 5)) (.nil)))) (.lit (.int 4))) (.lit (.int 2))) (.lit (.int 1)))))) (.nil)
def b_law_world_f1 : QSs := .cons (.iff [] (.cmp .lt (.bin .mod (.bin .fdiv (.call 12 (.cons (.var 0) (.cons (.bin .add (.bin .add (.lit (.int 30)) (.bin .mul (.lit (.int 8)) (.var 8))) (.var 9)) (.nil)))) (.lit (.int 4))) (.lit (.int 5))) (.var 7)) (.cons (.app [] 6 (.tup (.cons (.var 8) (.cons (.var 9) (.nil))))) (.nil)) (.nil)) (.nil)
def b_law_world_f2 : QSs := .cons (.for [] (.nm 9) (.rng1 (.var 2)) b_law_world_f1) (.nil)
def b_law_world : QSs := .cons (.set [] 2 (.bin .add (.lit (.int 1)) (.bin .mod (.var 0) (.var 1)))) (.cons (.setO [] 3 (.lst (.nil))) (.cons (.for [] (.nm 4) (.seq (.tup (.cons (.lit (.int 0)) (.cons (.lit (.int 1)) (.nil))))) b_law_world_f0) (.cons (.setO [] 6 (.lst (.nil))) (.cons (.set [] 7 (.bin .add (.lit (.int 1)) (.bin .mod (.bin .fdiv (.var 0) (.lit (.int 24))) (.lit (.int 4))))) (.cons (.for [] (.nm 8) (.rng1 (.var 2)) b_law_world_f2) (.cons (.ret [] (.tup (.cons (.var 2) (.cons (.ix (.var 3) (.lit (.int 0))) (.cons (.ix (.var 3) (.lit (.int 1))) (.cons (.blt .tuple (.var 6)) (.nil))))))) (.nil)))))))
def b_law_is_form : QSs := .cons (.iff [] (.isI (.var 0) .str) (.cons (.ret [] (.or (.cmp .eq (.var 0) (.lit (.str (Wd.s .yes)))) (.cmp .eq (.var 0) (.lit (.str (Wd.s .no)))))) (.nil)) (.nil)) (.cons (.iff [] (.or (.not (.isI (.var 0) .tuple)) (.or (.cmp .lt (.blt .len (.var 0)) (.lit (.int 2))) (.not (.isI (.ix (.var 0) (.lit (.int 0))) .str)))) (.cons (.ret [] (.lit (.bool false))) (.nil)) (.nil)) (.cons (.iff [] (.cmp .isin (.ix (.var 0) (.lit (.int 0))) (.tup (.cons (.lit (.str (Wd.s .a))) (.cons (.lit (.str (Wd.s .b))) (.cons (.lit (.str (Wd.s .to))) (.nil)))))) (.cons (.iff [] (.cmp .ne (.blt .len (.var 0)) (.pick [(Wd.s .a), (Wd.s .b), (Wd.s .to)] (.cons (.lit (.int 2)) (.cons (.lit (.int 2)) (.cons (.lit (.int 3)) (.nil)))) (.ix (.var 0) (.lit (.int 0))))) (.cons (.ret [] (.lit (.bool false))) (.nil)) (.nil)) (.cons (.ret [] (.cmp .eq (.lc [2] (.var 2) (.nm 2) (.seq (.slc (.var 0) (.lit (.int 1)) (.omit))) (.or (.not (.isI (.var 2) .str)) (.cmp .notin (.var 2) (.tup (.cons (.lit (.str (Wd.s .x))) (.cons (.lit (.str (Wd.s .y))) (.nil))))))) (.lst (.nil)))) (.nil))) (.nil)) (.cons (.iff [] (.or (.cmp .eq (.var 1) (.lit (.int 0))) (.cmp .ne (.blt .len (.var 0)) (.getd [(Wd.s .not), (Wd.s .both), (Wd.s .either)] (.cons (.lit (.int 2)) (.cons (.lit (.int 3)) (.cons (.lit (.int 3)) (.nil)))) (.ix (.var 0) (.lit (.int 0))) (.lit (.int 0))))) (.cons (.ret [] (.lit (.bool false))) (.nil)) (.nil)) (.cons (.ret [] (.cmp .eq (.lc [2] (.var 2) (.nm 2) (.seq (.slc (.var 0) (.lit (.int 1)) (.omit))) (.not (.call 20 (.cons (.var 2) (.cons (.bin .sub (.var 1) (.lit (.int 1))) (.nil)))))) (.lst (.nil)))) (.nil)))))
def b_law_is_row_f0 : QSs := .cons (.iff [] (.or (.not (.isI (.var 3) .str)) (.and (.cmp .ne (.var 3) (.lit (.str (Wd.s .each)))) (.cmp .ne (.var 3) (.lit (.str (Wd.s .some)))))) (.cons (.ret [] (.lit (.bool false))) (.nil)) (.nil)) (.nil)
def b_law_is_row_f1 : QSs := .cons (.iff [] (.or (.not (.isI (.var 2) .tuple)) (.or (.cmp .ne (.blt .len (.var 2)) (.lit (.int 3))) (.not (.call 20 (.cons (.ix (.var 2) (.lit (.int 2))) (.cons (.lit (.int 5)) (.nil))))))) (.cons (.ret [] (.lit (.bool false))) (.nil)) (.nil)) (.cons (.for [] (.nm 3) (.seq (.slc (.var 2) (.omit) (.lit (.int 2)))) b_law_is_row_f0) (.cons (.set [] 1 (.bin .add (.var 1) (.blt .int (.and (.cmp .eq (.ix (.var 2) (.lit (.int 0))) (.lit (.str (Wd.s .some)))) (.cmp .eq (.ix (.var 2) (.lit (.int 1))) (.lit (.str (Wd.s .each)))))))) (.nil)))
def b_law_is_row : QSs := .cons (.iff [] (.or (.not (.isI (.var 0) .tuple)) (.cmp .gt (.blt .len (.var 0)) (.lit (.int 4)))) (.cons (.ret [] (.lit (.bool false))) (.nil)) (.nil)) (.cons (.set [] 1 (.lit (.int 0))) (.cons (.for [] (.nm 2) (.seq (.var 0)) b_law_is_row_f1) (.cons (.ret [] (.cmp .le (.var 1) (.lit (.int 2)))) (.nil))))
def b_words_of_f0 : QSs := .cons (.ext [] 1 (.call 25 (.cons (.var 2) (.nil)))) (.nil)
def b_words_of : QSs := .cons (.iff [] (.isI (.var 0) .str) (.cons (.ret [] (.lst (.cons (.var 0) (.nil)))) (.nil)) (.nil)) (.cons (.iff [] (.cmp .eq (.ix (.var 0) (.lit (.int 0))) (.lit (.str (Wd.s .to)))) (.cons (.ret [] (.lst (.cons (.bin .add (.ix (.var 0) (.lit (.int 1))) (.ix (.var 0) (.lit (.int 2)))) (.nil)))) (.nil)) (.nil)) (.cons (.iff [] (.cmp .isin (.ix (.var 0) (.lit (.int 0))) (.tup (.cons (.lit (.str (Wd.s .a))) (.cons (.lit (.str (Wd.s .b))) (.nil))))) (.cons (.ret [] (.lst (.cons (.bin .add (.ix (.var 0) (.lit (.int 0))) (.ix (.var 0) (.lit (.int 1)))) (.nil)))) (.nil)) (.nil)) (.cons (.setO [] 1 (.lst (.cons (.ix (.var 0) (.lit (.int 0))) (.nil)))) (.cons (.for [] (.nm 2) (.seq (.slc (.var 0) (.lit (.int 1)) (.omit))) b_words_of_f0) (.cons (.ret [1] (.var 1)) (.nil))))))
def b_written : QSs := .cons (.iff [] (.cmp .eq (.var 0) (.tup (.nil))) (.cons (.ret [] (.lit (.str (Wd.s .dash)))) (.nil)) (.nil)) (.cons (.ret [] (.join (.lit (.str (Wd.s .semi))) (.lc [1, 2, 3] (.join (.lit (.str (Wd.s .blank))) (.bin .add (.lst (.cons (.var 1) (.cons (.var 2) (.nil)))) (.call 25 (.cons (.var 3) (.nil))))) (.tp [1, 2, 3]) (.seq (.var 0)) (.lit (.bool true))))) (.nil))
def b_law_words : QSs := .cons (.iff [] (.isI (.var 0) .str) (.cons (.ret [] (.var 0)) (.nil)) (.nil)) (.cons (.iff [] (.cmp .eq (.ix (.var 0) (.lit (.int 0))) (.lit (.str (Wd.s .to)))) (.cons (.ret [] (.bin .add (.ix (.var 0) (.lit (.int 1))) (.ix (.var 0) (.lit (.int 2))))) (.nil)) (.nil)) (.cons (.iff [] (.cmp .isin (.ix (.var 0) (.lit (.int 0))) (.tup (.cons (.lit (.str (Wd.s .a))) (.cons (.lit (.str (Wd.s .b))) (.nil))))) (.cons (.ret [] (.bin .add (.ix (.var 0) (.lit (.int 0))) (.ix (.var 0) (.lit (.int 1))))) (.nil)) (.nil)) (.cons (.ret [] (.join (.lit (.str (Wd.s .blank))) (.bin .add (.lst (.cons (.ix (.var 0) (.lit (.int 0))) (.nil))) (.lc [1] (.call 27 (.cons (.var 1) (.nil))) (.nm 1) (.seq (.slc (.var 0) (.lit (.int 1)) (.omit))) (.lit (.bool true)))))) (.nil))))
def b_law_text : QSs := .cons (.iff [] (.cmp .eq (.var 0) (.tup (.nil))) (.cons (.ret [] (.lit (.str (Wd.s .dash)))) (.nil)) (.nil)) (.cons (.ret [] (.join (.lit (.str (Wd.s .semi))) (.lc [1, 2, 3] (.bin .add (.bin .add (.bin .add (.bin .add (.var 1) (.lit (.str (Wd.s .blank)))) (.var 2)) (.lit (.str (Wd.s .blank)))) (.call 27 (.cons (.var 3) (.nil)))) (.tp [1, 2, 3]) (.seq (.var 0)) (.lit (.bool true))))) (.nil))
def b_law_changed_k03 : QSs := .cons (.set [] 2 (.bin .mod (.bin .fdiv (.var 1) (.lit (.int 16))) (.bin .add (.blt .len (.var 0)) (.lit (.int 1))))) (.cons (.set [] 3 (.ix (.lit (.str " abxy;-eno0~")) (.bin .mod (.bin .fdiv (.var 1) (.lit (.int 400))) (.lit (.int 12))))) (.cons (.iff [] (.cmp .eq (.bin .mod (.var 1) (.lit (.int 8))) (.lit (.int 0))) (.cons (.ret [] (.bin .add (.bin .add (.slc (.var 0) (.omit) (.var 2)) (.var 3)) (.slc (.var 0) (.var 2) (.omit)))) (.nil)) (.nil)) (.cons (.iff [] (.cmp .eq (.bin .mod (.var 1) (.lit (.int 8))) (.lit (.int 3))) (.cons (.ret [] (.bin .add (.slc (.var 0) (.omit) (.var 2)) (.slc (.var 0) (.bin .add (.var 2) (.lit (.int 1))) (.omit)))) (.nil)) (.nil)) (.cons (.iff [] (.cmp .lt (.bin .mod (.var 1) (.lit (.int 8))) (.lit (.int 3))) (.cons (.ret [] (.bin .add (.bin .add (.slc (.var 0) (.omit) (.var 2)) (.var 3)) (.slc (.var 0) (.bin .add (.var 2) (.lit (.int 1))) (.omit)))) (.nil)) (.nil)) (.cons (.setO [] 4 (.split (.var 0) (.lit (.str (Wd.s .blank))))) (.cons (.set [] 2 (.bin .mod (.bin .fdiv (.var 1) (.lit (.int 16))) (.blt .len (.var 4)))) (.cons (.iff [] (.cmp .eq (.bin .mod (.var 1) (.lit (.int 8))) (.lit (.int 4))) (.cons (.set [] 4 (.bin .add (.slc (.var 4) (.omit) (.var 2)) (.slc (.var 4) (.bin .add (.var 2) (.lit (.int 1))) (.omit)))) (.nil)) (.nil)) (.cons (.iff [] (.cmp .eq (.bin .mod (.var 1) (.lit (.int 8))) (.lit (.int 5))) (.cons (.set [] 4 (.bin .add (.bin .add (.slc (.var 4) (.omit) (.var 2)) (.slc (.var 4) (.var 2) (.bin .add (.var 2) (.lit (.int 1))))) (.slc (.var 4) (.var 2) (.omit)))) (.nil)) (.nil)) (.cons (.iff [] (.cmp .eq (.bin .mod (.var 1) (.lit (.int 8))) (.lit (.int 6))) (.cons (.set [] 4 (.bin .add (.bin .add (.slc (.var 4) (.omit) (.var 2)) (.rev (.slc (.var 4) (.var 2) (.bin .add (.var 2) (.lit (.int 2)))))) (.slc (.var 4) (.bin .add (.var 2) (.lit (.int 2))) (.omit)))) (.nil)) (.nil)) (.cons (.iff [] (.cmp .eq (.bin .mod (.var 1) (.lit (.int 8))) (.lit (.int 7))) (.cons (.set [] 5 (.lst (.cons (.lit (.str (Wd.s .each))) (.cons (.lit (.str (Wd.s .some))) (.cons (.lit (.str (Wd.s .sem))) (.cons (.lit (.str (Wd.s .dash))) (.cons (.lit (.str (Wd.s .yes))) (.cons (.lit (.str (Wd.s .no))) (.cons (.lit (.str (Wd.s .not))) (.cons (.lit (.str (Wd.s .both))) (.cons (.lit (.str (Wd.s .either))) (.cons (.lit (.str "ax")) (.cons (.lit (.str "by")) (.cons (.lit (.str "xy")) (.cons (.lit (.str "yy")) (.cons (.lit (.str "za")) (.cons (.lit (.str (Wd.s .a))) (.cons (.lit (.str (Wd.s .nil))) (.nil))))))))))))))))))) (.cons (.putI [] 4 (.var 2) (.ix (.var 5) (.bin .mod (.bin .fdiv (.var 1) (.lit (.int 400))) (.lit (.int 16))))) (.nil))) (.nil)) (.cons (.ret [] (.join (.lit (.str (Wd.s .blank))) (.var 4))) (.nil))))))))))))
def b_law_form_in_f0 : QSs := .cons (.setT [] [6, 1] (.call 31 (.cons (.var 0) (.cons (.var 1) (.cons (.bin .sub (.var 2) (.lit (.int 1))) (.nil)))))) (.cons (.iff [] (.isN false (.var 6)) (.cons (.ret [] (.tup (.cons (.lit .none) (.cons (.var 1) (.nil))))) (.nil)) (.nil)) (.cons (.set [] 4 (.bin .add (.var 4) (.tup (.cons (.var 6) (.nil))))) (.nil)))
def b_law_form_in : QSs := .cons (.iff [] (.or (.cmp .ge (.var 1) (.blt .len (.var 0))) (.cmp .lt (.var 2) (.lit (.int 0)))) (.cons (.ret [] (.tup (.cons (.lit .none) (.cons (.var 1) (.nil))))) (.nil)) (.nil)) (.cons (.set [] 3 (.ix (.var 0) (.var 1))) (.cons (.iff [] (.cmp .isin (.var 3) (.tup (.cons (.lit (.str (Wd.s .yes))) (.cons (.lit (.str (Wd.s .no))) (.nil))))) (.cons (.ret [] (.tup (.cons (.var 3) (.cons (.bin .add (.var 1) (.lit (.int 1))) (.nil))))) (.nil)) (.nil)) (.cons (.iff [] (.cmp .isin (.var 3) (.tup (.cons (.lit (.str "xx")) (.cons (.lit (.str "xy")) (.cons (.lit (.str "yx")) (.cons (.lit (.str "yy")) (.nil))))))) (.cons (.ret [] (.tup (.cons (.tup (.cons (.lit (.str (Wd.s .to))) (.cons (.ix (.var 3) (.lit (.int 0))) (.cons (.ix (.var 3) (.lit (.int 1))) (.nil))))) (.cons (.bin .add (.var 1) (.lit (.int 1))) (.nil))))) (.nil)) (.nil)) (.cons (.iff [] (.cmp .isin (.var 3) (.tup (.cons (.lit (.str "ax")) (.cons (.lit (.str "ay")) (.cons (.lit (.str "bx")) (.cons (.lit (.str "by")) (.nil))))))) (.cons (.ret [] (.tup (.cons (.tup (.cons (.ix (.var 3) (.lit (.int 0))) (.cons (.ix (.var 3) (.lit (.int 1))) (.nil)))) (.cons (.bin .add (.var 1) (.lit (.int 1))) (.nil))))) (.nil)) (.nil)) (.cons (.iff [] (.cmp .notin (.var 3) (.tup (.cons (.lit (.str (Wd.s .not))) (.cons (.lit (.str (Wd.s .both))) (.cons (.lit (.str (Wd.s .either))) (.nil)))))) (.cons (.ret [] (.tup (.cons (.lit .none) (.cons (.var 1) (.nil))))) (.nil)) (.nil)) (.cons (.set [] 4 (.tup (.cons (.var 3) (.nil)))) (.cons (.set [] 1 (.bin .add (.var 1) (.lit (.int 1)))) (.cons (.for [] (.nm 5) (.rng1 (.bin .add (.lit (.int 1)) (.blt .int (.cmp .ne (.var 3) (.lit (.str (Wd.s .not))))))) b_law_form_in_f0) (.cons (.ret [] (.tup (.cons (.var 4) (.cons (.var 1) (.nil))))) (.nil))))))))))
def b_law_due_f0 : QSs := .cons (.set [] 4 (.split (.var 3) (.lit (.str (Wd.s .blank))))) (.cons (.setT [] [5, 6] (.call 31 (.cons (.var 4) (.cons (.lit (.int 2)) (.cons (.lit (.int 5)) (.nil)))))) (.cons (.iff [] (.or (.isN false (.var 5)) (.or (.cmp .ne (.var 6) (.blt .len (.var 4))) (.or (.cmp .notin (.ix (.var 4) (.lit (.int 0))) (.tup (.cons (.lit (.str (Wd.s .each))) (.cons (.lit (.str (Wd.s .some))) (.nil))))) (.cmp .notin (.ix (.var 4) (.lit (.int 1))) (.tup (.cons (.lit (.str (Wd.s .each))) (.cons (.lit (.str (Wd.s .some))) (.nil)))))))) (.cons (.ret [] (.lit .none)) (.nil)) (.nil)) (.cons (.set [] 1 (.bin .add (.var 1) (.tup (.cons (.tup (.cons (.ix (.var 4) (.lit (.int 0))) (.cons (.ix (.var 4) (.lit (.int 1))) (.cons (.var 5) (.nil))))) (.nil))))) (.cons (.set [] 2 (.bin .add (.var 2) (.blt .int (.and (.cmp .eq (.ix (.var 4) (.lit (.int 0))) (.lit (.str (Wd.s .some)))) (.cmp .eq (.ix (.var 4) (.lit (.int 1))) (.lit (.str (Wd.s .each)))))))) (.nil)))))
def b_law_due : QSs := .cons (.iff [] (.cmp .eq (.var 0) (.lit (.str (Wd.s .dash)))) (.cons (.ret [] (.tup (.nil))) (.nil)) (.nil)) (.cons (.set [] 1 (.tup (.nil))) (.cons (.set [] 2 (.lit (.int 0))) (.cons (.for [] (.nm 3) (.seq (.split (.var 0) (.lit (.str (Wd.s .semi))))) b_law_due_f0) (.cons (.iff [] (.or (.cmp .gt (.blt .len (.var 1)) (.lit (.int 4))) (.cmp .gt (.var 2) (.lit (.int 2)))) (.cons (.ret [] (.lit .none)) (.nil)) (.nil)) (.cons (.ret [] (.var 1)) (.nil))))))
def b_law_told : QSs := .cons (.ret [] (.call 999 (.cons (.var 0) (.nil)))) (.nil)
def b_law_k03_f0 : QSs := .cons (.set [] 5 (.tup (.cons (.lit (.str (Wd.s .not))) (.cons (.var 5) (.nil))))) (.nil)
def b_law_k03_f1 : QSs := .cons (.set [] 3 (.call 30 (.cons (.var 3) (.cons (.call 12 (.cons (.var 2) (.cons (.var 6) (.nil)))) (.nil))))) (.nil)
def b_law_k03 : QSs := .cons (.set [] 1 (.call 15 (.cons (.call 11 (.cons (.var 0) (.cons (.lit (.int 0)) (.nil)))) (.cons (.lit (.int 4)) (.nil))))) (.cons (.set [] 2 (.call 11 (.cons (.var 0) (.cons (.lit (.int 1)) (.nil))))) (.cons (.set [] 3 (.call 28 (.cons (.var 1) (.nil)))) (.cons (.iff [] (.cmp .ne (.call 33 (.cons (.var 3) (.nil))) (.var 1)) (.cons (.ret [] (.lit (.bool false))) (.nil)) (.nil)) (.cons (.iff [] (.cmp .eq (.bin .mod (.var 2) (.lit (.int 9))) (.lit (.int 1))) (.cons (.set [] 4 (.bin .mod (.bin .fdiv (.var 2) (.lit (.int 9))) (.lit (.int 151)))) (.cons (.set [] 3 (.bin .add (.bin .add (.lit (.str "each some ")) (.bin .mul (.lit (.str "not ")) (.var 4))) (.lit (.str "xy")))) (.cons (.set [] 5 (.tup (.cons (.lit (.str (Wd.s .to))) (.cons (.lit (.str (Wd.s .x))) (.cons (.lit (.str (Wd.s .y))) (.nil)))))) (.cons (.for [] (.nm 6) (.rng1 (.var 4)) b_law_k03_f0) (.cons (.iff [] (.cmp .ne (.call 33 (.cons (.var 3) (.nil))) (.ix (.lst (.cons (.lit .none) (.cons (.tup (.cons (.tup (.cons (.lit (.str (Wd.s .each))) (.cons (.lit (.str (Wd.s .some))) (.cons (.var 5) (.nil))))) (.nil))) (.nil)))) (.blt .int (.cmp .le (.var 4) (.lit (.int 5)))))) (.cons (.ret [] (.lit (.bool false))) (.nil)) (.nil)) (.nil)))))) (.nil)) (.cons (.for [] (.nm 6) (.rng1 (.ix (.tup (.cons (.lit (.int 0)) (.cons (.lit (.int 1)) (.cons (.lit (.int 2)) (.cons (.lit (.int 4)) (.cons (.lit (.int 0)) (.cons (.lit (.int 1)) (.nil)))))))) (.bin .mod (.bin .fdiv (.var 2) (.lit (.int 9))) (.lit (.int 6))))) b_law_k03_f1) (.cons (.set [] 7 (.call 33 (.cons (.var 3) (.nil)))) (.cons (.iff [] (.or (.cmp .ne (.var 7) (.call 32 (.cons (.var 3) (.nil)))) (.and (.isN true (.var 7)) (.isTr true (.call 6 (.cons (.var 7) (.nil)))))) (.cons (.ret [] (.lit (.bool false))) (.nil)) (.nil)) (.cons (.set [] 2 (.call 11 (.cons (.var 0) (.cons (.lit (.int 2)) (.nil))))) (.cons (.set [] 3 (.call 28 (.cons (.blt .tuple (.lc [6] (.call 14 (.cons (.call 12 (.cons (.var 2) (.cons (.var 6) (.nil)))) (.cons (.lit (.int 2)) (.nil)))) (.nm 6) (.rng1 (.bin .mod (.var 2) (.lit (.int 7)))) (.lit (.bool true)))) (.nil)))) (.cons (.ret [] (.cmp .eq (.call 33 (.cons (.var 3) (.nil))) (.call 32 (.cons (.var 3) (.nil))))) (.nil)))))))))))
end Ev
/-! PuA: what the small language computes, first steps; the laws' draws, forms, rows. -/
namespace Ev
open PySem

/-! ### draws -/
def mixF (c k : Int) : Int := let h := (c + 7919 * k + 1) * 48271 % 2147483647; (h * h + 7 * h + k) % 2147483629
def drawF (m k : Int) : Int := let h := (m + 104729 * k + 17) * 69621 % 2147483647; (h * h + 3 * h + k) % 2147483629
theorem drawF_nn (m k : Int) : 0 ≤ drawF m k := by unfold drawF; exact Int.emod_nonneg _ (by decide)
theorem mixF_nn (m k : Int) : 0 ≤ mixF m k := by unfold mixF; exact Int.emod_nonneg _ (by decide)
structure Draws (T : Tab) : Prop where
  cell : Has T 10 2 2 b_law_cell_at
  mixed : Has T 11 2 3 b_law_mixed
  drawn : Has T 12 2 3 b_law_drawn
section
variable {T : Tab}
theorem rng_mod (a : Int) : rng (a % 2147483647) = true := by
  have h1 := Int.emod_nonneg a (show (2147483647 : Int) ≠ 0 by decide)
  have h2 := Int.emod_lt_of_pos a (show (0 : Int) < 2147483647 by decide)
  rw [rng_iff]
  omega
theorem run_drawn (D : Draws T) (n : Nat) (m k : Int) : T.run (n + 1) 12 [.int m, .int k] = some (.int (drawF m k)) := by
  rw [run_succ D.drawn n _ rfl]
  have e1 : rng 104729 = true := by decide
  have e2 : rng 69621 = true := by decide
  have e3 : rng 3 = true := by decide
  simp [b_law_drawn, startR, bop_modP, e1, e2, e3, rng_mod, drawF]
theorem run_cell (D : Draws T) (n : Nat) (ns : List Int) (k : Int) (h0 : 0 ≤ k) : ∃ c, T.run (n + 1) 10 [.list (ns.map .int), .int k] = some (.int c) := by
  rw [run_succ D.cell n _ rfl]
  by_cases h : k < ns.length
  · obtain ⟨x, hx, e⟩ := atI_nn (xs := ns.map PyData.int) h0 (by simpa using h)
    obtain ⟨c, _, rfl⟩ := List.mem_map.mp hx
    refine ⟨c, ?_⟩
    simp [b_law_cell_at, startR, h, e]
  · refine ⟨0, ?_⟩
    simp [b_law_cell_at, startR, h]
theorem run_mixed (D : Draws T) (n : Nat) (ns : List Int) (k : Int) (h0 : 0 ≤ k) : ∃ m, 0 ≤ m ∧ T.run (n + 2) 11 [.list (ns.map .int), .int k] = some (.int m) := by
  obtain ⟨c, hc⟩ := run_cell D n ns k h0
  refine ⟨mixF c k, mixF_nn _ _, ?_⟩
  rw [run_succ D.mixed (n + 1) _ rfl]
  have e1 : rng 7919 = true := by decide
  have e2 : rng 48271 = true := by decide
  have e3 : rng 7 = true := by decide
  simp [b_law_mixed, startR, bop_modP, e1, e2, e3, rng_mod, mixF, hc]
end

/-! ### forms, demands, rows -/
/-- names: false for x, true for y -/
inductive Form where
  | yes | no
  | a (x : Bool) | b (x : Bool)
  | to (x y : Bool)
  | not (f : Form)
  | both (f g : Form) | either (f g : Form)
  deriving DecidableEq
def nm : Bool → Wd
  | false => .x
  | true => .y
def wS (w : Wd) : PyData := .str w.s
def Form.enc : Form → PyData
  | .yes => wS .yes
  | .no => wS .no
  | .a x => .tuple [wS .a, wS (nm x)]
  | .b x => .tuple [wS .b, wS (nm x)]
  | .to x y => .tuple [wS .to, wS (nm x), wS (nm y)]
  | .not f => .tuple [wS .not, f.enc]
  | .both f g => .tuple [wS .both, f.enc, g.enc]
  | .either f g => .tuple [wS .either, f.enc, g.enc]
def Form.deep : Form → Nat
  | .not f => f.deep + 1
  | .both f g => max f.deep g.deep + 1
  | .either f g => max f.deep g.deep + 1
  | _ => 0
theorem Form.enc_depth : ∀ f : Form, f.enc.depth ≤ f.deep + 1
  | .yes => by simp [enc, wS, PyData.depth]
  | .no => by simp [enc, wS, PyData.depth]
  | .a x => by simp [enc, wS, PyData.depth, PyData.depthAll]
  | .b x => by simp [enc, wS, PyData.depth, PyData.depthAll]
  | .to x y => by simp [enc, wS, PyData.depth, PyData.depthAll]
  | .not f => by have := enc_depth f; simp [enc, wS, PyData.depth, PyData.depthAll, deep]; omega
  | .both f g => by have := enc_depth f; have := enc_depth g; simp [enc, wS, PyData.depth, PyData.depthAll, deep]; omega
  | .either f g => by have := enc_depth f; have := enc_depth g; simp [enc, wS, PyData.depth, PyData.depthAll, deep]; omega
/-- each: false, some: true -/
def qw : Bool → Wd
  | false => .each
  | true => .some
structure Dem where
  one : Bool
  other : Bool
  form : Form
  deriving DecidableEq
@[simp] theorem qw_f : qw false = .each := rfl
@[simp] theorem qw_t : qw true = .some := rfl
def Dem.enc (d : Dem) : PyData := .tuple [wS (qw d.one), wS (qw d.other), d.form.enc]
def encR (r : List Dem) : PyData := .tuple (r.map Dem.enc)
theorem depthAll_le {n : Nat} : ∀ {l : List PyData}, (∀ d ∈ l, d.depth ≤ n) → PyData.depthAll l ≤ n
  | [], _ => by simp [PyData.depthAll]
  | d :: r, h => by
    have h1 := h d (by simp)
    have h2 := depthAll_le fun e he => h e (List.mem_cons_of_mem _ he)
    simp [PyData.depthAll]
    omega
/-- a mark begins with some and then each -/
def Dem.mark (d : Dem) : Bool := d.one && !d.other

structure Rows (T : Tab) : Prop extends Draws T where
  form : Has T 13 2 6 b_law_form
  demand : Has T 14 2 4 b_law_demand
  row : Has T 15 2 7 b_law_row
section
variable {T : Tab}
def leaf12 : List Form := [.a false, .a true, .b false, .b true, .to false true, .to true false, .to false true, .to false false, .to true true, .to true false, .yes, .no]
theorem run_formK (R : Rows T) : ∀ (k : Nat) (n : Nat) (m K : Int), 0 ≤ m → K = (k : Int) → ∃ f : Form, f.deep ≤ k ∧ T.run (n + k + 2) 13 [.int m, .int K] = some f.enc := by
  intro k
  induction k using Nat.strongRecOn with
  | ind k ih =>
    intro n m K hm hK
    have q0 : 0 ≤ m % 10 := Int.emod_nonneg _ (by decide)
    by_cases h1 : K = 0 ∨ m % 10 < 3
    · have h2 : 0 ≤ m / 10 % 12 := Int.emod_nonneg _ (by decide)
      have h3 : m / 10 % 12 < 12 := Int.emod_lt_of_pos _ (by decide)
      obtain ⟨x, hx, e⟩ := atI_nn (xs := leaf12.map Form.enc) h2 (by simpa [leaf12] using h3)
      obtain ⟨f, hf, rfl⟩ := List.mem_map.mp hx
      have hd : f.deep = 0 := by
        have : ∀ g ∈ leaf12, g.deep = 0 := by decide
        exact this f hf
      refine ⟨f, by omega, ?_⟩
      simp only [leaf12, List.map_cons, List.map_nil, Form.enc, wS, nm] at e
      rw [run_succ R.form (n + k + 1) _ rfl]
      rcases h1 with h | h
      · simp [b_law_form, startR, bop_modP, bop_fdiv_ii, PyData.eqv, h, catOk_of, e]
      · by_cases h' : K = 0
        · simp [b_law_form, startR, bop_modP, bop_fdiv_ii, PyData.eqv, h', catOk_of, e]
        · have h'' : (K == 0) = false := by simpa using h'
          simp [b_law_form, startR, bop_modP, bop_fdiv_ii, PyData.eqv, h'', h, catOk_of, e]
    · have hk0 : ¬ K = 0 := fun h => h1 (.inl h)
      have hm3 : ¬ m % 10 < 3 := fun h => h1 (.inr h)
      obtain ⟨j, rfl⟩ : ∃ j, k = j + 1 := ⟨k - 1, by omega⟩
      have ez : (K == 0) = false := by simpa using hk0
      obtain ⟨f1, d1, r1⟩ := ih j (by omega) n (drawF m 1) (K - 1) (drawF_nn _ _) (by omega)
      obtain ⟨f2, d2, r2⟩ := ih j (by omega) n (drawF m 2) (K - 1) (drawF_nn _ _) (by omega)
      have w1 := run_drawn R.toDraws (n + j + 1) m 1
      have w2 := run_drawn R.toDraws (n + j + 1) m 2
      rw [show n + (j + 1) + 2 = (n + j + 2) + 1 by omega, run_succ R.form (n + j + 2) _ rfl]
      by_cases h3 : m % 10 = 3
      · exact ⟨.not f1, by simp [Form.deep]; omega, by
          simp [b_law_form, startR, bop_modP, bop_fdiv_ii, PyData.eqv, ez, h3, w1, r1, Form.enc, wS]⟩
      · have h3' : (m % 10 == 3) = false := by simpa using h3
        by_cases h6 : m % 10 < 6 ∧ 1 < K
        · obtain ⟨i, rfl⟩ : ∃ i, j = i + 1 := ⟨j - 1, by omega⟩
          obtain ⟨f3, d3, r3⟩ := ih i (by omega) (n + 1) (drawF m 1) (K - 2) (drawF_nn _ _) (by omega)
          rw [show n + 1 + i + 2 = n + (i + 1) + 2 by omega] at r3
          exact ⟨.either (.not f3) f2, by simp [Form.deep]; omega, by
            simp [b_law_form, startR, bop_modP, bop_fdiv_ii, PyData.eqv, ez, hm3, h3', h6.1, h6.2, w1, w2, r1, r2, r3, Form.enc, wS]⟩
        · have q2 : m % 10 % 2 = 0 ∨ m % 10 % 2 = 1 := by omega
          have fin : ∀ b : Bool, b = true ∨ b = false := by intro b; cases b <;> simp
          rcases q2 with q2 | q2
          · refine ⟨.both f1 f2, by simp [Form.deep]; omega, ?_⟩
            by_cases h7 : m % 10 < 6
            · have h8 : ¬ 1 < K := fun h => h6 ⟨h7, h⟩
              simp [b_law_form, startR, bop_modP, bop_fdiv_ii, PyData.eqv, ez, hm3, h3', h7, h8, w1, w2, r1, r2, Form.enc, wS, q2]
            · simp [b_law_form, startR, bop_modP, bop_fdiv_ii, PyData.eqv, ez, hm3, h3', h7, w1, w2, r1, r2, Form.enc, wS, q2]
          · refine ⟨.either f1 f2, by simp [Form.deep]; omega, ?_⟩
            by_cases h7 : m % 10 < 6
            · have h8 : ¬ 1 < K := fun h => h6 ⟨h7, h⟩
              simp [b_law_form, startR, bop_modP, bop_fdiv_ii, PyData.eqv, ez, hm3, h3', h7, h8, w1, w2, r1, r2, Form.enc, wS, q2]
            · simp [b_law_form, startR, bop_modP, bop_fdiv_ii, PyData.eqv, ez, hm3, h3', h7, w1, w2, r1, r2, Form.enc, wS, q2]
theorem run_form (R : Rows T) (k n : Nat) (m : Int) (hm : 0 ≤ m) : ∃ f : Form, f.deep ≤ k ∧ T.run (n + k + 2) 13 [.int m, .int (k : Int)] = some f.enc := run_formK R k n m k hm rfl
theorem atI_of_lt {α β : Type} (g : β → α) {xs : List β} {i : Int} (h0 : 0 ≤ i) (h1 : i < xs.length) : ∃ x, x ∈ xs ∧ L2.atI (xs.map g) i = some (g x) := by
  obtain ⟨y, hy, e⟩ := atI_nn (xs := xs.map g) h0 (by simpa using h1)
  obtain ⟨x, hx, rfl⟩ := List.mem_map.mp hy
  exact ⟨x, hx, e⟩
theorem run_demand (R : Rows T) (k n : Nat) (m : Int) (hm : 0 ≤ m) : ∃ d : Dem, d.form.deep ≤ k ∧ T.run (n + k + 3) 14 [.int m, .int (k : Int)] = some d.enc := by
  obtain ⟨f, hf, rf⟩ := run_form R k n (m / 12) (Int.ediv_nonneg hm (by decide))
  obtain ⟨a, _, ea⟩ := atI_of_lt (fun b => PyData.str (qw b).s) (xs := [false, false, false, true]) (i := m % 4) (Int.emod_nonneg _ (by decide)) (Int.emod_lt_of_pos _ (by decide))
  obtain ⟨b, _, eb⟩ := atI_of_lt (fun b => PyData.str (qw b).s) (xs := [true, false, true]) (i := m / 4 % 3) (Int.emod_nonneg _ (by decide)) (Int.emod_lt_of_pos _ (by decide))
  simp only [List.map_cons, List.map_nil, qw] at ea eb
  refine ⟨⟨a, b, f⟩, hf, ?_⟩
  rw [run_succ R.demand (n + k + 2) _ rfl]
  cases a <;> cases b <;> simp only [qw] at ea eb <;> simp [b_law_demand, startR, bop_modP, bop_fdiv_ii, ea, eb, rf, Dem.enc, wS, qw]

/-! ### rows -/
def mkD : Dem := ⟨true, false, .yes⟩
structure GoodRow (most : Nat) (r : List Dem) : Prop where
  len : r.length ≤ most
  deep : ∀ d ∈ r, d.form.deep ≤ 3
  marks : (r.filter Dem.mark).length ≤ 2
def headD : PyData → PyData
  | .tuple ds => .tuple (ds.take 2)
  | d => d
theorem Dem.enc_head (d : Dem) : PyData.eqv (.tuple [wS (qw d.one), wS (qw d.other)]) (.tuple [wS .some, wS .each]) = d.mark := by
  cases d with | mk a b f => cases a <;> cases b <;> simp [eqv_tt, wS, Dem.mark]
theorem filt_marks (r : List Dem) : ((r.map Dem.enc).filter fun d => PyData.eqv (headD d) (.tuple [wS .some, wS .each])) = (r.filter Dem.mark).map Dem.enc := by
  rw [List.filter_map]
  congr 1
  apply List.filter_congr
  intro d _
  exact Dem.enc_head d
theorem depth_se : (PyData.tuple [wS .some, wS .each]).depth ≤ 64 := by simp [PyData.depth, PyData.depthAll, wS]
theorem copD_se (d : PyData) : copD .eq d (.tuple [.str (Wd.s .some), .str (Wd.s .each)]) = some (.bool (PyData.eqv d (.tuple [wS .some, wS .each]))) := copD_eq (eqOk_le (.inr depth_se))
theorem row_loop (R : Rows T) (n : Nat) (N M : Int) : ∀ (ks : List Int) (r : List Dem) (c : Nat) (s3 s4 s5 s6 : Sl), c + ks.length ≤ 60 → GoodRow c r →
    ∃ r' s3' s4' s5' s6', GoodRow (c + ks.length) r' ∧ loopD T.G (T.run (n + 6)) (.nm 3) b_law_row_f0 [.val (.int N), .val (.int M), .val (encR r), s3, s4, s5, s6] (ks.map .int) = some (.nx [.val (.int N), .val (.int M), .val (encR r'), s3', s4', s5', s6'])
  | [], r, c, s3, s4, s5, s6, hc, g => ⟨r, s3, s4, s5, s6, g, by simp [loopD_nil]⟩
  | k :: ks, r, c, s3, s4, s5, s6, hc, g => by
    obtain ⟨d, hd, rd⟩ := run_demand R 3 n (drawF N k) (drawF_nn _ _)
    have rd : T.run (n + 6) 14 [.int (drawF N k), .int 3] = some d.enc := rd
    have w := run_drawn R.toDraws (n + 5) N k
    simp only [List.length_cons] at hc ⊢
    have hlen : r.length + 1 ≤ 16777216 := by have := g.len; omega
    have hcomp : ∀ s4, compD T.G (T.run (n + 6)) (.nm 6) (.var 6) (.cmp .eq (.slc (.var 6) (.omit) (.lit (.int 2))) (.tup (.cons (.lit (.str (Wd.s .some))) (.cons (.lit (.str (Wd.s .each))) (.nil))))) [.val (.int N), .val (.int M), .val (.tuple (r.map Dem.enc)), .val (.int k), s4, s5, .un] (r.map Dem.enc) = some ((r.filter Dem.mark).map Dem.enc) := by
      intro s4
      rw [compD_filter T.G (T.run (n + 6)) (fun d => PyData.eqv (headD d) (.tuple [wS .some, wS .each])) id, filt_marks, List.map_id]
      intro e he
      obtain ⟨q, _, rfl⟩ := List.mem_map.mp he
      refine ⟨_, rfl, ?_, ?_⟩
      · simp [Dem.enc, copD_se, headD]
      · intro _
        simp
    have hev := Dem.enc_head d
    obtain ⟨d', hd', hm', e'⟩ : ∃ d' : Dem, d'.form.deep ≤ 3 ∧ (d'.mark = true → (r.filter Dem.mark).length ≠ 2) ∧ evSs T.G (T.run (n + 6)) b_law_row_f0 [.val (.int N), .val (.int M), .val (encR r), .val (.int k), s4, s5, s6] = some (.nx [.val (.int N), .val (.int M), .val (encR (r ++ [d'])), .val (.int k), .val d'.enc, .val (.list ((r.filter Dem.mark).map Dem.enc)), s6]) := by
      by_cases h2 : d.mark = true ∧ (r.filter Dem.mark).length = 2
      · refine ⟨⟨false, true, d.form⟩, hd, by simp [Dem.mark], ?_⟩
        rw [h2.1] at hev
        simp only [encR]
        simp only [b_law_row_f0]
        simp only [wS] at hev
        simp [w, rd, hcomp, Dem.enc, hev, h2.2, copD_se, catOk_of, hlen, wS]
      · refine ⟨d, hd, fun h e => h2 ⟨h, e⟩, ?_⟩
        simp only [encR]
        simp only [b_law_row_f0]
        simp only [wS] at hev
        cases hm : d.mark
        · rw [hm] at hev
          simp [w, rd, hcomp, Dem.enc, hev, copD_se, catOk_of, hlen, wS]
        · have : (r.filter Dem.mark).length ≠ 2 := fun e => h2 ⟨hm, e⟩
          have t : (((r.filter Dem.mark).length : Int) == 2) = false := by simp; omega
          rw [hm] at hev
          simp [w, rd, hcomp, Dem.enc, hev, t, copD_se, catOk_of, hlen, wS]
    have g' : GoodRow (c + 1) (r ++ [d']) := by
      refine ⟨by have := g.len; simp; omega, ?_, ?_⟩
      · intro x hx
        rcases List.mem_append.mp hx with h | h
        · exact g.deep x h
        · rw [List.mem_singleton] at h; subst h; exact hd'
      · rw [List.filter_append, List.length_append]
        have := g.marks
        cases hm : d'.mark
        · simp [List.filter, hm]; exact this
        · have := hm' hm
          simp [List.filter, hm]; omega
    obtain ⟨r', a3, a4, a5, a6, gr, e⟩ := row_loop R n N M ks (r ++ [d']) (c + 1) (.val (.int k)) (.val d'.enc) (.val (.list ((r.filter Dem.mark).map Dem.enc))) s6 (by omega) g'
    refine ⟨r', a3, a4, a5, a6, by rw [show c + (ks.length + 1) = c + 1 + ks.length by omega]; exact gr, ?_⟩
    rw [List.map_cons, loopD_cons]
    simp only [asg_nm, List.set, Option.bind_some, e', loopK_nx, e]
theorem rgD_eq (n : Nat) : rgD (n : Int) = ((List.range n).map fun i : Nat => (i : Int)).map PyData.int := by
  unfold rgD
  rw [List.map_map]
  rfl
theorem run_row (R : Rows T) (n : Nat) (N : Int) (M : Nat) (hM : M ≤ 20) (hN : 0 ≤ N) : ∃ r, GoodRow M r ∧ T.run (n + 7) 15 [.int N, .int (M : Int)] = some (encR r) := by
  have h0 : 0 ≤ N % ((M : Int) + 1) := Int.emod_nonneg _ (by omega)
  have h1 : N % ((M : Int) + 1) < (M : Int) + 1 := Int.emod_lt_of_pos _ (by omega)
  obtain ⟨m, hm⟩ : ∃ m : Nat, N % ((M : Int) + 1) = m := ⟨(N % ((M : Int) + 1)).toNat, by omega⟩
  have hp : (0 : Int) < (M : Int) + 1 := by omega
  have hr : rngOk (m : Int) = true := rngOk_of (by omega) (by omega)
  obtain ⟨r, a3, a4, a5, a6, g, e⟩ := row_loop R n N M ((List.range m).map fun i : Nat => (i : Int)) [] 0 .un .un .un .un (by simp; omega) ⟨Nat.le_refl _, by simp, by simp⟩
  simp only [List.length_map, List.length_range, Nat.zero_add] at g
  refine ⟨r, ⟨by have := g.len; omega, g.deep, g.marks⟩, ?_⟩
  rw [run_succ R.row (n + 6) _ rfl]
  simp only [encR, List.map_nil] at e
  have e2 : rgK (.int (m : Int)) = some (((List.range m).map fun i : Nat => (i : Int)).map PyData.int) := by
    rw [← rgD_eq, rgK_int, hr]; rfl
  generalize hk : ((List.range m).map fun i : Nat => (i : Int)).map PyData.int = zs at e e2
  simp [-rgK_int, b_law_row, startR, bop_modP hp]
  rw [hm, e2]
  simp [e, encR]
theorem run_rowK (R : Rows T) (n : Nat) (N K : Int) (M : Nat) (hK : K = (M : Int)) (hM : M ≤ 20) (hN : 0 ≤ N) : ∃ r, GoodRow M r ∧ T.run (n + 7) 15 [.int N, .int K] = some (encR r) := by
  subst hK; exact run_row R n N M hM hN
end
end Ev

/-! PuB: a row's text (law k02). -/
namespace Ev
open PySem
theorem Str.asc (a b c : Str) : (a ++ b) ++ c = a ++ (b ++ c) := by
  cases a; cases b; cases c
  show Str.mk _ = Str.mk _
  congr 1
  exact Array.append_assoc ..
theorem slen (a b : Str) : (a ++ b).length = a.length + b.length := Str.length_append a b
theorem Wd.len (w : Wd) : w.s.length ≤ 6 := by cases w <;> decide +kernel
theorem join_cons2 (s x y : Str) (r : List Str) : Str.join s (x :: y :: r) = x ++ s ++ Str.join s (y :: r) := rfl
theorem join_one (s x : Str) : Str.join s [x] = x := rfl
theorem join_app (s : Str) : ∀ (a b : List Str), a ≠ [] → b ≠ [] → Str.join s (a ++ b) = Str.join s a ++ s ++ Str.join s b
  | [x], y :: b, _, _ => by rw [join_one]; rfl
  | x :: z :: a, y :: b, _, hb => by
    rw [List.cons_append, List.cons_append, join_cons2, ← List.cons_append, join_app s (z :: a) (y :: b) (by simp) hb, join_cons2]
    simp only [Str.asc]
  | _, [], _, hb => absurd rfl hb
  | [], _, ha, _ => absurd rfl ha
def Form.ws : Form → List Str
  | .yes => [Wd.s .yes]
  | .no => [Wd.s .no]
  | .a x => [Wd.s .a ++ Wd.s (nm x)]
  | .b x => [Wd.s .b ++ Wd.s (nm x)]
  | .to x y => [Wd.s (nm x) ++ Wd.s (nm y)]
  | .not f => Wd.s .not :: f.ws
  | .both f g => Wd.s .both :: (f.ws ++ g.ws)
  | .either f g => Wd.s .either :: (f.ws ++ g.ws)
def Form.size : Form → Nat
  | .not f => f.size + 1
  | .both f g => f.size + g.size + 1
  | .either f g => f.size + g.size + 1
  | _ => 1
theorem Form.size_le : ∀ f : Form, f.size ≤ 2 ^ (f.deep + 1) - 1
  | .not f => by
    have := f.size_le
    have p : 1 ≤ 2 ^ (f.deep + 1) := Nat.one_le_two_pow
    have e : 2 ^ (f.deep + 1 + 1) = 2 * 2 ^ (f.deep + 1) := by rw [Nat.pow_succ]; omega
    simp only [size, deep, e]; omega
  | .both f g => by
    have := f.size_le; have := g.size_le
    have p : 1 ≤ 2 ^ (f.deep + 1) := Nat.one_le_two_pow
    have p' : 1 ≤ 2 ^ (g.deep + 1) := Nat.one_le_two_pow
    have e : 2 ^ (max f.deep g.deep + 1 + 1) = 2 * 2 ^ (max f.deep g.deep + 1) := by rw [Nat.pow_succ]; omega
    have h1 : 2 ^ (f.deep + 1) ≤ 2 ^ (max f.deep g.deep + 1) := Nat.pow_le_pow_right (by decide) (by omega)
    have h2 : 2 ^ (g.deep + 1) ≤ 2 ^ (max f.deep g.deep + 1) := Nat.pow_le_pow_right (by decide) (by omega)
    simp only [size, deep, e]; omega
  | .either f g => by
    have := f.size_le; have := g.size_le
    have p : 1 ≤ 2 ^ (f.deep + 1) := Nat.one_le_two_pow
    have p' : 1 ≤ 2 ^ (g.deep + 1) := Nat.one_le_two_pow
    have e : 2 ^ (max f.deep g.deep + 1 + 1) = 2 * 2 ^ (max f.deep g.deep + 1) := by rw [Nat.pow_succ]; omega
    have h1 : 2 ^ (f.deep + 1) ≤ 2 ^ (max f.deep g.deep + 1) := Nat.pow_le_pow_right (by decide) (by omega)
    have h2 : 2 ^ (g.deep + 1) ≤ 2 ^ (max f.deep g.deep + 1) := Nat.pow_le_pow_right (by decide) (by omega)
    simp only [size, deep, e]; omega
  | .yes | .no | .a _ | .b _ | .to _ _ => by simp [size, deep]
theorem Form.size_small {f : Form} (h : f.deep ≤ 10) : f.size ≤ 2047 := by
  have := f.size_le
  have : 2 ^ (f.deep + 1) ≤ 2 ^ 11 := Nat.pow_le_pow_right (by decide) (by omega)
  omega
theorem Form.ws_ne (f : Form) : f.ws ≠ [] := by cases f <;> simp [ws]
theorem Form.ws_len : ∀ f : Form, f.ws.length = f.size
  | .not f => by simp [ws, size, ws_len f]
  | .both f g => by simp [ws, size, ws_len f, ws_len g]
  | .either f g => by simp [ws, size, ws_len f, ws_len g]
  | .yes | .no | .a _ | .b _ | .to _ _ => by simp [size, ws]
theorem Form.ws_each : ∀ (f : Form) (w : Str), w ∈ f.ws → w.length ≤ 12
  | .not f, w, h => by
    rcases List.mem_cons.mp h with rfl | h
    · have := Wd.len .not; omega
    · exact ws_each f w h
  | .both f g, w, h => by
    rcases List.mem_cons.mp h with rfl | h
    · have := Wd.len .both; omega
    · exact (List.mem_append.mp h).elim (ws_each f w) (ws_each g w)
  | .either f g, w, h => by
    rcases List.mem_cons.mp h with rfl | h
    · have := Wd.len .either; omega
    · exact (List.mem_append.mp h).elim (ws_each f w) (ws_each g w)
  | .yes, w, h => by rw [ws, List.mem_singleton] at h; subst h; have := Wd.len .yes; omega
  | .no, w, h => by rw [ws, List.mem_singleton] at h; subst h; have := Wd.len .no; omega
  | .a x, w, h => by rw [ws, List.mem_singleton] at h; subst h; rw [slen]; have := Wd.len .a; have := Wd.len (nm x); omega
  | .b x, w, h => by rw [ws, List.mem_singleton] at h; subst h; rw [slen]; have := Wd.len .b; have := Wd.len (nm x); omega
  | .to x y, w, h => by rw [ws, List.mem_singleton] at h; subst h; rw [slen]; have := Wd.len (nm y); have := Wd.len (nm x); omega
theorem joinLen_le {n b : Nat} : ∀ {l : List Str}, (∀ w ∈ l, w.length ≤ b) → joinLen n l ≤ l.length * (b + n)
  | [], _ => by simp [joinLen]
  | x :: r, h => by
    have h1 := h x (by simp)
    have h2 := joinLen_le (n := n) fun w hw => h w (List.mem_cons_of_mem _ hw)
    rw [joinLen, List.length_cons, Nat.succ_mul]
    omega
theorem join_len (s : Str) : ∀ l : List Str, (Str.join s l).length ≤ joinLen s.length l
  | [] => Nat.le_refl 0
  | [x] => by rw [join_one, joinLen]; omega
  | x :: y :: r => by
    have := join_len s (y :: r)
    rw [join_cons2, slen, slen, joinLen]
    omega
@[simp] theorem joinD_strs (s : Str) (l : List Str) (h : joinLen s.length l ≤ sizeLine) : joinD (.str s) (.list (l.map .str)) = some (.str (Str.join s l)) := by
  show ((strsOf (l.map .str)).bind fun xs => if joinLen s.length xs ≤ sizeLine then some (PyData.str (Str.join s xs)) else none) = _
  rw [strsOf_map]
  simp [h]
def Form.text (f : Form) : Str := Str.join (Wd.s .blank) f.ws
theorem Form.text_len (f : Form) : f.text.length ≤ f.size * 18 := by
  have h := join_len (Wd.s .blank) f.ws
  have h2 := joinLen_le (n := (Wd.s .blank).length) f.ws_each
  have h3 := Wd.len .blank
  rw [f.ws_len] at h2
  have : f.size * (12 + (Wd.s .blank).length) ≤ f.size * 18 := Nat.mul_le_mul_left _ (by omega)
  unfold Form.text; omega

structure Wr (T : Tab) : Prop where
  words : Has T 25 1 3 b_words_of
  written : Has T 26 1 4 b_written
structure LWr (T : Tab) : Prop where
  words : Has T 27 1 2 b_law_words
  text : Has T 28 1 4 b_law_text
section
variable {T : Tab}
theorem wcat (v w : Wd) : catOk v.s.length w.s.length = true := catOk_of (by have := v.len; have := w.len; omega)
theorem run_words (W : Wr T) : ∀ (f : Form) (n : Nat), f.size ≤ 100000 → T.run (n + f.deep + 1) 25 [f.enc] = some (.list (f.ws.map .str)) := by
  intro f
  induction f with
  | yes => intro n hs; rw [run_succ W.words _ _ rfl]; simp [b_words_of, startR, Form.enc, wS, Form.ws, isTy]
  | no => intro n hs; rw [run_succ W.words _ _ rfl]; simp [b_words_of, startR, Form.enc, wS, Form.ws, isTy]
  | a x => intro n hs; rw [run_succ W.words _ _ rfl]; simp [b_words_of, startR, Form.enc, wS, Form.ws, isTy, wcat]
  | b x => intro n hs; rw [run_succ W.words _ _ rfl]; simp [b_words_of, startR, Form.enc, wS, Form.ws, isTy, wcat]
  | to x y => intro n hs; rw [run_succ W.words _ _ rfl]; simp [b_words_of, startR, Form.enc, wS, Form.ws, isTy, wcat]
  | not f ih =>
    intro n hs
    simp only [Form.size] at hs
    have e := ih n (by omega)
    rw [run_succ W.words _ _ rfl]
    have hl := f.ws_len
    have e2 : catOk 1 f.ws.length = true := catOk_of (by omega)
    simp [b_words_of, b_words_of_f0, startR, Form.enc, wS, Form.ws, isTy, loopD_cons, loopD_nil, Form.deep, ← Nat.add_assoc, e, ownExt, e2]
  | both f g ihf ihg =>
    intro n hs
    simp only [Form.size] at hs
    have e := ihf (n + (max f.deep g.deep - f.deep)) (by omega)
    have e' := ihg (n + (max f.deep g.deep - g.deep)) (by omega)
    rw [show n + (max f.deep g.deep - f.deep) + f.deep + 1 = n + max f.deep g.deep + 1 by omega] at e
    rw [show n + (max f.deep g.deep - g.deep) + g.deep + 1 = n + max f.deep g.deep + 1 by omega] at e'
    rw [run_succ W.words _ _ rfl]
    have hl := f.ws_len
    have hl' := g.ws_len
    have e2 : catOk 1 f.ws.length = true := catOk_of (by omega)
    have e3 : catOk (f.ws.length + 1) g.ws.length = true := catOk_of (by omega)
    simp [b_words_of, b_words_of_f0, startR, Form.enc, wS, Form.ws, isTy, loopD_cons, loopD_nil, Form.deep, ← Nat.add_assoc, e, e', ownExt, e2, e3]
  | either f g ihf ihg =>
    intro n hs
    simp only [Form.size] at hs
    have e := ihf (n + (max f.deep g.deep - f.deep)) (by omega)
    have e' := ihg (n + (max f.deep g.deep - g.deep)) (by omega)
    rw [show n + (max f.deep g.deep - f.deep) + f.deep + 1 = n + max f.deep g.deep + 1 by omega] at e
    rw [show n + (max f.deep g.deep - g.deep) + g.deep + 1 = n + max f.deep g.deep + 1 by omega] at e'
    rw [run_succ W.words _ _ rfl]
    have hl := f.ws_len
    have hl' := g.ws_len
    have e2 : catOk 1 f.ws.length = true := catOk_of (by omega)
    have e3 : catOk (f.ws.length + 1) g.ws.length = true := catOk_of (by omega)
    simp [b_words_of, b_words_of_f0, startR, Form.enc, wS, Form.ws, isTy, loopD_cons, loopD_nil, Form.deep, ← Nat.add_assoc, e, e', ownExt, e2, e3]
theorem joinD_2 (s a b : Str) (h : a.length + b.length + 2 * s.length ≤ 16777216) : joinD (.str s) (.list [.str a, .str b]) = some (.str (a ++ s ++ b)) := by
  have := joinD_strs s [a, b] (by simp only [joinLen, sizeLine_eq]; omega)
  exact this
theorem joinD_3 (s a b c : Str) (h : a.length + b.length + c.length + 3 * s.length ≤ 16777216) : joinD (.str s) (.list [.str a, .str b, .str c]) = some (.str (a ++ s ++ (b ++ s ++ c))) := by
  have := joinD_strs s [a, b, c] (by simp only [joinLen, sizeLine_eq]; omega)
  exact this
theorem text_two (w : Wd) (f : Form) : Str.join (Wd.s .blank) (w.s :: f.ws) = w.s ++ Wd.s .blank ++ f.text := by
  have := join_app (Wd.s .blank) [w.s] f.ws (by simp) f.ws_ne
  exact this
theorem text_three (w : Wd) (f g : Form) : Str.join (Wd.s .blank) (w.s :: (f.ws ++ g.ws)) = w.s ++ Wd.s .blank ++ (f.text ++ Wd.s .blank ++ g.text) := by
  have h1 := join_app (Wd.s .blank) [w.s] (f.ws ++ g.ws) (by simp) (by simp [f.ws_ne])
  have h2 := join_app (Wd.s .blank) f.ws g.ws f.ws_ne g.ws_ne
  rw [h2] at h1
  exact h1
theorem run_lwords (W : LWr T) : ∀ (f : Form) (n : Nat), f.size ≤ 100000 → T.run (n + f.deep + 1) 27 [f.enc] = some (.str f.text) := by
  intro f
  have hb := Wd.len .blank
  induction f with
  | yes => intro n hs; rw [run_succ W.words _ _ rfl]; simp [b_law_words, startR, Form.enc, wS, Form.text, Form.ws, isTy, Str.join]
  | no => intro n hs; rw [run_succ W.words _ _ rfl]; simp [b_law_words, startR, Form.enc, wS, Form.text, Form.ws, isTy, Str.join]
  | a x => intro n hs; rw [run_succ W.words _ _ rfl]; simp [b_law_words, startR, Form.enc, wS, Form.text, Form.ws, isTy, wcat, Str.join]
  | b x => intro n hs; rw [run_succ W.words _ _ rfl]; simp [b_law_words, startR, Form.enc, wS, Form.text, Form.ws, isTy, wcat, Str.join]
  | to x y => intro n hs; rw [run_succ W.words _ _ rfl]; simp [b_law_words, startR, Form.enc, wS, Form.text, Form.ws, isTy, wcat, Str.join]
  | not f ih =>
    intro n hs
    simp only [Form.size] at hs
    have e := ih n (by omega)
    rw [run_succ W.words _ _ rfl]
    have hl := f.text_len
    have hw := Wd.len .not
    have e2 := joinD_2 (Wd.s .blank) (Wd.s .not) f.text (by omega)
    have e3 := text_two .not f
    have e4 : catOk 1 1 = true := catOk_of (by omega)
    simp [b_law_words, startR, Form.enc, wS, isTy, compD_cons, compD_nil, Form.deep, ← Nat.add_assoc, e, e2, e4]
    simp only [Form.text, Form.ws] at e3 ⊢
    rw [e3]
  | both f g ihf ihg =>
    intro n hs
    simp only [Form.size] at hs
    have e := ihf (n + (max f.deep g.deep - f.deep)) (by omega)
    have e' := ihg (n + (max f.deep g.deep - g.deep)) (by omega)
    rw [show n + (max f.deep g.deep - f.deep) + f.deep + 1 = n + max f.deep g.deep + 1 by omega] at e
    rw [show n + (max f.deep g.deep - g.deep) + g.deep + 1 = n + max f.deep g.deep + 1 by omega] at e'
    rw [run_succ W.words _ _ rfl]
    have hl := f.text_len
    have hl' := g.text_len
    have hw := Wd.len .both
    have e2 := joinD_3 (Wd.s .blank) (Wd.s .both) f.text g.text (by omega)
    have e3 := text_three .both f g
    have e4 : catOk 1 2 = true := catOk_of (by omega)
    simp [b_law_words, startR, Form.enc, wS, isTy, compD_cons, compD_nil, Form.deep, ← Nat.add_assoc, e, e', e2, e4]
    simp only [Form.text, Form.ws] at e3 ⊢
    rw [e3]
  | either f g ihf ihg =>
    intro n hs
    simp only [Form.size] at hs
    have e := ihf (n + (max f.deep g.deep - f.deep)) (by omega)
    have e' := ihg (n + (max f.deep g.deep - g.deep)) (by omega)
    rw [show n + (max f.deep g.deep - f.deep) + f.deep + 1 = n + max f.deep g.deep + 1 by omega] at e
    rw [show n + (max f.deep g.deep - g.deep) + g.deep + 1 = n + max f.deep g.deep + 1 by omega] at e'
    rw [run_succ W.words _ _ rfl]
    have hl := f.text_len
    have hl' := g.text_len
    have hw := Wd.len .either
    have e2 := joinD_3 (Wd.s .blank) (Wd.s .either) f.text g.text (by omega)
    have e3 := text_three .either f g
    have e4 : catOk 1 2 = true := catOk_of (by omega)
    simp [b_law_words, startR, Form.enc, wS, isTy, compD_cons, compD_nil, Form.deep, ← Nat.add_assoc, e, e', e2, e4]
    simp only [Form.text, Form.ws] at e3 ⊢
    rw [e3]
/-- a demand's text -/
def Dem.text (d : Dem) : Str := (qw d.one).s ++ Wd.s .blank ++ (qw d.other).s ++ Wd.s .blank ++ d.form.text
theorem Dem.text_join (d : Dem) : Str.join (Wd.s .blank) ((qw d.one).s :: (qw d.other).s :: d.form.ws) = d.text := by
  have h := join_app (Wd.s .blank) [(qw d.one).s, (qw d.other).s] d.form.ws (by simp) d.form.ws_ne
  simp only [Dem.text, Form.text, Str.asc] at h ⊢
  have h2 : Str.join (Wd.s .blank) [(qw d.one).s, (qw d.other).s] = (qw d.one).s ++ Wd.s .blank ++ (qw d.other).s := rfl
  rw [h2] at h
  simp only [Str.asc] at h
  exact h
def rowText (r : List Dem) : Str := if r = [] then Wd.s .dash else Str.join (Wd.s .semi) (r.map Dem.text)
theorem Dem.text_len (d : Dem) : d.text.length ≤ d.form.size * 18 + 24 := by
  have h1 := d.form.text_len
  have h2 := Wd.len .blank
  have h3 := (qw d.one).len
  have h4 := (qw d.other).len
  simp only [Dem.text, slen]; omega
theorem encR_nil (r : List Dem) : PyData.eqv (encR r) (.tuple []) = decide (r = []) := by
  cases r with
  | nil => simp [encR, eqv_tt]
  | cons a l => simp [encR, eqv_tt]
structure SmallRow (r : List Dem) : Prop where
  len : r.length ≤ 1000
  size : ∀ d ∈ r, d.form.size ≤ 800
  deep : ∀ d ∈ r, d.form.deep ≤ 150
theorem GoodRow.small {m : Nat} {r : List Dem} (g : GoodRow m r) (hm : m ≤ 1000) : SmallRow r :=
  ⟨Nat.le_trans g.len hm, fun d hd => by
    have := g.deep d hd
    have h := d.form.size_le
    have : 2 ^ (d.form.deep + 1) ≤ 2 ^ 4 := Nat.pow_le_pow_right (by decide) (by omega)
    omega, fun d hd => by have := g.deep d hd; omega⟩
theorem SmallRow.join {r : List Dem} (s : SmallRow r) : joinLen (Wd.s .semi).length (r.map Dem.text) ≤ sizeLine := by
  have h := joinLen_le (n := (Wd.s .semi).length) (b := 14424) (l := r.map Dem.text) (fun w hw => by
    obtain ⟨d, hd, rfl⟩ := List.mem_map.mp hw
    have := s.size d hd
    have := d.text_len
    omega)
  have h3 := Wd.len .semi
  have h2 := s.len
  rw [List.length_map] at h
  have : r.length * (14424 + (Wd.s .semi).length) ≤ 1000 * 14430 := Nat.mul_le_mul h2 (by omega)
  rw [sizeLine_eq]; omega
theorem run_deep {f k n : Nat} {ds : List PyData} {m : Nat} (hk : k ≤ m) {d : PyData} (h : ∀ n, T.run (n + k + 1) f ds = some d) : T.run (n + m + 1) f ds = some d := by
  have := h (n + (m - k))
  rwa [show n + (m - k) + k + 1 = n + m + 1 by omega] at this
theorem run_writtenD (W : Wr T) (n D : Nat) (r : List Dem) (s : SmallRow r) (hD : ∀ d ∈ r, d.form.deep ≤ D) : T.run (n + D + 2) 26 [encR r] = some (.str (rowText r)) := by
  rw [run_succ W.written (n + D + 1) _ rfl]
  by_cases h : r = []
  · subst h
    simp [b_written, startR, encR, eqv_tt, rowText]
  · have hc : compD T.G (T.run (n + D + 1)) (.tp [1, 2, 3]) (.join (.lit (.str (Wd.s .blank))) (.bin .add (.lst (.cons (.var 1) (.cons (.var 2) (.nil)))) (.call 25 (.cons (.var 3) (.nil))))) (.lit (.bool true)) [.val (encR r), .un, .un, .un] (r.map Dem.enc) = some (r.map fun d => .str d.text) := by
      refine compD_codeM _ _ Dem.enc (fun d => .str d.text) r fun d hd => ⟨_, rfl, by simp, ?_⟩
      have hs := s.size d hd
      have e : T.run (n + D + 1) 25 [d.form.enc] = some (.list (d.form.ws.map .str)) := run_deep (hD d hd) fun m => run_words W d.form m (by omega)
      have hl := d.form.ws_len
      have e4 : catOk 2 d.form.ws.length = true := catOk_of (by omega)
      have e5 : joinD (.str (Wd.s .blank)) (.list (.str (qw d.one).s :: .str (qw d.other).s :: d.form.ws.map .str)) = some (.str d.text) := by
        rw [← d.text_join]
        refine joinD_strs (Wd.s .blank) ((qw d.one).s :: (qw d.other).s :: d.form.ws) ?_
        have h1 := joinLen_le (n := (Wd.s .blank).length) d.form.ws_each
        have h2 := Wd.len .blank
        have h3 := (qw d.one).len
        have h4 := (qw d.other).len
        rw [hl] at h1
        have : d.form.size * (12 + (Wd.s .blank).length) ≤ 800 * 18 := Nat.mul_le_mul hs (by omega)
        simp only [joinLen, sizeLine_eq]; omega
      simp [Dem.enc, wS, e, e4, e5]
    have hj := joinD_strs (Wd.s .semi) (r.map Dem.text) s.join
    have he := encR_nil r
    simp only [h, decide_false] at he
    rw [List.map_map] at hj
    have hj : joinD (.str (Wd.s .semi)) (.list (r.map fun d => .str d.text)) = _ := hj
    simp only [encR] at hc he
    simp [b_written, startR, encR, he, hc, hj, rowText, h]
theorem run_written (W : Wr T) (n : Nat) (r : List Dem) (s : SmallRow r) : T.run (n + 152) 26 [encR r] = some (.str (rowText r)) := run_writtenD W n 150 r s s.deep
theorem run_ltextD (W : LWr T) (n D : Nat) (r : List Dem) (s : SmallRow r) (hD : ∀ d ∈ r, d.form.deep ≤ D) : T.run (n + D + 2) 28 [encR r] = some (.str (rowText r)) := by
  rw [run_succ W.text (n + D + 1) _ rfl]
  by_cases h : r = []
  · subst h
    simp [b_law_text, startR, encR, eqv_tt, rowText]
  · have hc : compD T.G (T.run (n + D + 1)) (.tp [1, 2, 3]) (.bin .add (.bin .add (.bin .add (.bin .add (.var 1) (.lit (.str (Wd.s .blank)))) (.var 2)) (.lit (.str (Wd.s .blank)))) (.call 27 (.cons (.var 3) (.nil)))) (.lit (.bool true)) [.val (encR r), .un, .un, .un] (r.map Dem.enc) = some (r.map fun d => .str d.text) := by
      refine compD_codeM _ _ Dem.enc (fun d => .str d.text) r fun d hd => ⟨_, rfl, by simp, ?_⟩
      have hs := s.size d hd
      have e : T.run (n + D + 1) 27 [d.form.enc] = some (.str d.form.text) := run_deep (hD d hd) fun m => run_lwords W d.form m (by omega)
      have hl := d.form.text_len
      have h2 := Wd.len .blank
      have h3 := (qw d.one).len
      have h4 := (qw d.other).len
      have c1 : catOk (qw d.one).s.length (Wd.s .blank).length = true := catOk_of (by omega)
      have c2 : catOk ((qw d.one).s.length + (Wd.s .blank).length) (qw d.other).s.length = true := catOk_of (by omega)
      have c3 : catOk ((qw d.one).s.length + (Wd.s .blank).length + (qw d.other).s.length) (Wd.s .blank).length = true := catOk_of (by omega)
      have c4 : catOk ((qw d.one).s.length + (Wd.s .blank).length + (qw d.other).s.length + (Wd.s .blank).length) d.form.text.length = true := catOk_of (by omega)
      simp [Dem.enc, wS, e, c1, c2, c3, c4, slen, Dem.text]
    have hj := joinD_strs (Wd.s .semi) (r.map Dem.text) s.join
    have he := encR_nil r
    simp only [h, decide_false] at he
    rw [List.map_map] at hj
    have hj : joinD (.str (Wd.s .semi)) (.list (r.map fun d => .str d.text)) = _ := hj
    simp only [encR] at hc he
    simp [b_law_text, startR, encR, he, hc, hj, rowText, h]
theorem run_ltext (W : LWr T) (n : Nat) (r : List Dem) (s : SmallRow r) : T.run (n + 152) 28 [encR r] = some (.str (rowText r)) := run_ltextD W n 150 r s s.deep
end
end Ev

/-! PuC: worlds, what holds in them. -/
namespace Ev
open PySem
section
variable (G : Nat → Option PyData) (run : Nat → List PyData → Option PyData)
/-- a loop that goes through, by an invariant over what is behind -/
theorem loopD_inv {α : Type} {tg : Tg} {b : QSs} (g : α → PyData) (I : List α → Rho → Prop) (xs : List α) (h : ∀ pre x post ρ, xs = pre ++ x :: post → I pre ρ → ∃ ρ1 ρ2, asg tg (g x) ρ = some ρ1 ∧ evSs G run b ρ1 = some (.nx ρ2) ∧ I (pre ++ [x]) ρ2) :
    ∀ ρ, I [] ρ → ∃ ρ', loopD G run tg b ρ (xs.map g) = some (.nx ρ') ∧ I xs ρ' := by
  suffices H : ∀ (post pre : List α) ρ, xs = pre ++ post → I pre ρ → ∃ ρ', loopD G run tg b ρ (post.map g) = some (.nx ρ') ∧ I xs ρ' from fun ρ h0 => H xs [] ρ rfl h0
  intro post
  induction post with
  | nil => intro pre ρ e i; rw [List.append_nil] at e; subst e; exact ⟨ρ, rfl, i⟩
  | cons x post ih =>
    intro pre ρ e i
    obtain ⟨ρ1, ρ2, h1, h2, h3⟩ := h pre x post ρ e i
    obtain ⟨ρ', h4, h5⟩ := ih (pre ++ [x]) ρ2 (by rw [e]; simp) h3
    refine ⟨ρ', ?_, h5⟩
    rw [List.map_cons, loopD_cons, h1, Option.bind_some, h2, Option.bind_some, loopK_nx, h4]
/-- a loop that ends at the first item with p -/
theorem loopD_find {α : Type} {tg : Tg} {b : QSs} (g : α → PyData) (p : α → Bool) (o : α → PyData) (I : Rho → Prop) : ∀ (xs : List α), (∀ x ρ, x ∈ xs → I ρ → ∃ ρ1, asg tg (g x) ρ = some ρ1 ∧ ((p x = true ∧ evSs G run b ρ1 = some (.rt (o x))) ∨ (p x = false ∧ ∃ ρ2, evSs G run b ρ1 = some (.nx ρ2) ∧ I ρ2))) →
    ∀ ρ, I ρ → (∃ x, xs.find? p = some x ∧ loopD G run tg b ρ (xs.map g) = some (.rt (o x))) ∨ (xs.find? p = none ∧ ∃ ρ', loopD G run tg b ρ (xs.map g) = some (.nx ρ') ∧ I ρ')
  | [], _, ρ, i => .inr ⟨rfl, ρ, rfl, i⟩
  | x :: xs, h, ρ, i => by
    obtain ⟨ρ1, h1, h2⟩ := h x ρ (by simp) i
    rw [List.map_cons, loopD_cons, h1, Option.bind_some]
    rcases h2 with ⟨hp, h2⟩ | ⟨hp, ρ2, h2, i2⟩
    · exact .inl ⟨x, by simp [hp], by rw [h2]; rfl⟩
    · rw [h2, Option.bind_some, loopK_nx]
      rw [List.find?_cons_of_neg (by simp [hp])]
      exact loopD_find g p o I xs (fun y ρ hy => h y ρ (List.mem_cons_of_mem _ hy)) ρ2 i2
end
def iN (i : Nat) : PyData := .int (i : Int)
theorem rgD_iN (n : Nat) : rgD (n : Int) = (List.range n).map iN := rfl
structure Wld where
  n : Nat
  a : List Nat
  b : List Nat
  r : List (Nat × Nat)
  deriving DecidableEq
def pr2 (p : Nat × Nat) : PyData := .tuple [iN p.1, iN p.2]
def Wld.enc (w : Wld) : PyData := .tuple [iN w.n, .tuple (w.a.map iN), .tuple (w.b.map iN), .tuple (w.r.map pr2)]
structure GoodW (most : Nat) (w : Wld) : Prop where
  pos : 1 ≤ w.n
  le : w.n ≤ most
  a : ∃ p, w.a = (List.range w.n).filter p
  b : ∃ p, w.b = (List.range w.n).filter p
  r : ∃ p, w.r = ((List.range w.n).flatMap fun i => (List.range w.n).map fun j => (i, j)).filter p
structure Worlds (T : Tab) : Prop extends Draws T where
  world : Has T 16 2 10 b_law_world
section
variable {T : Tab}
theorem run_world (W : Worlds T) (k : Nat) (N M : Int) (most : Nat) (hM : M = (most : Int)) (h0 : 0 < most) (h1 : most ≤ 800) : ∃ w, GoodW most w ∧ T.run (k + 2) 16 [.int N, .int M] = some w.enc := by
  subst hM
  have hn0 : 0 ≤ N % (most : Int) := Int.emod_nonneg _ (by omega)
  have hn1 : N % (most : Int) < most := Int.emod_lt_of_pos _ (by omega)
  obtain ⟨n, hn⟩ : ∃ n : Nat, 1 + N % (most : Int) = n := ⟨(1 + N % (most : Int)).toNat, by omega⟩
  have hp : (0 : Int) < (most : Int) := by omega
  have hr : rngOk (n : Int) = true := rngOk_of (by omega) (by omega)
  have er : rgK (.int (n : Int)) = some ((List.range n).map iN) := by rw [rgK_int, hr]; rfl
  have e10 : rng 10 = true := by decide
  have e8 : rng 8 = true := by decide
  let pm : Nat → Nat → Bool := fun at_ i => drawF N (10 * (at_ : Int) + (i : Int)) / 4 % 2 == 1
  let share : Int := 1 + N / 24 % 4
  let pr : Nat × Nat → Bool := fun p => decide (drawF N (30 + 8 * (p.1 : Int) + (p.2 : Int)) / 4 % 5 < share)
  have wd := fun j => run_drawn W.toDraws k N j
  -- the marked
  have c0 : ∀ (at_ : Nat) s5, ∀ s3 s6 s7 s8 s9, compD T.G (T.run (k + 1)) (.nm 5) (.var 5) (.cmp .eq (.bin .mod (.bin .fdiv (.call 12 (.cons (.var 0) (.cons (.bin .add (.bin .mul (.lit (.int 10)) (.var 4)) (.var 5)) (.nil)))) (.lit (.int 4))) (.lit (.int 2))) (.lit (.int 1)))
      [.val (.int N), .val (.int (most : Int)), .val (.int (n : Int)), s3, .val (iN at_), s5, s6, s7, s8, s9] ((List.range n).map iN) = some (((List.range n).filter (pm at_)).map iN) := by
    intro at_ s5 s3 s6 s7 s8 s9
    refine compD_code _ _ iN (pm at_) iN _ fun i hi => ⟨_, rfl, ?_, ?_⟩
    · simp [iN, bop_modP, bop_fdiv_ii, e10, wd, pm]
    · simp
  have c1 : ∀ s3 s5, ∃ s5', loopD T.G (T.run (k + 1)) (.nm 4) b_law_world_f0 [.val (.int N), .val (.int (most : Int)), .val (.int (n : Int)), .own [], s3, s5, .un, .un, .un, .un] [.int 0, .int 1] =
      some (.nx [.val (.int N), .val (.int (most : Int)), .val (.int (n : Int)), .own [.tuple (((List.range n).filter (pm 0)).map iN), .tuple (((List.range n).filter (pm 1)).map iN)], .val (.int 1), s5', .un, .un, .un, .un]) := by
    intro s3 s5
    have a0 := fun s3 => c0 0 .un s3 .un .un .un .un
    have a1 := fun s3 => c0 1 .un s3 .un .un .un .un
    simp only [iN, Int.natCast_zero, Int.natCast_one] at a0 a1
    refine ⟨s5, ?_⟩
    simp [loopD_cons, loopD_nil, b_law_world_f0, er, a0, a1, ownApp]
  have hsh : share = 1 + N / 24 % 4 := rfl
  -- one arrow
  have a1 : ∀ (i : Nat) (L : List (Nat × Nat)) s3 s4 s5 s9, L.length ≤ 900000 → ∀ (js : List Nat), L.length + js.length ≤ 900000 → ∃ s9', loopD T.G (T.run (k + 1)) (.nm 9) b_law_world_f1 [.val (.int N), .val (.int (most : Int)), .val (.int (n : Int)), s3, s4, s5, .own (L.map pr2), .val (.int share), .val (iN i), s9] (js.map iN) =
      some (.nx [.val (.int N), .val (.int (most : Int)), .val (.int (n : Int)), s3, s4, s5, .own ((L ++ (js.map fun j => (i, j)).filter pr).map pr2), .val (.int share), .val (iN i), s9']) := by
    intro i L s3 s4 s5 s9 hL js
    induction js generalizing L s9 with
    | nil => intro _; exact ⟨s9, by simp [loopD_nil]⟩
    | cons j js ih =>
      intro hl
      rw [List.length_cons] at hl
      by_cases hpr : pr (i, j) = true
      · obtain ⟨s9', e⟩ := ih (L ++ [(i, j)]) (.val (iN j)) (by simp; omega) (by simp; omega)
        refine ⟨s9', ?_⟩
        rw [List.map_cons, loopD_cons]
        have hpr' : drawF N (30 + 8 * (i : Int) + (j : Int)) / 4 % 5 < share := by simpa [pr] using hpr
        have ha : ownApp 6 [.val (.int N), .val (.int (most : Int)), .val (.int (n : Int)), s3, s4, s5, .own (L.map pr2), .val (.int share), .val (iN i), .val (iN j)] (pr2 (i, j)) = some (.nx [.val (.int N), .val (.int (most : Int)), .val (.int (n : Int)), s3, s4, s5, .own (L.map pr2 ++ [pr2 (i, j)]), .val (.int share), .val (iN i), .val (iN j)]) :=
          ownApp_own _ rfl (by rw [List.length_map]; omega)
        simp only [pr2, iN] at ha
        have hb : evSs T.G (T.run (k + 1)) b_law_world_f1 [.val (.int N), .val (.int (most : Int)), .val (.int (n : Int)), s3, s4, s5, .own (L.map pr2), .val (.int share), .val (iN i), .val (iN j)] = some (.nx [.val (.int N), .val (.int (most : Int)), .val (.int (n : Int)), s3, s4, s5, .own (L.map pr2 ++ [pr2 (i, j)]), .val (.int share), .val (iN i), .val (iN j)]) := by
          simp [b_law_world_f1, iN, pr2, e8, bop_modP, bop_fdiv_ii, wd, hpr', ha]
        simp only [asg_nm, List.set, Option.bind_some, hb, loopK_nx]
        rw [List.map_append] at e
        simp only [List.map_cons, List.map_nil] at e
        rw [e]
        simp [List.filter_cons, hpr]
      · obtain ⟨s9', e⟩ := ih L (.val (iN j)) hL (by omega)
        refine ⟨s9', ?_⟩
        rw [List.map_cons, loopD_cons]
        have hpr' : ¬ drawF N (30 + 8 * (i : Int) + (j : Int)) / 4 % 5 < share := by simpa [pr] using hpr
        have hb : evSs T.G (T.run (k + 1)) b_law_world_f1 [.val (.int N), .val (.int (most : Int)), .val (.int (n : Int)), s3, s4, s5, .own (L.map pr2), .val (.int share), .val (iN i), .val (iN j)] = some (.nx [.val (.int N), .val (.int (most : Int)), .val (.int (n : Int)), s3, s4, s5, .own (L.map pr2), .val (.int share), .val (iN i), .val (iN j)]) := by
          simp [b_law_world_f1, iN, pr2, e8, bop_modP, bop_fdiv_ii, wd, hpr']
        simp only [asg_nm, List.set, Option.bind_some, hb, loopK_nx]
        rw [e]
        simp [List.filter_cons, hpr]
  have a2 : ∀ s3 s4 s5 s8 s9, ∃ ρ', loopD T.G (T.run (k + 1)) (.nm 8) b_law_world_f2 [.val (.int N), .val (.int (most : Int)), .val (.int (n : Int)), s3, s4, s5, .own [], .val (.int share), s8, s9] ((List.range n).map iN) = some (.nx ρ') ∧
      ∃ s8 s9, ρ' = [.val (.int N), .val (.int (most : Int)), .val (.int (n : Int)), s3, s4, s5, .own ((((List.range n).flatMap fun i => (List.range n).map fun j => (i, j)).filter pr).map pr2), .val (.int share), s8, s9] := by
    intro s3 s4 s5 s8 s9
    refine loopD_inv _ _ iN (fun pre ρ => ∃ s8 s9, ρ = [.val (.int N), .val (.int (most : Int)), .val (.int (n : Int)), s3, s4, s5, .own (((pre.flatMap fun i => (List.range n).map fun j => (i, j)).filter pr).map pr2), .val (.int share), s8, s9]) (List.range n) ?_ _ ⟨s8, s9, rfl⟩
    rintro pre x post ρ hx ⟨s8, s9, rfl⟩
    have hpl : pre.length ≤ n := by have := congrArg List.length hx; simp at this; omega
    have hfl : ((pre.flatMap fun i => (List.range n).map fun j => (i, j)).filter pr).length ≤ pre.length * n := by
      refine Nat.le_trans (List.length_filter_le _ _) ?_
      clear hx hpl
      induction pre with
      | nil => simp
      | cons a r ih => rw [List.flatMap_cons, List.length_append, List.length_map, List.length_range, List.length_cons, Nat.succ_mul]; omega
    have hpn : pre.length * n ≤ 1000 * n := Nat.mul_le_mul_right _ (by omega)
    by_cases hbig : most ≤ 800
    · have hnn : pre.length * n ≤ 800 * 800 := Nat.mul_le_mul (by omega) (by omega)
      obtain ⟨s9', e⟩ := a1 x ((pre.flatMap fun i => (List.range n).map fun j => (i, j)).filter pr) s3 s4 s5 s9 (by omega) (List.range n) (by rw [List.length_range]; omega)
      refine ⟨_, [.val (.int N), .val (.int (most : Int)), .val (.int (n : Int)), s3, s4, s5, .own ((((pre ++ [x]).flatMap fun i => (List.range n).map fun j => (i, j)).filter pr).map pr2), .val (.int share), .val (iN x), s9'], rfl, ?_, .val (iN x), s9', rfl⟩
      have hasg : (([.val (.int N), .val (.int (most : Int)), .val (.int (n : Int)), s3, s4, s5, .own (((pre.flatMap fun i => (List.range n).map fun j => (i, j)).filter pr).map pr2), .val (.int share), s8, s9] : Rho).set 8 (.val (iN x))) = [.val (.int N), .val (.int (most : Int)), .val (.int (n : Int)), s3, s4, s5, .own (((pre.flatMap fun i => (List.range n).map fun j => (i, j)).filter pr).map pr2), .val (.int share), .val (iN x), s9] := rfl
      rw [hasg]
      simp only [b_law_world_f2, evSs_cons, evS_for, frzs_nil, evI_rng1, evE_var, getV_s, getV_0, Option.bind_some, er, e, cont_nx, evSs_nil]
      simp
    · omega
  obtain ⟨s5', c1⟩ := c1 .un .un
  obtain ⟨ρ', d1, s8, s9, rfl⟩ := a2 (.own [.tuple (((List.range n).filter (pm 0)).map iN), .tuple (((List.range n).filter (pm 1)).map iN)]) (.val (.int 1)) s5' .un .un
  refine ⟨⟨n, (List.range n).filter (pm 0), (List.range n).filter (pm 1), ((List.range n).flatMap fun i => (List.range n).map fun j => (i, j)).filter pr⟩, ⟨by show 1 ≤ n; omega, by show n ≤ most; omega, ⟨_, rfl⟩, ⟨_, rfl⟩, ⟨_, rfl⟩⟩, ?_⟩
  rw [run_succ W.world (k + 1) _ rfl]
  simp only [Wld.enc, iN] at d1 c1 ⊢
  have em : bop .mod (.int N) (.int (most : Int)) = some (.int (N % (most : Int))) := bop_modP hp
  have em2 : ∀ a : Int, bop .mod (.int a) (.int 4) = some (.int (a % 4)) := fun a => bop_modP (by decide)
  simp [b_law_world, startR, em, em2, hn, c1, bop_fdiv_ii, ← hsh, er, d1]
end
end Ev

/-! PuT: what is a form, a row, a world. -/
namespace Ev
open PySem

/-! ### small things -/
theorem eqv_strs (a b : Str) : PyData.eqv (.str a) (.str b) = decide (a = b) := by
  simp only [PyData.eqv]
  exact Bool.beq_eq_decide_eq ..
theorem eqv_bools (a b : Bool) : PyData.eqv (.bool a) (.bool b) = (a == b) := by simp [PyData.eqv]
theorem all_map (ds : List PyData) (p : PyData → Bool) : blt .all (.list (ds.map fun d => .bool (p d))) = some (.bool (ds.all p)) := by
  have e : (ds.map fun d => PyData.bool (p d)) = (ds.map p).map .bool := by rw [List.map_map]; rfl
  rw [e, blt_all_map, List.all_map]
  rfl
theorem all_map_cons (y : PyData) (ds : List PyData) (p : PyData → Bool) : blt .all (.list (.bool (p y) :: ds.map fun d => .bool (p d))) = some (.bool (p y && ds.all p)) := all_map (y :: ds) p
theorem eqv_nilL (xs : List PyData) : PyData.eqv (.list xs) (.list []) = xs.isEmpty := by
  cases xs <;> simp [eqv_ll]
theorem filter_emp {α : Type} (p : α → Bool) : ∀ xs : List α, (xs.filter fun x => !p x).isEmpty = xs.all p
  | [] => rfl
  | x :: xs => by
    rw [List.all_cons]
    cases h : p x
    · rw [List.filter_cons_of_pos (by simp [h])]; rfl
    · rw [List.filter_cons_of_neg (by simp [h]), filter_emp p xs]; rfl

/-! ### numbers, words -/
def isNumD (m : Int) : PyData → Bool
  | .int i => decide (0 ≤ i) && decide (i ≤ m)
  | _ => false
def isWdD (ws : List Wd) : PyData → Bool
  | .str s => ws.any fun w => decide (w.s = s)
  | _ => false
section
variable {T : Tab}
theorem run_number_of {f : Nat} (h : Has T f 2 2 b_is_number) (n : Nat) (d : PyData) (m : Int) : T.run (n + 1) f [d, .int m] = some (.bool (isNumD m d)) := by
  rw [run_succ h n _ rfl]
  cases d <;> simp [b_is_number, startR, isTy, isNumD]
  rename_i i
  by_cases c : 0 ≤ i
  · simp [c, cop]
  · simp [c, cop]
theorem run_word (h : Has T 1 2 2 b_is_word) (n : Nat) (d : PyData) (ws : List Wd) : T.run (n + 1) 1 [d, .tuple (ws.map fun w => .str w.s)] = some (.bool (isWdD ws d)) := by
  rw [run_succ h n _ rfl]
  cases d <;> simp [b_is_word, startR, isTy, isWdD]
  rename_i s
  have e : ((fun z => PyData.eqv z (.str s)) ∘ fun w : Wd => PyData.str w.s) = fun w => decide (w.s = s) := by
    funext w
    exact eqv_strs _ _
  rw [e]

/-! ### forms -/
def arity (h : Str) : Nat := if h = Wd.s .not then 1 else if h = Wd.s .both then 2 else if h = Wd.s .either then 2 else 0
def isFm : Nat → PyData → Bool
  | _, .str s => decide (s = Wd.s .yes) || decide (s = Wd.s .no)
  | k, .tuple (.str h :: ds) =>
    if h = Wd.s .a ∨ h = Wd.s .b then decide (ds.length = 1) && ds.all (isWdD [.x, .y])
    else if h = Wd.s .to then decide (ds.length = 2) && ds.all (isWdD [.x, .y])
    else match k with
      | 0 => false
      | k + 1 => decide (arity h ≠ 0) && decide (ds.length = arity h) && ds.all (isFm k)
  | _, _ => false
structure IsF (T : Tab) : Prop where
  word : Has T 1 2 2 b_is_word
  form : Has T 2 2 3 b_is_form_to
  g4 : T.G 4 = some (.dict [(.str (Wd.s .not), .int 1), (.str (Wd.s .both), .int 2), (.str (Wd.s .either), .int 2)])
  g5 : T.G 5 = some (.tuple [.str (Wd.s .x), .str (Wd.s .y)])
theorem comp_words (W : IsF T) (n : Nat) (ρ : Rho) (hl : 2 < ρ.length) (ds : List PyData) : compD T.G (T.run (n + 1)) (.nm 2) (.call 1 (.cons (.var 2) (.cons (.glb 5) (.nil)))) (.lit (.bool true)) ρ ds = some (ds.map fun d => .bool (isWdD [.x, .y] d)) := by
  refine compD_map _ _ _ ds fun d _ => ⟨_, rfl, rfl, ?_⟩
  have e := run_word W.word n d [.x, .y]
  have g : getV 2 (ρ.set 2 (.val d)) = some d := by unfold getV; rw [List.getElem?_set_self hl]
  simp only [List.map_cons, List.map_nil] at e
  simp [W.g5, g, e]
theorem comp_forms {T : Tab} {f : Nat} (run : Nat → List PyData → Option PyData) (k : Nat) (K : Int) (h : ∀ d, run f [d, .int (K - 1)] = some (.bool (isFm k d))) (ρ : Rho) (hl : 2 < ρ.length) (h1 : getV 1 ρ = some (.int K)) (ds : List PyData) :
    compD T.G run (.nm 2) (.call f (.cons (.var 2) (.cons (.bin .sub (.var 1) (.lit (.int 1))) (.nil)))) (.lit (.bool true)) ρ ds = some (ds.map fun d => .bool (isFm k d)) := by
  refine compD_map _ _ _ ds fun d _ => ⟨_, rfl, rfl, ?_⟩
  have g : getV 2 (ρ.set 2 (.val d)) = some d := by unfold getV; rw [List.getElem?_set_self hl]
  have g1 : getV 1 (ρ.set 2 (.val d)) = some (.int K) := by
    unfold getV at h1 ⊢
    rw [List.getElem?_set_ne (by decide)]
    exact h1
  simp [g, g1, h]
theorem len_eqv (n m : Nat) : ((n : Int) == (m : Int)) = decide (n = m) := by
  rw [Bool.eq_iff_iff]
  simp
  omega
theorem len2 (r : Nat) : ((r : Int) + 1 + 1 == 2) = decide (r = 0) := by
  rw [Bool.eq_iff_iff]; simp; omega
theorem len3 (r : Nat) : ((r : Int) + 1 + 1 == 3) = decide (r = 1) := by
  rw [Bool.eq_iff_iff]; simp; omega
theorem isF_step (W : IsF T) (n k : Nat) (K : Int) (hK : K = (k : Int)) (ih : ∀ j, k = j + 1 → ∀ d, T.run (n + 1) 2 [d, .int (K - 1)] = some (.bool (isFm j d))) (d : PyData) : T.run (n + 2) 2 [d, .int K] = some (.bool (isFm k d)) := by
  rw [run_succ W.form (n + 1) _ rfl]
  cases d with
  | str s => cases k <;> simp [b_is_form_to, startR, isTy, isFm, eqv_strs, eq_comm (a := s)]
  | tuple ds =>
    cases ds with
    | nil => cases k <;> simp [b_is_form_to, startR, isTy, isFm]
    | cons h r =>
      cases r with
      | nil =>
        cases h with
        | str h =>
          cases k with
          | zero => simp [b_is_form_to, startR, isTy, isFm]
          | succ j =>
            have e : (decide (arity h ≠ 0) && decide (([] : List PyData).length = arity h)) = false := by
              by_cases c : arity h = 0
              · simp [c]
              · have : ¬ 0 = arity h := fun e => c e.symm
                simp [c, this]
            simp [b_is_form_to, startR, isTy, isFm]
            intros
            simp at e
            intro z
            exact absurd z (e ‹_›)
        | _ => cases k <;> simp [b_is_form_to, startR, isTy, isFm]
      | cons y r =>
        have l2 : ¬ ((r.length : Int) + 1 + 1 < 2) := by omega
        cases h with
        | str h =>
          have cw := fun ρ hl => comp_words W n ρ hl (y :: r)
          have e2 := len2 r.length
          have e3 := len3 r.length
          by_cases ha : h = Wd.s .a
          · subst ha
            by_cases c : r.length = 0
            · have e2' := e2.trans (decide_eq_true c)
              cases k <;> simp [b_is_form_to, startR, isTy, isFm, l2, eqv_strs, cw, all_map, e2', c, all_map_cons]
            · have e2' := e2.trans (decide_eq_false c)
              cases k <;> simp [b_is_form_to, startR, isTy, isFm, l2, eqv_strs, cw, all_map, e2', c]
          by_cases hb : h = Wd.s .b
          · subst hb
            by_cases c : r.length = 0
            · have e2' := e2.trans (decide_eq_true c)
              cases k <;> simp [b_is_form_to, startR, isTy, isFm, l2, eqv_strs, cw, all_map, e2', c, all_map_cons]
            · have e2' := e2.trans (decide_eq_false c)
              cases k <;> simp [b_is_form_to, startR, isTy, isFm, l2, eqv_strs, cw, all_map, e2', c]
          by_cases hto : h = Wd.s .to
          · subst hto
            by_cases c : r.length = 1
            · have e3' := e3.trans (decide_eq_true c)
              cases k <;> simp [b_is_form_to, startR, isTy, isFm, l2, eqv_strs, cw, all_map, e3', c, all_map_cons]
            · have e3' := e3.trans (decide_eq_false c)
              cases k <;> simp [b_is_form_to, startR, isTy, isFm, l2, eqv_strs, cw, all_map, e3', c]
          have ha' : ¬ Wd.s .a = h := fun e => ha e.symm
          have hb' : ¬ Wd.s .b = h := fun e => hb e.symm
          have ht' : ¬ Wd.s .to = h := fun e => hto e.symm
          cases k with
          | zero =>
            subst hK
            simp [b_is_form_to, startR, isTy, isFm, l2, eqv_strs, ha, hb, hto, ha', hb', ht']
          | succ j =>
            have hk0 : (K == 0) = false := by rw [hK]; simp; omega
            have cf := fun ρ hl h1 => comp_forms (T := T) (T.run (n + 1)) j K (ih j rfl) ρ hl h1 (y :: r)
            by_cases hn : h = Wd.s .not
            · subst hn
              by_cases c : r.length = 0
              · have e2' := e2.trans (decide_eq_true c)
                simp [b_is_form_to, startR, isTy, isFm, l2, eqv_strs, hk0, W.g4, cf, all_map, arity, e2', c, all_map_cons]
              · have e2' := e2.trans (decide_eq_false c)
                simp [b_is_form_to, startR, isTy, isFm, l2, eqv_strs, hk0, W.g4, cf, all_map, arity, e2', c]
            by_cases hbo : h = Wd.s .both
            · subst hbo
              by_cases c : r.length = 1
              · have e3' := e3.trans (decide_eq_true c)
                simp [b_is_form_to, startR, isTy, isFm, l2, eqv_strs, hk0, W.g4, cf, all_map, arity, e3', c, all_map_cons]
              · have e3' := e3.trans (decide_eq_false c)
                simp [b_is_form_to, startR, isTy, isFm, l2, eqv_strs, hk0, W.g4, cf, all_map, arity, e3', c]
            by_cases hei : h = Wd.s .either
            · subst hei
              by_cases c : r.length = 1
              · have e3' := e3.trans (decide_eq_true c)
                simp [b_is_form_to, startR, isTy, isFm, l2, eqv_strs, hk0, W.g4, cf, all_map, arity, e3', c, all_map_cons]
              · have e3' := e3.trans (decide_eq_false c)
                simp [b_is_form_to, startR, isTy, isFm, l2, eqv_strs, hk0, W.g4, cf, all_map, arity, e3', c]
            have hn' : ¬ Wd.s .not = h := fun e => hn e.symm
            have hbo' : ¬ Wd.s .both = h := fun e => hbo e.symm
            have hei' : ¬ Wd.s .either = h := fun e => hei e.symm
            simp [b_is_form_to, startR, isTy, isFm, l2, eqv_strs, ha, hb, hto, ha', hb', ht', hn, hbo, hei, hn', hbo', hei', hk0, W.g4, arity]
        | _ => cases k <;> simp [b_is_form_to, startR, isTy, isFm, l2]
  | _ => cases k <;> simp [b_is_form_to, startR, isTy, isFm]
theorem run_isF (W : IsF T) : ∀ (k : Nat) (n : Nat) (d : PyData) (K : Int), K = (k : Int) → T.run (n + k + 2) 2 [d, .int K] = some (.bool (isFm k d))
  | 0, n, d, K, hK => isF_step W n 0 K hK (fun j h => (by cases h)) d
  | k + 1, n, d, K, hK => by
    have := isF_step W (n + k + 1) (k + 1) K hK (fun j h d => by
      cases h
      exact run_isF W k n d (K - 1) (by omega)) d
    exact this

/-! ### the law's look at forms -/
theorem comp_nwords (run : Nat → List PyData → Option PyData) (ρ : Rho) (hl : 2 < ρ.length) (ds : List PyData) :
    compD T.G run (.nm 2) (.var 2) (.or (.not (.isI (.var 2) .str)) (.cmp .notin (.var 2) (.tup (.cons (.lit (.str (Wd.s .x))) (.cons (.lit (.str (Wd.s .y))) (.nil)))))) ρ ds = some (ds.filter fun d => !isWdD [.x, .y] d) := by
  rw [compD_filter _ _ (fun d => !isWdD [.x, .y] d) id, List.map_id]
  intro d _
  have g : getV 2 (ρ.set 2 (.val d)) = some d := by unfold getV; rw [List.getElem?_set_self hl]
  have gb : ∀ x, bor (.var 2) (ρ.set 2 (.val d)) x = x := fun x => by show (match (List.set ρ 2 (Sl.val d))[2]? with | some (Sl.own ds) => some (PyData.list ds) | _ => x) = x; rw [List.getElem?_set_self hl]
  refine ⟨_, rfl, ?_, fun _ => by simp [g]⟩
  cases d <;> simp [g, gb, isTy, isWdD, eqv_strs, copD_notin_t (inOk_str _ _)]
theorem comp_nforms {f : Nat} (run : Nat → List PyData → Option PyData) (k : Nat) (K : Int) (h : ∀ d, run f [d, .int (K - 1)] = some (.bool (isFm k d))) (ρ : Rho) (hl : 2 < ρ.length) (h1 : getV 1 ρ = some (.int K)) (ds : List PyData) :
    compD T.G run (.nm 2) (.var 2) (.not (.call f (.cons (.var 2) (.cons (.bin .sub (.var 1) (.lit (.int 1))) (.nil))))) ρ ds = some (ds.filter fun d => !isFm k d) := by
  rw [compD_filter _ _ (fun d => !isFm k d) id, List.map_id]
  intro d _
  have g : getV 2 (ρ.set 2 (.val d)) = some d := by unfold getV; rw [List.getElem?_set_self hl]
  have g1 : getV 1 (ρ.set 2 (.val d)) = some (.int K) := by
    unfold getV at h1 ⊢
    rw [List.getElem?_set_ne (by decide)]
    exact h1
  refine ⟨_, rfl, ?_, fun _ => by simp [g]⟩
  simp [g, g1, h]
theorem eq_nilF (p : PyData → Bool) (ds : List PyData) : PyData.eqv (.list (ds.filter fun d => !p d)) (.list []) = ds.all p := by rw [eqv_nilL, filter_emp]
theorem lisF_step (W : Has T 20 2 3 b_law_is_form) (n k : Nat) (K : Int) (hK : K = (k : Int)) (ih : ∀ j, k = j + 1 → ∀ d, T.run n 20 [d, .int (K - 1)] = some (.bool (isFm j d))) (d : PyData) : T.run (n + 1) 20 [d, .int K] = some (.bool (isFm k d)) := by
  rw [run_succ W n _ rfl]
  cases d with
  | str s =>
    by_cases c : s = Wd.s .yes
    · cases k <;> simp [b_law_is_form, startR, isTy, isFm, eqv_strs, c]
    · cases k <;> simp [b_law_is_form, startR, isTy, isFm, eqv_strs, c]
  | tuple ds =>
    cases ds with
    | nil => cases k <;> simp [b_law_is_form, startR, isTy, isFm]
    | cons h r =>
      cases r with
      | nil =>
        cases h with
        | str h =>
          cases k with
          | zero => simp [b_law_is_form, startR, isTy, isFm]
          | succ j =>
            have e : (decide (arity h ≠ 0) && decide (([] : List PyData).length = arity h)) = false := by
              by_cases c : arity h = 0
              · simp [c]
              · have : ¬ 0 = arity h := fun e => c e.symm
                simp [c, this]
            simp [b_law_is_form, startR, isTy, isFm]
            intros
            simp at e
            intro z
            exact absurd z (e ‹_›)
        | _ => cases k <;> simp [b_law_is_form, startR, isTy, isFm]
      | cons y r =>
        have l2 : ¬ ((r.length : Int) + 1 + 1 < 2) := by omega
        cases h with
        | str h =>
          have cw := fun ρ hl => comp_nwords (T := T) (T.run n) ρ hl (y :: r)
          have e2 := len2 r.length
          have e3 := len3 r.length
          have ef := eq_nilF (isWdD [.x, .y]) (y :: r)
          rw [List.all_cons] at ef
          by_cases ha : h = Wd.s .a
          · subst ha
            by_cases c : r.length = 0
            · have e2' := e2.trans (decide_eq_true c)
              cases k <;> simp [b_law_is_form, startR, isTy, isFm, l2, eqv_strs, cw, e2', c, ef]
            · have e2' := e2.trans (decide_eq_false c)
              cases k <;> simp [b_law_is_form, startR, isTy, isFm, l2, eqv_strs, cw, e2', c]
          by_cases hb : h = Wd.s .b
          · subst hb
            by_cases c : r.length = 0
            · have e2' := e2.trans (decide_eq_true c)
              cases k <;> simp [b_law_is_form, startR, isTy, isFm, l2, eqv_strs, cw, e2', c, ef]
            · have e2' := e2.trans (decide_eq_false c)
              cases k <;> simp [b_law_is_form, startR, isTy, isFm, l2, eqv_strs, cw, e2', c]
          by_cases hto : h = Wd.s .to
          · subst hto
            by_cases c : r.length = 1
            · have e3' := e3.trans (decide_eq_true c)
              cases k <;> simp [b_law_is_form, startR, isTy, isFm, l2, eqv_strs, cw, e3', c, ef]
            · have e3' := e3.trans (decide_eq_false c)
              cases k <;> simp [b_law_is_form, startR, isTy, isFm, l2, eqv_strs, cw, e3', c]
          have ha' : ¬ Wd.s .a = h := fun e => ha e.symm
          have hb' : ¬ Wd.s .b = h := fun e => hb e.symm
          have ht' : ¬ Wd.s .to = h := fun e => hto e.symm
          cases k with
          | zero =>
            subst hK
            simp [b_law_is_form, startR, isTy, isFm, l2, eqv_strs, ha, hb, hto, ha', hb', ht']
          | succ j =>
            have hk0 : (K == 0) = false := by rw [hK]; simp; omega
            have cf := fun ρ hl h1 => comp_nforms (T := T) (T.run n) j K (ih j rfl) ρ hl h1 (y :: r)
            have eg := eq_nilF (isFm j) (y :: r)
            rw [List.all_cons] at eg
            by_cases hn : h = Wd.s .not
            · subst hn
              by_cases c : r.length = 0
              · have e2' := e2.trans (decide_eq_true c)
                simp [b_law_is_form, startR, isTy, isFm, l2, eqv_strs, hk0, cf, arity, e2', c, eg]
              · have e2' := e2.trans (decide_eq_false c)
                simp [b_law_is_form, startR, isTy, isFm, l2, eqv_strs, hk0, cf, arity, e2', c]
            by_cases hbo : h = Wd.s .both
            · subst hbo
              by_cases c : r.length = 1
              · have e3' := e3.trans (decide_eq_true c)
                simp [b_law_is_form, startR, isTy, isFm, l2, eqv_strs, hk0, cf, arity, e3', c, eg]
              · have e3' := e3.trans (decide_eq_false c)
                simp [b_law_is_form, startR, isTy, isFm, l2, eqv_strs, hk0, cf, arity, e3', c]
            by_cases hei : h = Wd.s .either
            · subst hei
              by_cases c : r.length = 1
              · have e3' := e3.trans (decide_eq_true c)
                simp [b_law_is_form, startR, isTy, isFm, l2, eqv_strs, hk0, cf, arity, e3', c, eg]
              · have e3' := e3.trans (decide_eq_false c)
                simp [b_law_is_form, startR, isTy, isFm, l2, eqv_strs, hk0, cf, arity, e3', c]
            have hn' : ¬ Wd.s .not = h := fun e => hn e.symm
            have hbo' : ¬ Wd.s .both = h := fun e => hbo e.symm
            have hei' : ¬ Wd.s .either = h := fun e => hei e.symm
            have hz : ((r.length : Int) + 1 + 1 == 0) = false := by simp; omega
            simp [b_law_is_form, startR, isTy, isFm, l2, eqv_strs, ha, hb, hto, ha', hb', ht', hn, hbo, hei, hn', hbo', hei', hk0, arity, hz]
        | _ => cases k <;> simp [b_law_is_form, startR, isTy, isFm, l2]
  | _ => cases k <;> simp [b_law_is_form, startR, isTy, isFm]
theorem run_lisF (W : Has T 20 2 3 b_law_is_form) : ∀ (k : Nat) (n : Nat) (d : PyData) (K : Int), K = (k : Int) → T.run (n + k + 1) 20 [d, .int K] = some (.bool (isFm k d))
  | 0, n, d, K, hK => lisF_step W n 0 K hK (fun j h => (by cases h)) d
  | k + 1, n, d, K, hK => by
    have := lisF_step W (n + k + 1) (k + 1) K hK (fun j h d => by
      cases h
      exact run_lisF W k n d (K - 1) (by omega)) d
    exact this
end
end Ev

/-! PuU: what is a row, a world. -/
namespace Ev
open PySem
section
variable {T : Tab}

/-! ### demands, rows -/
def isDem : PyData → Bool
  | .tuple [a, b, f] => isWdD [.each, .some] a && (isWdD [.each, .some] b && isFm 5 f)
  | _ => false
def isMkD : PyData → Bool
  | .tuple [a, b, _] => PyData.eqv a (.str (Wd.s .some)) && PyData.eqv b (.str (Wd.s .each))
  | _ => false
def isRowD : PyData → Bool
  | .tuple ds => decide (ds.length ≤ 4) && (ds.all isDem && decide ((ds.filter isMkD).length ≤ 2))
  | _ => false
structure IsR (T : Tab) : Prop extends IsF T where
  fm : Has T 3 1 1 b_is_form
  dem : Has T 4 1 1 b_is_demand
  marks : Has T 5 1 3 b_marks_of
  row : Has T 6 1 2 b_is_row
  g0 : T.G 0 = some (.int 5)
  g1 : T.G 1 = some (.int 4)
  g2 : T.G 2 = some (.int 2)
  g6 : T.G 6 = some (.tuple [.str (Wd.s .each), .str (Wd.s .some)])
theorem run_isForm (W : IsR T) (n : Nat) (d : PyData) : T.run (n + 8) 3 [d] = some (.bool (isFm 5 d)) := by
  have e : T.run (n + 7) 2 [d, .int 5] = _ := run_isF W.toIsF 5 n d 5 rfl
  rw [run_succ W.fm (n + 7) _ rfl]
  simp [b_is_form, startR, W.g0, e]
theorem run_isDem (W : IsR T) (n : Nat) (d : PyData) : T.run (n + 9) 4 [d] = some (.bool (isDem d)) := by
  rw [run_succ W.dem (n + 8) _ rfl]
  have w := fun d => run_word W.word (n + 7) d [.each, .some]
  simp only [List.map_cons, List.map_nil] at w
  have f := fun d => run_isForm W n d
  cases d with
  | tuple ds =>
    rcases ds with _ | ⟨a, _ | ⟨b, _ | ⟨c, _ | ⟨x, r⟩⟩⟩⟩
    · simp [b_is_demand, startR, isTy, isDem]
    · simp [b_is_demand, startR, isTy, isDem]
    · simp [b_is_demand, startR, isTy, isDem]
    · cases h1 : isWdD [.each, .some] a <;> cases h2 : isWdD [.each, .some] b <;> simp [b_is_demand, startR, isTy, isDem, W.g6, w, f, h1, h2]
    · have l3 : ((r.length : Int) + 1 + 1 + 1 + 1 == 3) = false := by simp; omega
      simp [b_is_demand, startR, isTy, isDem, l3]
  | _ => simp [b_is_demand, startR, isTy, isDem]
theorem comp_marks (n : Nat) (run : Nat → List PyData → Option PyData) (s0 s1 s2 : Sl) : ∀ (ds : List PyData) (j : Nat), ds.all isDem = true → ∃ out, compD T.G run (.tp [1, 2]) (.var 1) (.cmp .eq (.slc (.var 2) (.omit) (.lit (.int 2))) (.tup (.cons (.lit (.str (Wd.s .some))) (.cons (.lit (.str (Wd.s .each))) (.nil))))) [s0, s1, s2] (enumD j ds) = some out ∧ out.length = (ds.filter isMkD).length
  | [], j, _ => ⟨[], rfl, rfl⟩
  | d :: ds, j, h => by
    rw [List.all_cons, Bool.and_eq_true] at h
    obtain ⟨out, e, l⟩ := comp_marks n run s0 s1 s2 ds (j + 1) h.2
    obtain ⟨a, b, f, rfl⟩ : ∃ a b f, d = .tuple [a, b, f] := by
      have h1 := h.1
      unfold isDem at h1
      split at h1
      · exact ⟨_, _, _, rfl⟩
      · cases h1
    rw [enumD, compD_cons]
    have hm : PyData.eqv (.tuple [a, b]) (.tuple [wS .some, wS .each]) = isMkD (.tuple [a, b, f]) := by simp [eqv_tt, isMkD, wS]
    cases c : isMkD (.tuple [a, b, f])
    · rw [c] at hm
      refine ⟨out, ?_, by rw [List.filter_cons_of_neg (by simp [c]), l]⟩
      simp [copD_se, hm, e]
    · rw [c] at hm
      refine ⟨.int j :: out, ?_, by rw [List.filter_cons_of_pos c, List.length_cons, List.length_cons, l]⟩
      simp [copD_se, hm, e]
theorem run_isRow (W : IsR T) (n : Nat) (d : PyData) : T.run (n + 10) 6 [d] = some (.bool (isRowD d)) := by
  rw [run_succ W.row (n + 9) _ rfl]
  cases d with
  | tuple ds =>
    have hc : ∀ ρ : Rho, 1 < ρ.length → compD T.G (T.run (n + 9)) (.nm 1) (.call 4 (.cons (.var 1) (.nil))) (.lit (.bool true)) ρ ds = some (ds.map fun d => .bool (isDem d)) := fun ρ hl => by
      refine compD_map _ _ _ ds fun d _ => ⟨_, rfl, rfl, ?_⟩
      have g : getV 1 (ρ.set 1 (.val d)) = some d := by unfold getV; rw [List.getElem?_set_self hl]
      have e := run_isDem W n d
      simp [g, e]
    by_cases c : ds.length ≤ 4
    · have c' : ¬ (4 < (ds.length : Int)) := by omega
      cases ha : ds.all isDem
      · simp [b_is_row, startR, isTy, isRowD, W.g1, c, c', hc, all_map, ha]
      · obtain ⟨out, e, l⟩ := comp_marks (T := T) n (T.run (n + 8)) (.val (.tuple ds)) .un .un ds 0 ha
        have em : T.run (n + 9) 5 [.tuple ds] = some (.list out) := by
          rw [run_succ W.marks (n + 8) _ rfl]
          simp [b_marks_of, startR, e]
        have l2 : decide ((out.length : Int) ≤ 2) = decide ((ds.filter isMkD).length ≤ 2) := by
          rw [l]
          by_cases z : (ds.filter isMkD).length ≤ 2
          · rw [decide_eq_true z, decide_eq_true (by omega)]
          · rw [decide_eq_false z, decide_eq_false (by omega)]
        simp [b_is_row, startR, isTy, isRowD, W.g1, W.g2, c, c', hc, all_map, ha, em, l2]
    · have c' : 4 < (ds.length : Int) := by omega
      simp [b_is_row, startR, isTy, isRowD, W.g1, c, c']
  | _ => simp [b_is_row, startR, isTy, isRowD]

/-! ### the law's look at rows -/
structure LIsR (T : Tab) : Prop where
  fm : Has T 20 2 3 b_law_is_form
  row : Has T 21 1 4 b_law_is_row
theorem wd_each (a : PyData) (G : Nat → Option PyData) (run : Nat → List PyData → Option PyData) (s0 s1 s2 : Sl) :
    evSs G run b_law_is_row_f0 [s0, s1, s2, .val a] = if isWdD [.each, .some] a then some (.nx [s0, s1, s2, .val a]) else some (.rt (.bool false)) := by
  cases a with
  | str s =>
    by_cases h1 : s = Wd.s .each
    · subst h1; simp [b_law_is_row_f0, isTy, isWdD, eqv_strs]
    · have h1' : ¬ Wd.s .each = s := fun e => h1 e.symm
      by_cases h2 : s = Wd.s .some
      · subst h2; simp [b_law_is_row_f0, isTy, isWdD, eqv_strs]
      · have h2' : ¬ Wd.s .some = s := fun e => h2 e.symm
        simp [b_law_is_row_f0, isTy, isWdD, eqv_strs, h1, h2, h1', h2']
  | _ => simp [b_law_is_row_f0, isTy, isWdD]
theorem lrow_body (W : LIsR T) (n : Nat) (d : PyData) (c : Int) (s0 s3 : Sl) : (isDem d = true ∧ ∃ s3', evSs T.G (T.run (n + 6)) b_law_is_row_f1 [s0, .val (.int c), .val d, s3] = some (.nx [s0, .val (.int (c + if isMkD d then 1 else 0)), .val d, s3'])) ∨
    (isDem d = false ∧ evSs T.G (T.run (n + 6)) b_law_is_row_f1 [s0, .val (.int c), .val d, s3] = some (.rt (.bool false))) := by
  have f : ∀ d, T.run (n + 6) 20 [d, .int 5] = _ := fun d => run_lisF W.fm 5 n d 5 rfl
  cases d with
  | tuple ds =>
    rcases ds with _ | ⟨a, _ | ⟨b, _ | ⟨x, _ | ⟨y, r⟩⟩⟩⟩
    · exact .inr ⟨rfl, by simp [b_law_is_row_f1, isTy]⟩
    · exact .inr ⟨rfl, by simp [b_law_is_row_f1, isTy]⟩
    · exact .inr ⟨rfl, by simp [b_law_is_row_f1, isTy]⟩
    · cases h3 : isFm 5 x
      · exact .inr ⟨by simp [isDem, h3], by simp [b_law_is_row_f1, isTy, f, h3]⟩
      · have w := fun s0 s1 s2 a => wd_each a T.G (T.run (n + 6)) s0 s1 s2
        cases h1 : isWdD [.each, .some] a
        · refine .inr ⟨by simp [isDem, h1], ?_⟩
          simp [b_law_is_row_f1, isTy, f, h3, loopD_cons, w, h1]
        · cases h2 : isWdD [.each, .some] b
          · refine .inr ⟨by simp [isDem, h1, h2], ?_⟩
            simp [b_law_is_row_f1, isTy, f, h3, loopD_cons, w, h1, h2]
          · refine .inl ⟨by simp [isDem, h1, h2, h3], .val b, ?_⟩
            cases e1 : PyData.eqv a (.str (Wd.s .some)) <;> cases e2 : PyData.eqv b (.str (Wd.s .each)) <;> simp [b_law_is_row_f1, isTy, f, h3, loopD_cons, loopD_nil, w, h1, h2, e1, e2, isMkD]
    · have l3 : ((r.length : Int) + 1 + 1 + 1 + 1 == 3) = false := by simp; omega
      exact .inr ⟨rfl, by simp [b_law_is_row_f1, isTy, l3]⟩
  | _ => exact .inr ⟨rfl, by simp [b_law_is_row_f1, isTy]⟩
theorem lrow_loop (W : LIsR T) (n : Nat) (s0 : Sl) : ∀ (ds : List PyData) (c : Int) (s2 s3 : Sl), ∃ o, loopD T.G (T.run (n + 6)) (.nm 2) b_law_is_row_f1 [s0, .val (.int c), s2, s3] ds = some o ∧
    ((ds.all isDem = true ∧ ∃ s2' s3', o = .nx [s0, .val (.int (c + (ds.filter isMkD).length)), s2', s3']) ∨ (ds.all isDem = false ∧ o = .rt (.bool false)))
  | [], c, s2, s3 => ⟨_, rfl, .inl ⟨rfl, s2, s3, by simp⟩⟩
  | d :: ds, c, s2, s3 => by
    rw [loopD_cons]
    rcases lrow_body W n d c s0 s3 with ⟨h1, s3', h2⟩ | ⟨h1, h2⟩
    · obtain ⟨o, e, h⟩ := lrow_loop W n s0 ds (c + if isMkD d then 1 else 0) (.val d) s3'
      refine ⟨o, by simp [h2, e], ?_⟩
      rcases h with ⟨h3, a, b, rfl⟩ | ⟨h3, rfl⟩
      · refine .inl ⟨by simp [h1, h3], a, b, ?_⟩
        cases m : isMkD d
        · rw [List.filter_cons_of_neg (by simp [m])]; simp
        · rw [List.filter_cons_of_pos m, List.length_cons]
          simp
          omega
      · exact .inr ⟨by rw [List.all_cons, h1, h3]; rfl, rfl⟩
    · exact ⟨.rt (.bool false), by simp [h2], .inr ⟨by rw [List.all_cons, h1]; rfl, rfl⟩⟩
theorem run_lisRow (W : LIsR T) (n : Nat) (d : PyData) : T.run (n + 7) 21 [d] = some (.bool (isRowD d)) := by
  rw [run_succ W.row (n + 6) _ rfl]
  cases d with
  | tuple ds =>
    by_cases c : ds.length ≤ 4
    · have c' : ¬ (4 < (ds.length : Int)) := by omega
      obtain ⟨o, e, h⟩ := lrow_loop W n (.val (.tuple ds)) ds 0 .un .un
      rcases h with ⟨h3, a, b, rfl⟩ | ⟨h3, rfl⟩
      · have l2 : decide ((((ds.filter isMkD).length : Nat) : Int) ≤ 2) = decide ((ds.filter isMkD).length ≤ 2) := by
          by_cases z : (ds.filter isMkD).length ≤ 2
          · rw [decide_eq_true z, decide_eq_true (by omega)]
          · rw [decide_eq_false z, decide_eq_false (by omega)]
        simp [b_law_is_row, startR, isTy, isRowD, c, c', e, h3, l2]
      · simp [b_law_is_row, startR, isTy, isRowD, c, c', e, h3]
    · have c' : 4 < (ds.length : Int) := by omega
      simp [b_law_is_row, startR, isTy, isRowD, c, c']
  | _ => simp [b_law_is_row, startR, isTy, isRowD]
end
end Ev

/-! PqA: reading a row's text, in plain words (law k03). -/
namespace Ev
open PySem
/-- a word that is a form by itself -/
def leafL : List (Str × Form) := [(Wd.s .yes, .yes), (Wd.s .no, .no), (Wd.s .a ++ Wd.s (nm false), .a false), (Wd.s .a ++ Wd.s (nm true), .a true), (Wd.s .b ++ Wd.s (nm false), .b false), (Wd.s .b ++ Wd.s (nm true), .b true),
  (Wd.s (nm false) ++ Wd.s (nm false), .to false false), (Wd.s (nm false) ++ Wd.s (nm true), .to false true), (Wd.s (nm true) ++ Wd.s (nm false), .to true false), (Wd.s (nm true) ++ Wd.s (nm true), .to true true)]
def leafOf (w : Str) : Option Form := (leafL.find? fun p => p.1 == w).map (·.2)
/-- a form at the head of some words, at most k - 1 deep -/
def parse : Nat → List Str → Option (Form × List Str)
  | 0, _ => none
  | _ + 1, [] => none
  | k + 1, w :: ws => match leafOf w with
    | some f => some (f, ws)
    | none => if w = Wd.s .not then (parse k ws).map fun p => (.not p.1, p.2)
      else if w = Wd.s .both then (parse k ws).bind fun p => (parse k p.2).map fun q => (.both p.1 q.1, q.2)
      else if w = Wd.s .either then (parse k ws).bind fun p => (parse k p.2).map fun q => (.either p.1 q.1, q.2)
      else none
theorem leaf_yes : leafOf (Wd.s .yes) = some .yes := by rfl
theorem leaf_no : leafOf (Wd.s .no) = some .no := by rfl
theorem leaf_a (v : Bool) : leafOf (Wd.s .a ++ Wd.s (nm v)) = some (.a v) := by cases v <;> rfl
theorem leaf_b (v : Bool) : leafOf (Wd.s .b ++ Wd.s (nm v)) = some (.b v) := by cases v <;> rfl
theorem leaf_to (u v : Bool) : leafOf (Wd.s (nm u) ++ Wd.s (nm v)) = some (.to u v) := by cases u <;> cases v <;> rfl
theorem leaf_not : leafOf (Wd.s .not) = none := by rfl
theorem leaf_both : leafOf (Wd.s .both) = none := by rfl
theorem leaf_either : leafOf (Wd.s .either) = none := by rfl
theorem parse_ws : ∀ (f : Form) (k : Nat) (ws : List Str), f.deep < k → parse k (f.ws ++ ws) = some (f, ws)
  | .yes, k + 1, ws, _ => by simp [Form.ws, parse, leaf_yes]
  | .no, k + 1, ws, _ => by simp [Form.ws, parse, leaf_no]
  | .a v, k + 1, ws, _ => by simp [Form.ws, parse, leaf_a]
  | .b v, k + 1, ws, _ => by simp [Form.ws, parse, leaf_b]
  | .to u v, k + 1, ws, _ => by simp [Form.ws, parse, leaf_to]
  | .not f, k + 1, ws, h => by
    have := parse_ws f k ws (by simp only [Form.deep] at h; omega)
    simp [Form.ws, parse, leaf_not, this]
  | .both f g, k + 1, ws, h => by
    simp only [Form.deep] at h
    have h1 := parse_ws f k (g.ws ++ ws) (by omega)
    have h2 := parse_ws g k ws (by omega)
    simp [Form.ws, parse, leaf_both, h1, h2]
  | .either f g, k + 1, ws, h => by
    simp only [Form.deep] at h
    have h1 := parse_ws f k (g.ws ++ ws) (by omega)
    have h2 := parse_ws g k ws (by omega)
    simp [Form.ws, parse, leaf_either, h1, h2]
/-- what was read is what was written -/
theorem leaf_some {w : Str} {f : Form} (h : leafOf w = some f) : f.ws = [w] ∧ f.deep = 0 := by
  obtain ⟨p, hp, rfl⟩ := Option.map_eq_some_iff.mp h
  have hm := List.mem_of_find?_eq_some hp
  have he := List.find?_some hp
  have he' : p.1 = w := eq_of_beq he
  subst he'
  simp only [leafL, List.mem_cons, List.not_mem_nil, or_false] at hm
  rcases hm with rfl | rfl | rfl | rfl | rfl | rfl | rfl | rfl | rfl | rfl <;> exact ⟨rfl, rfl⟩
theorem parse_some : ∀ {k : Nat} {ws : List Str} {f : Form} {r : List Str}, parse k ws = some (f, r) → ws = f.ws ++ r ∧ f.deep < k
  | k + 1, w :: ws, f, r, h => by
    unfold parse at h
    cases q : leafOf w with
    | some g =>
      rw [q] at h
      simp only [Option.some.injEq, Prod.mk.injEq] at h
      obtain ⟨rfl, rfl⟩ := h
      obtain ⟨h1, h2⟩ := leaf_some q
      rw [h1, h2]
      exact ⟨rfl, by omega⟩
    | none =>
      rw [q] at h
      dsimp only at h
      split at h
      · rename_i e
        obtain ⟨p, hp, e2⟩ := Option.map_eq_some_iff.mp h
        obtain ⟨h1, h2⟩ := parse_some (f := p.1) (r := p.2) hp
        cases e2
        subst e
        exact ⟨by rw [h1]; rfl, by simp only [Form.deep]; omega⟩
      · split at h
        · rename_i e
          obtain ⟨p, hp, h⟩ := Option.bind_eq_some_iff.mp h
          obtain ⟨p2, hp2, e2⟩ := Option.map_eq_some_iff.mp h
          obtain ⟨h1, h2⟩ := parse_some (f := p.1) (r := p.2) hp
          obtain ⟨h3, h4⟩ := parse_some (f := p2.1) (r := p2.2) hp2
          cases e2
          subst e
          refine ⟨by rw [h1, h3]; simp [Form.ws], by simp only [Form.deep]; omega⟩
        · split at h
          · rename_i e
            obtain ⟨p, hp, h⟩ := Option.bind_eq_some_iff.mp h
            obtain ⟨p2, hp2, e2⟩ := Option.map_eq_some_iff.mp h
            obtain ⟨h1, h2⟩ := parse_some (f := p.1) (r := p.2) hp
            obtain ⟨h3, h4⟩ := parse_some (f := p2.1) (r := p2.2) hp2
            cases e2
            subst e
            refine ⟨by rw [h1, h3]; simp [Form.ws], by simp only [Form.deep]; omega⟩
          · cases h
end Ev

/-! PqB: texts cut and joined; what read tells (law k03). -/
namespace Ev
open PySem
abbrev tL (x : Str) : List Nat := TL.tl x
/-- sep: a blank, a semicolon, a blank -/
theorem pre_semi {l : List Nat} (h : l.drop 1 |>.head? |> (· ≠ some 59)) : TL.pre [32, 59, 32] l = false := by
  cases hp : TL.pre [32, 59, 32] l with
  | false => rfl
  | true =>
    have e : l.take 3 = [32, 59, 32] := eq_of_beq hp
    match l, e with
    | a :: b :: c, e =>
      simp at e
      exact absurd (by simp [e.2.1]) h
theorem semi_at {p : List Nat} (h : 59 ∉ p) (q : List Nat) : ∀ i, i < p.length → TL.pre [32, 59, 32] ((p ++ ([32, 59, 32] ++ q)).drop i) = false := by
  intro i hi
  refine pre_semi ?_
  rw [List.drop_drop, List.head?_drop]
  by_cases c : i + 1 < p.length
  · rw [List.getElem?_append_left c]
    intro e
    exact h (List.mem_of_getElem? e)
  · have e : i + 1 = p.length := by omega
    rw [e, List.getElem?_append_right (Nat.le_refl _), Nat.sub_self]
    simp
theorem semi_last {p : List Nat} (h : 59 ∉ p) : ∀ i, i < p.length → TL.pre [32, 59, 32] (p.drop i) = false := by
  intro i hi
  refine pre_semi ?_
  rw [List.drop_drop, List.head?_drop]
  intro e
  exact h (List.mem_of_getElem? e)
theorem spl_semi : ∀ {parts : List (List Nat)}, parts ≠ [] → (∀ p ∈ parts, 59 ∉ p) → TL.spl [32, 59, 32] 0 [] (TL.joinL [32, 59, 32] parts) = parts
  | [], h, _ => absurd rfl h
  | [p], _, hp => by
    show TL.spl [32, 59, 32] 0 [] p = [p]
    rw [TL.spl_last (semi_last (hp p (by simp))), List.nil_append]
  | p :: q :: r, _, hp => by
    have ih := spl_semi (parts := q :: r) (by simp) fun x hx => hp x (List.mem_cons_of_mem _ hx)
    show TL.spl [32, 59, 32] 0 [] (p ++ ([32, 59, 32] ++ TL.joinL [32, 59, 32] (q :: r))) = _
    rw [TL.spl_part (by simp) (semi_at (hp p (by simp)) _), List.nil_append, ih]
theorem tl_semi : tL (Wd.s .semi) = [32, 59, 32] := by rfl
theorem tl_blank : tL (Wd.s .blank) = [32] := by rfl
theorem split_words {ws : List Str} (hne : ws ≠ []) (h : ∀ w ∈ ws, 32 ∉ tL w) : Txt.split (Str.join (Wd.s .blank) ws) (Wd.s .blank) = ws := by
  refine TL.map_tl_inj ?_
  rw [TL.split_spl _ _ (by rw [show TL.tl (Wd.s .blank) = [32] from tl_blank]; simp) (TL.kind_ok (by decide +kernel)), TL.tl_join, show TL.tl (Wd.s .blank) = [32] from tl_blank]
  exact TL.spl_join (by simpa using hne) fun p hp => by
    obtain ⟨w, hw, rfl⟩ := List.mem_map.mp hp
    exact h w hw
theorem split_parts {ps : List Str} (hne : ps ≠ []) (h : ∀ p ∈ ps, 59 ∉ tL p) : Txt.split (Str.join (Wd.s .semi) ps) (Wd.s .semi) = ps := by
  refine TL.map_tl_inj ?_
  rw [TL.split_spl _ _ (by rw [show TL.tl (Wd.s .semi) = [32, 59, 32] from tl_semi]; simp) (TL.kind_ok (by decide +kernel)), TL.tl_join, show TL.tl (Wd.s .semi) = [32, 59, 32] from tl_semi]
  exact spl_semi (by simpa using hne) fun p hp => by
    obtain ⟨w, hw, rfl⟩ := List.mem_map.mp hp
    exact h w hw
/-! ### what is read -/
def quant (w : Str) : Option Bool := if w = Wd.s .each then some false else if w = Wd.s .some then some true else none
def demR : List Str → Option Dem
  | a :: b :: ws => (parse 6 ws).bind fun p => if p.2 = [] then (quant a).bind fun x => (quant b).map fun y => ⟨x, y, p.1⟩ else none
  | _ => none
def partsR : List Str → Option (List Dem)
  | [] => some []
  | p :: ps => (demR (Txt.split p (Wd.s .blank))).bind fun d => (partsR ps).map fun r => d :: r
def readR (t : Str) : Option (List Dem) :=
  if t = Wd.s .dash then some [] else (partsR (Txt.split t (Wd.s .semi))).bind fun r => if r.length ≤ 4 ∧ (r.filter Dem.mark).length ≤ 2 then some r else none
theorem quant_qw (b : Bool) : quant (qw b).s = some b := by cases b <;> simp [quant, qw]
theorem quant_some {w : Str} {b : Bool} (h : quant w = some b) : w = (qw b).s := by
  unfold quant at h
  split at h
  · cases h; assumption
  · split at h
    · cases h; assumption
    · cases h
theorem demR_ws {d : Dem} (h : d.form.deep ≤ 5) : demR ((qw d.one).s :: (qw d.other).s :: d.form.ws) = some d := by
  have := parse_ws d.form 6 [] (by omega)
  rw [List.append_nil] at this
  simp [demR, this, quant_qw]
theorem demR_some {ws : List Str} {d : Dem} (h : demR ws = some d) : ws = (qw d.one).s :: (qw d.other).s :: d.form.ws ∧ d.form.deep ≤ 5 := by
  match ws, h with
  | a :: b :: ws, h =>
    obtain ⟨p, hp, h⟩ := Option.bind_eq_some_iff.mp h
    split at h
    · rename_i e
      obtain ⟨x, hx, h⟩ := Option.bind_eq_some_iff.mp h
      obtain ⟨y, hy, rfl⟩ := Option.map_eq_some_iff.mp h
      obtain ⟨h1, h2⟩ := parse_some (f := p.1) (r := p.2) hp
      rw [e, List.append_nil] at h1
      rw [quant_some hx, quant_some hy, h1]
      exact ⟨rfl, by show p.1.deep ≤ 5; omega⟩
    · cases h
/-- what was read is written as the text -/
theorem partsR_text : ∀ {ps : List Str} {r : List Dem}, partsR ps = some r → r.map Dem.text = ps ∧ ∀ d ∈ r, d.form.deep ≤ 5
  | [], r, h => by cases h; exact ⟨rfl, fun d hd => by cases hd⟩
  | p :: ps, r, h => by
    obtain ⟨d, hd, h⟩ := Option.bind_eq_some_iff.mp h
    obtain ⟨r', hr, rfl⟩ := Option.map_eq_some_iff.mp h
    obtain ⟨h1, h2⟩ := partsR_text hr
    obtain ⟨h3, h4⟩ := demR_some hd
    refine ⟨?_, fun e he => ?_⟩
    · rw [List.map_cons, h1, ← d.text_join, ← h3, PySem.StrLaws.join_split]
    · rcases List.mem_cons.mp he with rfl | he
      · exact h4
      · exact h2 e he
theorem split_ne (x y : Str) : Txt.split x y ≠ [] := fun e => by
  have := PyProof.Rows.split_pos x y
  rw [e] at this
  cases this
theorem readR_text {t : Str} {r : List Dem} (h : readR t = some r) : rowText r = t ∧ r.length ≤ 4 ∧ (r.filter Dem.mark).length ≤ 2 ∧ ∀ d ∈ r, d.form.deep ≤ 5 := by
  unfold readR at h
  split at h
  · rename_i e
    cases h
    exact ⟨by rw [e]; rfl, by simp, by simp, fun d hd => by cases hd⟩
  · obtain ⟨r', hr, h⟩ := Option.bind_eq_some_iff.mp h
    split at h
    · rename_i c
      cases h
      obtain ⟨h1, h2⟩ := partsR_text hr
      have ne : r ≠ [] := fun e => by
        rw [e] at h1
        exact split_ne _ _ h1.symm
      refine ⟨?_, c.1, c.2, h2⟩
      unfold rowText
      rw [if_neg ne, h1, PySem.StrLaws.join_split]
    · cases h
end Ev

/-! PqC: the text of a row is read back; the law's own reading (law k03). -/
namespace Ev
open PySem
def Plainw (w : Str) : Prop := 32 ∉ tL w ∧ 59 ∉ tL w
theorem Plainw.cat {a b : Str} (h : Plainw a) (g : Plainw b) : Plainw (a ++ b) := by
  constructor
  · intro z
    rw [show tL (a ++ b) = tL a ++ tL b from TL.tl_append a b] at z
    exact (List.mem_append.mp z).elim h.1 g.1
  · intro z
    rw [show tL (a ++ b) = tL a ++ tL b from TL.tl_append a b] at z
    exact (List.mem_append.mp z).elim h.2 g.2
theorem pw_yes : Plainw (Wd.s .yes) := ⟨by decide +kernel, by decide +kernel⟩
theorem pw_no : Plainw (Wd.s .no) := ⟨by decide +kernel, by decide +kernel⟩
theorem pw_a : Plainw (Wd.s .a) := ⟨by decide +kernel, by decide +kernel⟩
theorem pw_b : Plainw (Wd.s .b) := ⟨by decide +kernel, by decide +kernel⟩
theorem pw_nm (v : Bool) : Plainw (Wd.s (nm v)) := by cases v <;> exact ⟨by decide +kernel, by decide +kernel⟩
theorem pw_qw (v : Bool) : Plainw (Wd.s (qw v)) := by cases v <;> exact ⟨by decide +kernel, by decide +kernel⟩
theorem pw_not : Plainw (Wd.s .not) := ⟨by decide +kernel, by decide +kernel⟩
theorem pw_both : Plainw (Wd.s .both) := ⟨by decide +kernel, by decide +kernel⟩
theorem pw_either : Plainw (Wd.s .either) := ⟨by decide +kernel, by decide +kernel⟩
theorem ws_plain : ∀ (f : Form) (w : Str), w ∈ f.ws → Plainw w
  | .yes, w, h => by rw [Form.ws, List.mem_singleton] at h; subst h; exact pw_yes
  | .no, w, h => by rw [Form.ws, List.mem_singleton] at h; subst h; exact pw_no
  | .a v, w, h => by rw [Form.ws, List.mem_singleton] at h; subst h; exact pw_a.cat (pw_nm v)
  | .b v, w, h => by rw [Form.ws, List.mem_singleton] at h; subst h; exact pw_b.cat (pw_nm v)
  | .to u v, w, h => by rw [Form.ws, List.mem_singleton] at h; subst h; exact (pw_nm u).cat (pw_nm v)
  | .not f, w, h => by
    rcases List.mem_cons.mp h with rfl | h
    · exact pw_not
    · exact ws_plain f w h
  | .both f g, w, h => by
    rcases List.mem_cons.mp h with rfl | h
    · exact pw_both
    · exact (List.mem_append.mp h).elim (ws_plain f w) (ws_plain g w)
  | .either f g, w, h => by
    rcases List.mem_cons.mp h with rfl | h
    · exact pw_either
    · exact (List.mem_append.mp h).elim (ws_plain f w) (ws_plain g w)
def Dem.words (d : Dem) : List Str := (qw d.one).s :: (qw d.other).s :: d.form.ws
theorem words_plain (d : Dem) : ∀ w ∈ d.words, Plainw w := by
  intro w h
  rcases List.mem_cons.mp h with rfl | h
  · exact pw_qw _
  · rcases List.mem_cons.mp h with rfl | h
    · exact pw_qw _
    · exact ws_plain _ _ h
theorem split_dem (d : Dem) : Txt.split d.text (Wd.s .blank) = d.words := by
  rw [← d.text_join]
  exact split_words (by simp) fun w hw => (words_plain d w hw).1
theorem join_no59 : ∀ {ws : List Str}, (∀ w ∈ ws, 59 ∉ tL w) → 59 ∉ tL (Str.join (Wd.s .blank) ws)
  | [], _ => by decide +kernel
  | [w], h => h w (by simp)
  | w :: v :: ws, h => by
    have ih := join_no59 (ws := v :: ws) fun x hx => h x (List.mem_cons_of_mem _ hx)
    rw [join_cons2]
    intro z
    rw [show tL (w ++ Wd.s .blank ++ Str.join (Wd.s .blank) (v :: ws)) = tL w ++ tL (Wd.s .blank) ++ tL (Str.join (Wd.s .blank) (v :: ws)) by
      rw [show tL (w ++ Wd.s .blank ++ Str.join (Wd.s .blank) (v :: ws)) = tL (w ++ Wd.s .blank) ++ tL (Str.join (Wd.s .blank) (v :: ws)) from TL.tl_append _ _, show tL (w ++ Wd.s .blank) = tL w ++ tL (Wd.s .blank) from TL.tl_append _ _]] at z
    rcases List.mem_append.mp z with z | z
    · rcases List.mem_append.mp z with z | z
      · exact h w (by simp) z
      · rw [tl_blank] at z; simp at z
    · exact ih z
theorem text_no59 (d : Dem) : 59 ∉ tL d.text := by
  rw [← d.text_join]
  exact join_no59 fun w hw => (words_plain d w hw).2
theorem partsR_map : ∀ {r : List Dem}, (∀ d ∈ r, d.form.deep ≤ 5) → partsR (r.map Dem.text) = some r
  | [], _ => rfl
  | d :: r, h => by
    have h1 := demR_ws (h d (by simp))
    have h2 := partsR_map fun e he => h e (List.mem_cons_of_mem _ he)
    have h3 := split_dem d
    unfold Dem.words at h3
    rw [List.map_cons, partsR, h3, h1, h2]
    rfl
theorem text_dash (d : Dem) (r : List Dem) : ¬ Str.join (Wd.s .semi) ((d :: r).map Dem.text) = Wd.s .dash := by
  intro e
  have h := congrArg tL e
  have h2 : ∃ rest, tL (Str.join (Wd.s .semi) ((d :: r).map Dem.text)) = tL ((qw d.one).s) ++ rest := by
    have hd : ∃ rest, tL d.text = tL ((qw d.one).s) ++ rest := by
      unfold Dem.text
      refine ⟨tL (Wd.s .blank ++ (qw d.other).s ++ Wd.s .blank ++ d.form.text), ?_⟩
      rw [← show tL ((qw d.one).s ++ (Wd.s .blank ++ (qw d.other).s ++ Wd.s .blank ++ d.form.text)) = _ from TL.tl_append _ _]
      simp only [Str.asc]
    obtain ⟨rest, hd⟩ := hd
    cases r with
    | nil => exact ⟨rest, hd⟩
    | cons d2 r =>
      refine ⟨rest ++ tL (Wd.s .semi) ++ tL (Str.join (Wd.s .semi) ((d2 :: r).map Dem.text)), ?_⟩
      rw [List.map_cons, List.map_cons, join_cons2, show tL (d.text ++ Wd.s .semi ++ Str.join (Wd.s .semi) (d2.text :: r.map Dem.text)) = tL (d.text ++ Wd.s .semi) ++ tL (Str.join (Wd.s .semi) (d2.text :: r.map Dem.text)) from TL.tl_append _ _,
        show tL (d.text ++ Wd.s .semi) = tL d.text ++ tL (Wd.s .semi) from TL.tl_append _ _, hd]
      simp [List.append_assoc]
  obtain ⟨rest, h2⟩ := h2
  rw [h2] at h
  have h3 : tL ((qw d.one).s) = [101, 97, 99, 104] ∨ tL ((qw d.one).s) = [115, 111, 109, 101] := by
    cases d.one
    · exact .inl (by decide +kernel)
    · exact .inr (by decide +kernel)
  have h4 : tL (Wd.s .dash) = [45] := by decide +kernel
  rw [h4] at h
  rcases h3 with h3 | h3 <;> rw [h3] at h <;> simp at h
theorem readR_row {r : List Dem} (hd : ∀ d ∈ r, d.form.deep ≤ 5) : readR (rowText r) = if r.length ≤ 4 ∧ (r.filter Dem.mark).length ≤ 2 then some r else none := by
  cases r with
  | nil => rfl
  | cons d r =>
    unfold readR rowText
    rw [if_neg (by simp : ¬ d :: r = []), if_neg (text_dash d r), split_parts (by simp) (fun p hp => by
      obtain ⟨e, _, rfl⟩ := List.mem_map.mp hp
      exact text_no59 e), partsR_map hd]
    rfl
end Ev

/-! ErA: a thing that changes beside what is frozen; the reader and its next word. -/
namespace Ev
open PySem PySem.Spec PyProof.Rows L2
/-- without what stands at x -/
def hide (x : Addr) (H : Hp) : Hp := fun p => if p = x then none else H p
theorem hide_some {x p : Addr} {H : Hp} {o : HO} (h : hide x H p = some o) : p ≠ x ∧ H p = some o := by
  unfold hide at h
  by_cases c : p = x
  · rw [if_pos c] at h; cases h
  · rw [if_neg c] at h; exact ⟨c, h⟩
theorem hide_of {x p : Addr} {H : Hp} (h : p ≠ x) : hide x H p = H p := if_neg h
theorem hide_none {x p : Addr} {H : Hp} (h : H p = none) : hide x H p = none := by
  unfold hide
  by_cases c : p = x
  · rw [if_pos c]
  · rw [if_neg c]; exact h
theorem hide_self {x : Addr} {H : Hp} : hide x H x = none := if_pos rfl
/-- all but x stands, what is new may be frozen -/
abbrev ExtX (x : Addr) (H Hf H' Hf' : Hp) : Prop := Ext (hide x H) Hf H' Hf'
theorem Sub.hide {H Hf : Hp} (s : Sub H Hf) {x : Addr} (n : Hf x = none) : Sub (hide x H) Hf :=
  ⟨fun p o h => by
    have c : p ≠ x := fun e => by subst e; rw [n] at h; cases h
    rw [hide_of c]; exact s.same p o h, trivial, s.hd⟩
theorem Ext.toX {H Hf H' Hf' : Hp} (e : Ext H Hf H' Hf') {x : Addr} (n : Hf x = none) : ExtX x H Hf H' Hf' :=
  ⟨fun p o h => e.gr p o (hide_some h).2, e.fr, e.i0.hide n, e.sub, fun p o h => (e.new p o h).imp id hide_none, fun p h => h.elim⟩
theorem ExtX.refl {H Hf : Hp} (s : Sub H Hf) {x : Addr} (n : Hf x = none) : ExtX x H Hf H Hf := (Ext.refl s).toX n
/-- behind a state in which x was not yet -/
theorem Ext.thenX {H0 Hf0 H Hf H' Hf' : Hp} {x : Addr} (e : Ext H0 Hf0 H Hf) (h0 : H0 x = none) (n : Hf x = none) (e' : ExtX x H Hf H' Hf') : Ext H0 Hf0 H' Hf' :=
  Ext.trans ⟨fun p o h => by
      have c : p ≠ x := fun z => by subst z; rw [h0] at h; cases h
      rw [hide_of c]; exact e.gr p o h, e.fr, e.i0, e.sub.hide n, fun p o h => e.new p o h, fun p h => h.elim⟩ e'
theorem ExtX.trans {H Hf H1 Hf1 H2 Hf2 : Hp} {x : Addr} (e : ExtX x H Hf H1 Hf1) (n : Hf1 x = none) (e' : ExtX x H1 Hf1 H2 Hf2) : ExtX x H Hf H2 Hf2 := e.thenX hide_self n e'
theorem ExtX.poke {H Hf : Hp} (s : Sub H Hf) {x : Addr} (n : Hf x = none) (o : HO) : ExtX x H Hf (upd H x o) Hf :=
  ⟨fun p u h => by
      obtain ⟨c, h⟩ := hide_some h
      rw [upd_ne c]; exact .inl h, Same.refl _, s.hide n,
    ⟨fun p u h => by
      have c : p ≠ x := fun e => by subst e; rw [n] at h; cases h
      rw [upd_ne c]; exact s.same p u h, trivial, s.hd⟩, fun p u h => .inl h, fun p h => h.elim⟩
/-! ### the reader -/
def rfs (p : Addr) (i : Nat) : List (Str × V) := [("words", .ref p), ("at", .int (i : Nat))]
structure RdAt (K : PySem.W.Frag) (C x dx p : Addr) (ws : List Str) (H Hf : Hp) (i : Nat) : Prop where
  at_ : H x = some (.ins C dx (rfs p i))
  nf : Hf x = none
  wr : Rp K Hf (.ref p) (.list (ws.map .str))
  le : i ≤ ws.length
theorem RdAt.ext {K : PySem.W.Frag} {C x dx p : Addr} {ws : List Str} {H Hf H' Hf' : Hp} {i : Nat} (r : RdAt K C x dx p ws H Hf i) (e : Ext H Hf H' Hf') : RdAt K C x dx p ws H' Hf' i :=
  ⟨e.hs x _ trivial r.at_, e.unf r.at_ r.nf, r.wr.mono e.fr _ _, r.le⟩
/-- what is known of the classes -/
structure RCls (K : PySem.W.Frag) (mg : Str → Option Value) (CR CN : Addr) : Prop where
  cl : Cls K CR
  nw : NoAttr K CR "words"
  na : NoAttr K CR "at"
  gN : mg "NoText" = some (.ref CN)
  xN : PySem.W.excIn K CN [.type "ValueError", .type "Exception", .type "BaseException", .type "object"] "ValueError.__new__" = true
  kN : PySem.W.keepIn K (.ref CN) = true
  bN : PySem.W.subIn K (.ref CN) (.type "BaseException") = some true
  tN : PySem.W.typeIn K (.ref CN) = some (.type "type")
  len : mg "len" = none
def slotB (N : List Str) (i : Nat) (sc : Scope) (s : Str) : Bool := decide (N[i]? = some s) && visB sc s && !dbgB s
theorem slot_pe {X : Cx} {i : Nat} {s : Str} {pos : Pos} (h : slotB X.N i X.env.scope s = true) : PE X (.Name s pos) (tVar i) := by
  simp only [slotB, Bool.and_eq_true, decide_eq_true_eq] at h
  obtain ⟨⟨h1, h2⟩, h3⟩ := h
  exact pe_var h1 (vis_of h2) (dbg_of h3).1 (dbg_of h3).2
theorem sw_at {v : Expr} {o : Expr} {f : Str} {p : Pos} {l : Nat} {env : Env} : swapsWith v (some (.Attribute o f p)) l env = pure false := by
  cases v <;> rfl
section
variable {K : PySem.W.Frag} {mg : Str → Option Value} {CR CN : Addr}
/-- raise NoText(..) -/
theorem ps_noText {X : Cx} {W : WX} {m : Str} {j : Nat} {p p2 pos pos2 : Pos} (R : RCls X.K X.mg CR CN) (hc : X.calm = true) (tk : Takes X W) (hg : glB X.env.scope "NoText" = true) :
    PS X (.Raise (some (.Call (.Name "NoText" p) [.Constant (.str m) j p2] [] pos)) none pos2) (fun _ σ H => W (.ref CN) none σ H) :=
  ps_raise hc tk (pmk_own PySem.F.excBase_ValueError R.xN R.gN R.kN (raises_own R.bN R.tN) (gl_of hg))
def nW : List Str := ["self"]
/-- the next word -/
def spWord (K : PySem.W.Frag) (CR CN : Addr) : Sp := fun vs H Q E => ∃ Hf x dx p ws i, vs = [.ref x] ∧ Sub H Hf ∧ RdAt K CR x dx p ws H Hf i ∧ (ws.length = i → E (.ref CN) none H) ∧ ∀ w, ws[i]? = some w → Q (.str w) (upd H x (.ins CR dx (rfs p (i + 1))))
theorem word_ok {P : Program} {w : World} {base : Heap} {q : Str} {st : Stmt} {f : Addr} {fd : FuncData} (R : RCls K mg CR CN) (D : Fun K "word" q st f fd) (hS : scopeB nW ["self"] (defScope st) = true) (h1 : slotB nW 0 (defScope st) "self" = true) (h2 : glB (defScope st) "NoText" = true) (h3 : glB (defScope st) "len" = true)
    {p1 p2 p3 p4 p5 p6 p7 p8 p9 q1 q2 q3 q4 q5 q6 q7 q8 q9 r1 r2 r3 r4 r5 r6 r7 r8 r9 : Pos} {m : Str} {j1 j2 j3 : Nat}
    (hst : defBody st = [.If (.Compare (.Attribute (.Name "self" p1) "at" p2) [.Eq] [.Call (.Name "len" p3) [.Attribute (.Name "self" p4) "words" p5] [] p6] p7) [.Raise (some (.Call (.Name "NoText" p8) [.Constant (.str m) j1 p9] [] q1)) none q2] [] q3,
      .Assign [.Attribute (.Name "self" q4) "at" q5] (.BinOp (.Attribute (.Name "self" q6) "at" q7) .Add (.Constant (.int 1) j2 q8) q9) r1,
      .Return (some (.Subscript (.Attribute (.Name "self" r2) "words" r3) (.BinOp (.Attribute (.Name "self" r4) "at" r5) .Sub (.Constant (.int 1) j3 r6) r7) r8)) r9]) :
    FnOk P w K mg base (L2.CX P w) 1 f fd ["self"] (spWord K CR CN) := by
  have S := scope_of hS
  refine D.okX S (fun vs H Q E ⟨Hf, x, dx, p, ws, i, e, _⟩ => by rw [e]; rfl) fun cdv A outer s H vs Q E hr h => ?_
  obtain ⟨Hf, x, dx, p, ws, i, rfl, sub, rd, hraise, hret⟩ := h
  generalize hX : cxOf (L2.CX P w) P w K mg base nW q (defScope st) f cdv A outer s H E = X
  have eK : X.K = K := by subst hX; rfl
  have eM : X.mg = mg := by subst hX; rfl
  have eN : X.N = nW := by subst hX; rfl
  have eS : X.env.scope = defScope st := by subst hX; rfl
  have eC : X.calm = true := by subst hX; rfl
  have tk : Takes X (fun cls d _ H => E cls d H) := by subst hX; exact takes_of rfl rfl rfl rfl
  have RX : RCls X.K X.mg CR CN := by rw [eK, eM]; exact R
  rw [← eS] at h1 h2 h3
  rw [← eN] at h1
  have self : ∀ {pos : Pos}, PE X (.Name "self" pos) (tVar 0) := fun {pos} => slot_pe h1
  rw [hst]
  refine ⟨_, pss_cons (ps_if (pt_cmpR op_eq (pe_fld self rfl) (pe_callB call_len_seq (gl_of h3) RX.len PySem.boot_len (pa_cons (pe_fld self rfl) pa_nil)) (nomark _)) (pss_one (ps_noText RX eC tk h2)) pss_nil)
    (pss_cons (ps_fld self (pe_op op_add (pe_fld self rfl) pe_int) sw_at) (pss_one (ps_ret (pe_ix ix_list (pe_fld self rfl) (pe_op op_sub (pe_fld self rfl) pe_int) (fun _ _ => rfl))))), ?_⟩
  have s0 : (L2.start nW [V.ref x])[0]? = some (some (.ref x)) := rfl
  rw [eK]
  obtain ⟨q, vs, e, sl, z, rr⟩ : ∃ q vs, V.ref p = .ref q ∧ SqL K Hf q vs ∧ vs.length ≤ sizeLine ∧ RpAll K Hf vs (ws.map .str) := by
    have := rd.wr
    cases this with
    | lst a b c => exact ⟨_, _, rfl, a, b, c⟩
  cases e
  have evs := rr.strs
  subst evs
  have slH := sub.seq sl
  refine ⟨.ref x, s0, x, CR, dx, _, _, rfl, rd.at_, R.cl, R.na, rfl, ?_⟩
  refine ⟨.ref x, s0, x, CR, dx, _, _, rfl, rd.at_, R.cl, R.nw, rfl, ?_⟩
  refine ⟨p, _, rfl, .inl slH, ?_⟩
  refine ⟨rfl, _, rfl, ?_⟩
  refine ite2 (fun c => ?_) fun c => ?_
  · have c := of_decide_eq_true c
    have c : (i : Int) = ((ws.map V.str).length : Nat) := by injection c
    rw [List.length_map] at c
    exact hraise (by omega)
  · have c : ¬ (i : Int) = ((ws.map V.str).length : Nat) := fun z => c (by rw [z]; exact decide_eq_true rfl)
    rw [List.length_map] at c
    have hi : i < ws.length := by have := rd.le; omega
    refine ⟨.ref x, s0, x, CR, dx, _, _, rfl, rd.at_, R.cl, R.na, rfl, _, _, rfl, rfl, ?_⟩
    refine ⟨.ref x, s0, x, CR, dx, _, rfl, rd.at_, R.cl, R.na, by simp [rfs], ?_⟩
    have ef : putF "at" (.int ((i : Int) + 1)) (rfs p i) = rfs p (i + 1) := rfl
    rw [ef]
    have sub' : Sub (upd H x (.ins CR dx (rfs p (i + 1)))) Hf := (ExtX.poke sub rd.nf _).sub
    obtain ⟨w, hw⟩ : ∃ w, ws[i]? = some w := ⟨ws[i], List.getElem?_eq_getElem hi⟩
    refine ⟨.ref x, s0, x, CR, dx, _, _, rfl, upd_same, R.cl, R.nw, rfl, ?_⟩
    refine ⟨.ref x, s0, x, CR, dx, _, _, rfl, upd_same, R.cl, R.na, rfl, _, _, rfl, rfl, ?_⟩
    refine ⟨p, _, _, _, rfl, rfl, sub'.seq sl, ?_, hret w hw⟩
    have e2 : ((i + 1 : Nat) : Int) - 1 = (i : Nat) := by omega
    rw [e2]
    exact atI_nat (by rw [List.getElem?_map, hw]; rfl)
end
end Ev

/-! ErB: what a reader asks of a word. -/
namespace Ev
open PySem
def pX0 : PX := .cmp .lt (.var 1) (.lit (.int 0))
def pX1 : PX := .cmp .isin (.var 2) (.tup (.cons (.lit (.str (Wd.s .yes))) (.cons (.lit (.str (Wd.s .no))) .nil)))
def pX2 : PX := .inG false (.var 2) 4
def pX3 : PX := .bin .sub (.var 1) (.lit (.int 1))
def pX4 : PX := .pickG 4 (.var 2)
def pX5 : PX := .and (.cmp .eq (.blt .len (.var 2)) (.lit (.int 2))) (.and (.cmp .isin (.ix (.var 2) (.lit (.int 0))) (.glb 5)) (.cmp .isin (.ix (.var 2) (.lit (.int 1))) (.glb 5)))
def pX6 : PX := .tup (.cons (.lit (.str (Wd.s .to))) (.cons (.ix (.var 2) (.lit (.int 0))) (.cons (.ix (.var 2) (.lit (.int 1))) .nil)))
def pX7 : PX := .and (.cmp .eq (.blt .len (.var 2)) (.lit (.int 2))) (.and (.cmp .isin (.ix (.var 2) (.lit (.int 0))) (.tup (.cons (.lit (.str (Wd.s .a))) (.cons (.lit (.str (Wd.s .b))) .nil)))) (.cmp .isin (.ix (.var 2) (.lit (.int 1))) (.glb 5)))
def pX8 : PX := .tup (.cons (.ix (.var 2) (.lit (.int 0))) (.cons (.ix (.var 2) (.lit (.int 1))) .nil))
def pX9 : PX := .tup (.cons (.var 2) .nil)
structure GW (G : Nat → Option PyData) : Prop where
  g0 : G 0 = some (.int 5)
  g4 : G 4 = some (.dict [(.str (Wd.s .not), .int 1), (.str (Wd.s .both), .int 2), (.str (Wd.s .either), .int 2)])
  g5 : G 5 = some (.tuple [.str (Wd.s .x), .str (Wd.s .y)])
  g6 : G 6 = some (.tuple [.str (Wd.s .each), .str (Wd.s .some)])
abbrev ρF (d : Int) (w : Str) : Rho := [.un, .val (.int d), .val (.str w), .un]
/-- a sign -/
def sg (c : Nat) : Str := ⟨#[c]⟩
theorem sg_nm (v : Bool) : Wd.s (nm v) = sg (if v then 121 else 120) := by cases v <;> rfl
theorem sg_a : Wd.s .a = sg 97 := rfl
theorem sg_b : Wd.s .b = sg 98 := rfl
theorem sg_inj {c d : Nat} (h : sg c = sg d) : c = d := by
  have := congrArg (fun s : Str => s.cps.toList) h
  simpa [sg] using this
theorem two_of {w : Str} (h : w.length = 2) : ∃ c d, w = sg c ++ sg d := by
  obtain ⟨l⟩ := w
  obtain ⟨l⟩ := l
  match l, h with
  | [c, d], _ => exact ⟨c, d, rfl⟩
def isNm (c : Nat) : Bool := decide (c = 120) || decide (c = 121)
def isAb (c : Nat) : Bool := decide (c = 97) || decide (c = 98)
theorem at_two (c d : Nat) : ixD (.str (sg c ++ sg d)) (.int 0) = some (.str (sg c)) ∧ ixD (.str (sg c ++ sg d)) (.int 1) = some (.str (sg d)) := ⟨rfl, rfl⟩
theorem len_two (c d : Nat) : (sg c ++ sg d).length = 2 := rfl
theorem nmq (c : Nat) : ((PyData.str (Wd.s .x)).eqv (.str (sg c)) || (PyData.str (Wd.s .y)).eqv (.str (sg c))) = isNm c := by
  have h : ∀ x, (Wd.s .x = sg x) = (x = 120) := fun x => propext ⟨fun e => (sg_inj e).symm, fun e => by subst e; rfl⟩
  have h2 : ∀ x, (Wd.s .y = sg x) = (x = 121) := fun x => propext ⟨fun e => (sg_inj e).symm, fun e => by subst e; rfl⟩
  simp [eqv_strs, h, h2, isNm]
theorem abq (c : Nat) : ((PyData.str (Wd.s .a)).eqv (.str (sg c)) || (PyData.str (Wd.s .b)).eqv (.str (sg c))) = isAb c := by
  have h : ∀ x, (Wd.s .a = sg x) = (x = 97) := fun x => propext ⟨fun e => (sg_inj e).symm, fun e => by subst e; rfl⟩
  have h2 : ∀ x, (Wd.s .b = sg x) = (x = 98) := fun x => propext ⟨fun e => (sg_inj e).symm, fun e => by subst e; rfl⟩
  simp [eqv_strs, h, h2, isAb]
theorem in_nm (c : Nat) : cop .isin (.str (sg c)) (.tuple [.str (Wd.s .x), .str (Wd.s .y)]) = some (isNm c) := by
  have h : ∀ x, (Wd.s .x = sg x) = (x = 120) := fun x => propext ⟨fun e => (sg_inj e).symm, fun e => by subst e; rfl⟩
  have h2 : ∀ x, (Wd.s .y = sg x) = (x = 121) := fun x => propext ⟨fun e => (sg_inj e).symm, fun e => by subst e; rfl⟩
  simp [cop, inOk, PyData.depthAll, PyData.depth, eqv_strs, h, h2, isNm]
theorem in_ab (c : Nat) : cop .isin (.str (sg c)) (.tuple [.str (Wd.s .a), .str (Wd.s .b)]) = some (isAb c) := by
  have h : ∀ x, (Wd.s .a = sg x) = (x = 97) := fun x => propext ⟨fun e => (sg_inj e).symm, fun e => by subst e; rfl⟩
  have h2 : ∀ x, (Wd.s .b = sg x) = (x = 98) := fun x => propext ⟨fun e => (sg_inj e).symm, fun e => by subst e; rfl⟩
  simp [cop, inOk, PyData.depthAll, PyData.depth, eqv_strs, h, h2, isAb]
section
variable {G : Nat → Option PyData} {run : Nat → List PyData → Option PyData}
theorem ev0 (d : Int) (s2 s3 : Sl) : evE G run pX0 [.un, .val (.int d), s2, s3] = some (.bool (decide (d < 0))) := by simp [pX0, cop]
theorem ev1 (d : Int) (w : Str) : evE G run pX1 (ρF d w) = some (.bool (decide (w = Wd.s .yes) || decide (w = Wd.s .no))) := by
  simp [pX1, ρF, cop, inOk, PyData.depthAll, PyData.depth, eqv_strs, eq_comm]
theorem ev2 (W : GW G) (d : Int) (w : Str) : evE G run pX2 (ρF d w) = some (.bool (decide (w = Wd.s .not) || (decide (w = Wd.s .both) || decide (w = Wd.s .either)))) := by
  have h : evE G run pX2 (ρF d w) = gdHas false (G 4) (.str w) := by simp [pX2, ρF]
  rw [h, W.g4]
  simp only [gdHas, dkGet]
  by_cases c1 : Wd.s .not = w
  · subst c1; simp
  · by_cases c2 : Wd.s .both = w
    · subst c2; simp
    · by_cases c3 : Wd.s .either = w
      · subst c3; simp
      · simp [c1, c2, c3, Ne.symm c1, Ne.symm c2, Ne.symm c3]
theorem ev4 (W : GW G) (d : Int) (w : Str) : evE G run pX4 (ρF d w) = gdGet (some (.dict [(.str (Wd.s .not), .int 1), (.str (Wd.s .both), .int 2), (.str (Wd.s .either), .int 2)])) (.str w) := by
  have h : evE G run pX4 (ρF d w) = gdGet (G 4) (.str w) := by simp [pX4, ρF]
  rw [h, W.g4]
def isTo (w : Str) : Bool := match w.cps.toList with
  | [c, d] => isNm c && isNm d
  | _ => false
def isAB (w : Str) : Bool := match w.cps.toList with
  | [c, d] => isAb c && isNm d
  | _ => false
theorem isTo_len {w : Str} (h : w.length ≠ 2) : isTo w = false ∧ isAB w = false := by
  obtain ⟨⟨l⟩⟩ := w
  unfold isTo isAB
  match l, h with
  | [], _ => exact ⟨rfl, rfl⟩
  | [_], _ => exact ⟨rfl, rfl⟩
  | [_, _], h => exact absurd rfl h
  | _ :: _ :: _ :: _, _ => exact ⟨rfl, rfl⟩
theorem ev5 (W : GW G) (d : Int) (w : Str) : evE G run pX5 (ρF d w) = some (.bool (isTo w)) := by
  by_cases h : w.length = 2
  · obtain ⟨c, e, rfl⟩ := two_of h
    obtain ⟨h1, h2⟩ := at_two c e
    have h3 : isTo (sg c ++ sg e) = (isNm c && isNm e) := rfl
    have c2 : cop .eq (.int 2) (.int 2) = some true := rfl
    have n1 := in_nm c
    have n2 := in_nm e
    have gl : glV (G 5) = some (.tuple [.str (Wd.s .x), .str (Wd.s .y)]) := by rw [W.g5]; rfl
    rw [h3]
    generalize hw : sg c ++ sg e = w at h h1 h2 ⊢
    have e1 : evE G run (.cmp .eq (.blt .len (.var 2)) (.lit (.int 2))) (ρF d w) = some (.bool true) := by simp [ρF, blt, h, c2]
    have e2 : evE G run (.cmp .isin (.ix (.var 2) (.lit (.int 0))) (.glb 5)) (ρF d w) = some (.bool (isNm c)) := by simp only [evE_cmp, evE_ix, evE_var, evE_glb, evE_lit, bor, ρF, getV, gl]; simp [h1]; exact nmq c
    have e3 : evE G run (.cmp .isin (.ix (.var 2) (.lit (.int 1))) (.glb 5)) (ρF d w) = some (.bool (isNm e)) := by simp only [evE_cmp, evE_ix, evE_var, evE_glb, evE_lit, bor, ρF, getV, gl]; simp [h2]; exact nmq e
    cases q1 : isNm c <;> cases q2 : isNm e <;> (rw [q1] at e2; rw [q2] at e3; simp [pX5, e1, e2, e3])
  · have e1 : evE G run (.cmp .eq (.blt .len (.var 2)) (.lit (.int 2))) (ρF d w) = some (.bool false) := by
      have h' : ¬ ((w.length : Int) = 2) := by omega
      simp [ρF, blt, h']
    rw [(isTo_len h).1]
    simp [pX5, e1]
theorem ev7 (W : GW G) (d : Int) (w : Str) : evE G run pX7 (ρF d w) = some (.bool (isAB w)) := by
  by_cases h : w.length = 2
  · obtain ⟨c, e, rfl⟩ := two_of h
    obtain ⟨h1, h2⟩ := at_two c e
    have h3 : isAB (sg c ++ sg e) = (isAb c && isNm e) := rfl
    have c2 : cop .eq (.int 2) (.int 2) = some true := rfl
    have n1 := in_ab c
    have n2 := in_nm e
    have gl : glV (G 5) = some (.tuple [.str (Wd.s .x), .str (Wd.s .y)]) := by rw [W.g5]; rfl
    rw [h3]
    generalize hw : sg c ++ sg e = w at h h1 h2 ⊢
    have e1 : evE G run (.cmp .eq (.blt .len (.var 2)) (.lit (.int 2))) (ρF d w) = some (.bool true) := by simp [ρF, blt, h, c2]
    have e2 : evE G run (.cmp .isin (.ix (.var 2) (.lit (.int 0))) (.tup (.cons (.lit (.str (Wd.s .a))) (.cons (.lit (.str (Wd.s .b))) .nil)))) (ρF d w) = some (.bool (isAb c)) := by
      have t2 : evE G run (.tup (.cons (.lit (.str (Wd.s .a))) (.cons (.lit (.str (Wd.s .b))) .nil))) (ρF d w) = some (.tuple [.str (Wd.s .a), .str (Wd.s .b)]) := by simp
      simp only [evE_cmp, evE_ix, evE_var, t2, evE_lit, bor, ρF, getV]; simp [h1]; exact abq c
    have e3 : evE G run (.cmp .isin (.ix (.var 2) (.lit (.int 1))) (.glb 5)) (ρF d w) = some (.bool (isNm e)) := by simp only [evE_cmp, evE_ix, evE_var, evE_glb, evE_lit, bor, ρF, getV, gl]; simp [h2]; exact nmq e
    cases q1 : isAb c <;> cases q2 : isNm e <;> (rw [q1] at e2; rw [q2] at e3; simp [pX7, e1, e2, e3])
  · have e1 : evE G run (.cmp .eq (.blt .len (.var 2)) (.lit (.int 2))) (ρF d w) = some (.bool false) := by
      have h' : ¬ ((w.length : Int) = 2) := by omega
      simp [ρF, blt, h']
    rw [(isTo_len h).2]
    simp [pX7, e1]
theorem ev6 (d : Int) (c e : Nat) : evE G run pX6 (ρF d (sg c ++ sg e)) = some (.tuple [.str (Wd.s .to), .str (sg c), .str (sg e)]) := by
  obtain ⟨h1, h2⟩ := at_two c e
  generalize sg c ++ sg e = w at h1 h2 ⊢
  simp [pX6, ρF, h1, h2]
theorem ev8 (d : Int) (c e : Nat) : evE G run pX8 (ρF d (sg c ++ sg e)) = some (.tuple [.str (sg c), .str (sg e)]) := by
  obtain ⟨h1, h2⟩ := at_two c e
  generalize sg c ++ sg e = w at h1 h2 ⊢
  simp [pX8, ρF, h1, h2]
theorem ev9 (d : Int) (w : Str) : evE G run pX9 (ρF d w) = some (.tuple [.str w]) := by simp [pX9, ρF]
theorem ev3 (d : Int) (s0 s2 s3 : Sl) : evE G run pX3 [s0, .val (.int d), s2, s3] = some (.int (d - 1)) := by simp [pX3, bop]
end
theorem isTo_some {w : Str} (h : isTo w = true) : ∃ u v, w = Wd.s (nm u) ++ Wd.s (nm v) := by
  by_cases hl : w.length = 2
  · obtain ⟨c, e, rfl⟩ := two_of hl
    have h3 : (isNm c && isNm e) = true := h
    simp only [isNm, Bool.and_eq_true, Bool.or_eq_true, decide_eq_true_eq] at h3
    obtain ⟨h1 | h1, h2 | h2⟩ := h3 <;> subst h1 <;> subst h2
    · exact ⟨false, false, rfl⟩
    · exact ⟨false, true, rfl⟩
    · exact ⟨true, false, rfl⟩
    · exact ⟨true, true, rfl⟩
  · rw [(isTo_len hl).1] at h; cases h
theorem isAB_some {w : Str} (h : isAB w = true) : (∃ v, w = Wd.s .a ++ Wd.s (nm v)) ∨ ∃ v, w = Wd.s .b ++ Wd.s (nm v) := by
  by_cases hl : w.length = 2
  · obtain ⟨c, e, rfl⟩ := two_of hl
    have h3 : (isAb c && isNm e) = true := h
    simp only [isAb, isNm, Bool.and_eq_true, Bool.or_eq_true, decide_eq_true_eq] at h3
    obtain ⟨h1 | h1, h2 | h2⟩ := h3 <;> subst h1 <;> subst h2
    · exact .inl ⟨false, rfl⟩
    · exact .inl ⟨true, rfl⟩
    · exact .inr ⟨false, rfl⟩
    · exact .inr ⟨true, rfl⟩
  · rw [(isTo_len hl).2] at h; cases h
theorem leaf_bad {w : Str} (h1 : w ≠ Wd.s .yes) (h2 : w ≠ Wd.s .no) (h3 : isTo w = false) (h4 : isAB w = false) : leafOf w = none := by
  cases q : leafOf w with
  | none => rfl
  | some f =>
    obtain ⟨p, hp, rfl⟩ := Option.map_eq_some_iff.mp q
    have hm := List.mem_of_find?_eq_some hp
    have he := List.find?_some hp
    have he' : p.1 = w := eq_of_beq he
    subst he'
    simp only [leafL, List.mem_cons, List.not_mem_nil, or_false] at hm
    rcases hm with rfl | rfl | rfl | rfl | rfl | rfl | rfl | rfl | rfl | rfl
    · exact absurd rfl h1
    · exact absurd rfl h2
    · exact absurd h4 (by decide +kernel)
    · exact absurd h4 (by decide +kernel)
    · exact absurd h4 (by decide +kernel)
    · exact absurd h4 (by decide +kernel)
    · exact absurd h3 (by decide +kernel)
    · exact absurd h3 (by decide +kernel)
    · exact absurd h3 (by decide +kernel)
    · exact absurd h3 (by decide +kernel)
end Ev

/-! ErC: Reader.form. -/
namespace Ev
open PySem PySem.Spec PyProof.Rows L2
/-! ### some forms, one after the other -/
def parseN (k : Nat) : Nat → List Str → Option (List Form × List Str)
  | 0, ws => some ([], ws)
  | m + 1, ws => (parse k ws).bind fun p => (parseN k m p.2).map fun q => (p.1 :: q.1, q.2)
theorem parseN_snoc (k : Nat) : ∀ (m : Nat) (ws : List Str), parseN k (m + 1) ws = (parseN k m ws).bind fun p => (parse k p.2).map fun q => (p.1 ++ [q.1], q.2)
  | 0, ws => by
    show ((parse k ws).bind fun p => some ([p.1], p.2)) = (parse k ws).map fun q => ([] ++ [q.1], q.2)
    cases parse k ws <;> rfl
  | m + 1, ws => by
    show ((parse k ws).bind fun p => (parseN k (m + 1) p.2).map fun q => (p.1 :: q.1, q.2)) = ((parse k ws).bind fun p => (parseN k m p.2).map fun q => (p.1 :: q.1, q.2)).bind _
    cases parse k ws with
    | none => rfl
    | some p =>
      show (parseN k (m + 1) p.2).map (fun q => (p.1 :: q.1, q.2)) = ((parseN k m p.2).map fun q => (p.1 :: q.1, q.2)).bind _
      rw [parseN_snoc k m p.2]
      cases parseN k m p.2 with
      | none => rfl
      | some q =>
        show ((parse k q.2).map fun r => (q.1 ++ [r.1], r.2)).map _ = (parse k q.2).map _
        cases parse k q.2 <;> rfl
theorem parseN_mono {k i m : Nat} {ws : List Str} (h : parseN k i ws = none) (hm : i ≤ m) : parseN k m ws = none := by
  obtain ⟨j, rfl⟩ := Nat.le.dest hm
  clear hm
  induction j with
  | zero => exact h
  | succ j ih => rw [← Nat.add_assoc, parseN_snoc, ih]; rfl
def IsPart (w : Str) (m : Nat) : Prop := (w = Wd.s .not ∧ m = 1) ∨ (w = Wd.s .both ∧ m = 2) ∨ (w = Wd.s .either ∧ m = 2)
theorem part_none {k m : Nat} {w : Str} {ws : List Str} (hp : IsPart w m) (h : parseN k m ws = none) : parse (k + 1) (w :: ws) = none := by
  have hb : ¬ Wd.s .both = Wd.s .not := by decide +kernel
  have he : ¬ Wd.s .either = Wd.s .not := by decide +kernel
  have he2 : ¬ Wd.s .either = Wd.s .both := by decide +kernel
  rcases hp with ⟨rfl, rfl⟩ | ⟨rfl, rfl⟩ | ⟨rfl, rfl⟩
  · simp only [parse, leaf_not]
    have h' : ((parse k ws).bind fun p => some ([p.1], p.2)) = none := h
    cases q : parse k ws with
    | none => rfl
    | some p => rw [q] at h'; cases h'
  · simp only [parse, leaf_both, hb]
    have h' : ((parse k ws).bind fun p => ((parse k p.2).bind fun r => some ([r.1], r.2)).map fun q => (p.1 :: q.1, q.2)) = none := h
    cases q : parse k ws with
    | none => rfl
    | some p =>
      rw [q] at h'
      cases q2 : parse k p.2 with
      | none => simp [q2]
      | some r =>
        have h2 : (((parse k p.2).bind fun r => some ([r.1], r.2)).map fun q => (p.1 :: q.1, q.2)) = none := h'
        rw [q2] at h2; cases h2
  · simp only [parse, leaf_either, he, he2]
    have h' : ((parse k ws).bind fun p => ((parse k p.2).bind fun r => some ([r.1], r.2)).map fun q => (p.1 :: q.1, q.2)) = none := h
    cases q : parse k ws with
    | none => rfl
    | some p =>
      rw [q] at h'
      cases q2 : parse k p.2 with
      | none => simp [q2]
      | some r =>
        have h2 : (((parse k p.2).bind fun r => some ([r.1], r.2)).map fun q => (p.1 :: q.1, q.2)) = none := h'
        rw [q2] at h2; cases h2
theorem part_some {k m : Nat} {w : Str} {ws rest : List Str} {fs : List Form} (hp : IsPart w m) (h : parseN k m ws = some (fs, rest)) : ∃ f, parse (k + 1) (w :: ws) = some (f, rest) ∧ f.enc = .tuple (.str w :: fs.map Form.enc) := by
  have hb : ¬ Wd.s .both = Wd.s .not := by decide +kernel
  have he : ¬ Wd.s .either = Wd.s .not := by decide +kernel
  have he2 : ¬ Wd.s .either = Wd.s .both := by decide +kernel
  rcases hp with ⟨rfl, rfl⟩ | ⟨rfl, rfl⟩ | ⟨rfl, rfl⟩
  · have h' : ((parse k ws).bind fun p => some ([p.1], p.2)) = some (fs, rest) := h
    obtain ⟨p, hp, h'⟩ := Option.bind_eq_some_iff.mp h'
    cases h'
    exact ⟨.not p.1, by simp [parse, leaf_not, hp], rfl⟩
  · have h' : ((parse k ws).bind fun p => ((parse k p.2).bind fun r => some ([r.1], r.2)).map fun q => (p.1 :: q.1, q.2)) = some (fs, rest) := h
    obtain ⟨p, hp, h'⟩ := Option.bind_eq_some_iff.mp h'
    obtain ⟨q, hq, h'⟩ := Option.map_eq_some_iff.mp h'
    obtain ⟨r, hr, hq⟩ := Option.bind_eq_some_iff.mp hq
    cases hq
    cases h'
    exact ⟨.both p.1 r.1, by simp [parse, leaf_both, hb, hp, hr], rfl⟩
  · have h' : ((parse k ws).bind fun p => ((parse k p.2).bind fun r => some ([r.1], r.2)).map fun q => (p.1 :: q.1, q.2)) = some (fs, rest) := h
    obtain ⟨p, hp, h'⟩ := Option.bind_eq_some_iff.mp h'
    obtain ⟨q, hq, h'⟩ := Option.map_eq_some_iff.mp h'
    obtain ⟨r, hr, hq⟩ := Option.bind_eq_some_iff.mp hq
    cases hq
    cases h'
    exact ⟨.either p.1 r.1, by simp [parse, leaf_either, he, he2, hp, hr], rfl⟩
theorem parse_leaf {k : Nat} {w : Str} {ws : List Str} {f : Form} (h : leafOf w = some f) : parse (k + 1) (w :: ws) = some (f, ws) := by simp only [parse, h]
theorem parse_bad {k : Nat} {w : Str} {ws : List Str} (h : leafOf w = none) (h1 : w ≠ Wd.s .not) (h2 : w ≠ Wd.s .both) (h3 : w ≠ Wd.s .either) : parse (k + 1) (w :: ws) = none := by
  simp only [parse, h, if_neg h1, if_neg h2, if_neg h3]
/-- what the item of a table of parts is -/
theorem part_item {w : Str} (h : (decide (w = Wd.s .not) || (decide (w = Wd.s .both) || decide (w = Wd.s .either))) = true) :
    ∃ m : Nat, IsPart w m ∧ 1 ≤ m ∧ m ≤ 2 ∧ gdGet (some (.dict [(.str (Wd.s .not), .int 1), (.str (Wd.s .both), .int 2), (.str (Wd.s .either), .int 2)])) (.str w) = some (.int (m : Nat)) := by
  simp only [Bool.or_eq_true, decide_eq_true_eq] at h
  rcases h with rfl | rfl | rfl
  · exact ⟨1, .inl ⟨rfl, rfl⟩, by omega, by omega, rfl⟩
  · exact ⟨2, .inr (.inl ⟨rfl, rfl⟩), by omega, by omega, rfl⟩
  · exact ⟨2, .inr (.inr ⟨rfl, rfl⟩), by omega, by omega, rfl⟩
/-- slots that hold values only -/
theorem er_vals {K : PySem.W.Frag} {H Hf : Hp} {σ : L2.St} {ρ : Rho} (hl : ρ.length = σ.length) (s : Sub H Hf) (h : ∀ (i : Nat) t, ρ[i]? = some t → t ≠ .un → ∃ d v, t = .val d ∧ σ[i]? = some (some v) ∧ Rp K Hf v d) : ER K σ H Hf ρ := by
  refine ⟨hl, s, fun i t hi n => ?_, fun i j si sj vi vj p hi hj wi wj oi oj => ?_⟩
  · obtain ⟨d, v, rfl, h1, h2⟩ := h i t hi n
    exact ⟨v, h1, h2⟩
  · by_cases c : si = .un
    · subst c; exact oi.elim
    · obtain ⟨d, v, rfl, _⟩ := h i si hi c
      exact oi.elim
/-- a form -/
def spForm (K : PySem.W.Frag) (CR CN : Addr) (k : Nat) : Sp := fun vs H Q E => ∃ Hf x dx p ws i, vs = [.ref x, .int ((k : Nat) - 1)] ∧ Sub H Hf ∧ RdAt K CR x dx p ws H Hf i ∧
  (parse k (ws.drop i) = none → ∀ H' Hf', ExtX x H Hf H' Hf' → E (.ref CN) none H') ∧
  ∀ f rest, parse k (ws.drop i) = some (f, rest) → ∀ v H' Hf' j, ExtX x H Hf H' Hf' → RdAt K CR x dx p ws H' Hf' j → ws.drop j = rest → Rp K Hf' v f.enc → Q v H'
def nF : List Str := ["self", "deep", "word", "part"]
/-- one step of the reading of a form -/
theorem form_step {T : Tab} {P : Program} {w : World} {K : PySem.W.Frag} {mg : Str → Option Value} {base : Heap} {CR CN fW fF : Addr} {q : Str} {st : Stmt} {fdW fd : FuncData} {k : Nat} {spR : Sp}
    (R : RCls K mg CR CN) (W : GW T.G) (hbn : ∀ x ∈ bNames, mg x = none)
    (C0 : ∀ X : Cx, X.prog = P → X.w = w → X.K = K → X.mg = mg → X.base = base → X.N.Nodup → X.calm = true → (X.xe = fun _ _ => False) → X.env.scope.kind = .function → Room 0 X.A → Cok T 0 X)
    (MW : Meth K CR "word" fW) (bW : Binds K fdW ["self"] []) (FW : FnOk P w K mg base (L2.CX P w) 1 fW fdW ["self"] (spWord K CR CN))
    (D : Fun K "form" q st fF fd) (MF : Meth K CR "form" fF) (bF : Binds K fd ["self", "deep"] []) (FR : FnOk P w K mg base (L2.CX P w) (k + 1) fF fd ["self", "deep"] spR) (hR : ∀ j, k = j + 1 → spR = spForm K CR CN j)
    (hS : scopeB nF ["self", "deep"] (defScope st) = true) {scope : Scope} {e0 e1 e2 e4 e5 e6 e7 e8 e9 : Expr} {m1 m2 : Str} {j1 j2 j3 : Nat}
    {p1 p2 p3 p4 p5 p6 p7 p8 p9 a1 a2 a3 a4 a5 a6 a7 a8 a9 b1 b2 b3 b4 b5 b6 b7 b8 b9 d1 d2 d3 d4 d5 d6 d7 d8 d9 : Pos}
    (hst : defBody st = [
      .If e0 [.Raise (some (.Call (.Name "NoText" p1) [.Constant (.str m1) j1 p2] [] p3)) none p4] [] p5,
      .Assign [.Name "word" p6] (.Call (.Attribute (.Name "self" p7) "word" a1) [] [] a2) p8,
      .If e1 [.Return (some (.Name "word" p9)) a3] [] a4,
      .If e2 [.Return (some (.BinOp e9 .Add (.Call (.Name "tuple" a5) [.ListComp (.Call (.Attribute (.Name "self" a6) "form" b1) [.BinOp (.Name "deep" a7) .Sub (.Constant (.int 1) j2 a8) a9] [] b2) [⟨.Name "part" b3, .Call (.Name "range" b4) [e4] [] b5, [], 0⟩] scope b6] [] b7) b8)) b9] [] d1,
      .If e5 [.Return (some e6) d2] [] d3,
      .If e7 [.Return (some e8) d4] [] d5,
      .Raise (some (.Call (.Name "NoText" d6) [.Constant (.str m2) j3 d7] [] d8)) none d9])
    (h1 : slotB nF 0 (defScope st) "self" = true) (h2 : slotB nF 2 (defScope st) "word" = true) (h3 : locB (defScope st) "word" = true) (h4 : glB (defScope st) "NoText" = true) (h5 : glB (defScope st) "tuple" = true) (h6 : glB (defScope st) "range" = true)
    (c0 : chk T nF pX0 (defScope st) e0 = true) (c1 : chk T nF pX1 (defScope st) e1 = true) (c2 : chk T nF pX2 (defScope st) e2 = true) (c4 : chk T nF pX4 (defScope st) e4 = true) (c5 : chk T nF pX5 (defScope st) e5 = true) (c6 : chk T nF pX6 (defScope st) e6 = true)
    (c7 : chk T nF pX7 (defScope st) e7 = true) (c8 : chk T nF pX8 (defScope st) e8 = true) (c9 : chk T nF pX9 (defScope st) e9 = true)
    (B : blkC nF (defScope st) scope [("part", 3)] = true) (s1 : slotB nF 0 (relS scope (defScope st)) "self" = true) (s2 : slotB nF 1 (relS scope (defScope st)) "deep" = true) (s3 : locB (relS scope (defScope st)) "part" = true) (s4 : (relS scope (defScope st)).names.lookup ("part" : Str) = some .local)
    (l1 : (a1.endLine == a2.line) = true) (l2 : (b1.endLine == b2.line) = true) :
    FnOk P w K mg base (L2.CX P w) (k + 2) fF fd ["self", "deep"] (spForm K CR CN k) := by
  have S := scope_of hS
  refine D.okX S (fun vs H Q E ⟨Hf, x, dx, p, ws, i, e, _⟩ => by rw [e]; rfl) fun cdv A outer s H vs Q E hr h => ?_
  obtain ⟨Hf, x, dx, p, ws, i, rfl, sub, rd, hraise, hret⟩ := h
  generalize hX : cxOf (L2.CX P w) P w K mg base nF q (defScope st) fF cdv A outer s H E = X
  have eP : X.prog = P := by subst hX; rfl
  have eW : X.w = w := by subst hX; rfl
  have eK : X.K = K := by subst hX; rfl
  have eM : X.mg = mg := by subst hX; rfl
  have eB : X.base = base := by subst hX; rfl
  have eN : X.N = nF := by subst hX; rfl
  have eS : X.env.scope = defScope st := by subst hX; rfl
  have eC : X.calm = true := by subst hX; rfl
  have eA : X.A = A.deeper (envOfC q (defScope st) s.heap.objs.size fF cdv) := by subst hX; rfl
  have tk : Takes X (fun cls d _ H => E cls d H) := by subst hX; exact takes_of rfl rfl rfl rfl
  have hs0 : X.stack = X.env :: X.outer := by subst hX; rfl
  have hf0 : X.env.frame = some X.env.locals := by subst hX; rfl
  have hex : X.ex = [] := by subst hX; rfl
  have hfn : X.fn = fun _ => true := by subst hX; rfl
  have hx0 : ∃ E₁, X.xe = fun e s' => wpAny (model X.prog X.w) X.A (leaving X.env e) (fun _ s'' => CX X.prog X.w X.outer X.H_0 X.s_0 E e s'') E₁ s' := by subst hX; exact ⟨_, rfl⟩
  rw [← eA] at hr
  have nd : X.N.Nodup := by rw [eN]; exact S.nd
  clear hX
  subst eP eW eK eM eB
  have CC : Cok T 0 X.nox := C0 X.nox rfl rfl rfl rfl rfl nd eC rfl (by show X.env.scope.kind = _; rw [eS]; exact S.kind) (hr.mono (by omega))
  rw [hst]
  rw [← eS] at h1 h2 h3 h4 h5 h6 c0 c1 c2 c4 c5 c6 c7 c8 c9 B s1 s2 s3 s4
  rw [← eN] at h1 h2 c0 c1 c2 c4 c5 c6 c7 c8 c9 B s1 s2
  have S0 := (sndE pX0 X.nox e0 CC c0).t.nox
  have S1 := (sndE pX1 X.nox e1 CC c1).t.nox
  have S2 := (sndE pX2 X.nox e2 CC c2).t.nox
  have S4 := (sndE pX4 X.nox e4 CC c4).f.nox
  have S5 := (sndE pX5 X.nox e5 CC c5).t.nox
  have S6 := (sndE pX6 X.nox e6 CC c6).f.nox
  have S7 := (sndE pX7 X.nox e7 CC c7).t.nox
  have S8 := (sndE pX8 X.nox e8 CC c8).f.nox
  have S9 := (sndE pX9 X.nox e9 CC c9).f.nox
  have n2 : X.N[2]? = some ("word" : Str) := by rw [eN]; rfl
  have n3 : X.N[3]? = some ("part" : Str) := by rw [eN]; rfl
  obtain ⟨E₁, hx0⟩ := hx0
  have PASS : Passes (L2.CX X.prog X.w) X E := passes_call tk fun _ _ _ _ h => h
  have bt : X.mg "tuple" = none := hbn _ (by simp [bNames])
  have br : X.mg "range" = none := hbn _ (by simp [bNames])
  have COMP := fun (E' : Value → Shared → Prop) => pe_lcX (X := X) (E := E) (elt := .Call (.Attribute (.Name "self" a6) "form" b1) [.BinOp (.Name "deep" a7) .Sub (.Constant (.int 1) j2 a8) a9] [] b2) (tg := .Name "part" b3) (iter := .Call (.Name "range" b4) [e4] [] b5) (ifs := []) (scope := scope) (own := [("part", 3)]) (pos := b6) (g := gName 3) (tt := tYes) eC nd hs0 hf0 hex hx0
    (pi_rng1 (b := false) (gl_of h6) br S4 (fun es => star_of (chk_plain pX4 c4) es _)) (blkOk_by B) (fun s H C cl fp => pg_name (i := 3) nd n3 (loc_of s3) (.inr s4)) (fun s H C cl fp => pts_nil)
    (fun s H C cl fp => pe_meth (X := blkE X E s H scope (compEnvC scope cl C X.env) fp) (E := E) (pl := plainOf (.Name "self" a6) (compEnvC scope cl C X.env)) (slot_pe s1) R.cl MF FR hr bF .nil (fun pins σ H' sc u s' I c => blkE_pass X E s H scope _ fp σ pins H' sc u s' I c)
      (pa_cons (pe_op op_sub (slot_pe s2) pe_int) pa_nil) rfl rfl (ev_meth rfl rfl l2))
  refine ⟨_, pss_cons (ps_if S0 (pss_one (ps_noText R eC tk h4)) pss_nil)
    (pss_cons (ps_set (i := 2) nd n2 (loc_of h3) (pe_meth0 (E := E) (pl := plainOf (.Name "self" p7) X.env) (slot_pe h1) R.cl MW FW (hr.mono (by omega)) bW .nil PASS (ev_meth rfl rfl l1)) (sw_no rfl rfl _ _ _) (.inl (by rw [hfn])))
    (pss_cons (ps_if S1 (pss_one (ps_ret (slot_pe h2))) pss_nil)
    (pss_cons (ps_if S2 (pss_one (ps_ret (pe_op bop_add S9 (pe_callTy call_tuple_of (gl_of h5) bt PyProof.Rows.boot_tuple (pa_cons (COMP E₁) pa_nil))))) pss_nil)
    (pss_cons (ps_if S5 (pss_one (ps_ret S6)) pss_nil)
    (pss_cons (ps_if S7 (pss_one (ps_ret S8)) pss_nil)
    (pss_one (ps_noText R eC tk h4))))))), ?_⟩
  -- the reading
  have es : L2.start nF [V.ref x, V.int ((k : Nat) - 1)] = [some (.ref x), some (.int ((k : Nat) - 1)), none, none] := rfl
  rw [es]
  have erA : ∀ {H' Hf' : Hp} {s2 s3 : Option V}, Sub H' Hf' → ER X.K [some (.ref x), some (.int ((k : Nat) - 1)), s2, s3] H' Hf' [.un, .val (.int ((k : Nat) - 1)), .un, .un] := fun sb => er_vals rfl sb fun i t hi n => by
    match i, hi with
    | 0, hi => cases hi; exact absurd rfl n
    | 1, hi => cases hi; exact ⟨_, _, rfl, rfl, .int _⟩
    | 2, hi => cases hi; exact absurd rfl n
    | 3, hi => cases hi; exact absurd rfl n
  refine ⟨Hf, _, _, erA sub, by rw [ev, ev0]; rfl, fun H1 Hf1 e1 => ?_⟩
  have X1 := e1.toX rd.nf
  have rd1 := rd.ext e1
  refine ite2 (fun c => ?_) fun c => ?_
  · have c := of_decide_eq_true c
    have hk : k = 0 := by omega
    subst hk
    exact hraise rfl H1 Hf1 X1
  have hk : 0 < k := by
    rcases Nat.eq_zero_or_pos k with z | z
    · exact absurd (decide_eq_true (by omega)) c
    · exact z
  obtain ⟨j, rfl⟩ : ∃ j, k = j + 1 := ⟨k - 1, by omega⟩
  have hR := hR j rfl
  subst hR
  refine ⟨.ref x, rfl, x, dx, _, rfl, rd1.at_, rfl, Hf1, x, dx, p, ws, i, rfl, e1.sub, rd1, fun hl => ?_, fun w hw => ?_⟩
  · refine hraise ?_ H1 Hf1 X1
    rw [List.drop_eq_nil_of_le (by omega)]
    rfl
  have hi : i < ws.length := (List.getElem?_eq_some_iff.mp hw).1
  have hdr : ws.drop i = w :: ws.drop (i + 1) := by
    rw [List.drop_eq_getElem_cons hi]
    have := (List.getElem?_eq_some_iff.mp hw).2
    rw [this]
  rw [hdr] at hraise hret
  have poke := ExtX.poke e1.sub rd1.nf (.ins CR dx (rfs p (i + 1)))
  have X2 := X1.trans rd1.nf poke
  have rd2 : RdAt X.K CR x dx p ws (upd H1 x (.ins CR dx (rfs p (i + 1)))) Hf1 (i + 1) := ⟨upd_same, rd1.nf, rd1.wr, hi⟩
  have sub2 := poke.sub
  obtain ⟨wz, wo⟩ : w.length ≤ sizeLine ∧ PyData.strOk w = true := by
    have := rd1.wr
    cases this with
    | lst _ _ rr =>
      obtain ⟨v, _, rv⟩ := rr.get (i := i) (d := .str w) (by rw [List.getElem?_map, hw]; rfl)
      cases rv with
      | str _ z o => exact ⟨z, o⟩
  clear e1 X1 rd1 poke erA
  generalize upd H1 x (.ins CR dx (rfs p (i + 1))) = H2 at X2 rd2 sub2 ⊢
  -- the word is there
  have erB : ∀ {H' Hf' : Hp}, Sub H' Hf' → ER X.K [some (.ref x), some (.int ((j + 1 : Nat) - 1)), some (.str w), none] H' Hf' (ρF ((j + 1 : Nat) - 1) w) := fun sb => er_vals rfl sb fun i t hi n => by
    match i, hi with
    | 0, hi => cases hi; exact absurd rfl n
    | 1, hi => cases hi; exact ⟨_, _, rfl, rfl, .int _⟩
    | 2, hi => cases hi; exact ⟨_, _, rfl, rfl, .str _ wz wo⟩
    | 3, hi => cases hi; exact absurd rfl n
  refine ⟨Hf1, _, _, erB sub2, by rw [ev, ev1]; rfl, fun H3 Hf3 e3 => ?_⟩
  have X3 := X2.trans rd2.nf (e3.toX rd2.nf)
  have rd3 := rd2.ext e3
  refine ite2 (fun c => ?_) fun c1 => ?_
  · -- yes, no
    refine ⟨.str w, rfl, ?_⟩
    simp only [Bool.or_eq_true, decide_eq_true_eq] at c
    rcases c with rfl | rfl
    · exact hret .yes _ (parse_leaf leaf_yes) _ H3 Hf3 (i + 1) X3 rd3 rfl (.str _ wz wo)
    · exact hret .no _ (parse_leaf leaf_no) _ H3 Hf3 (i + 1) X3 rd3 rfl (.str _ wz wo)
  refine ⟨Hf3, _, _, erB e3.sub, by rw [ev, ev2 W]; rfl, fun H4 Hf4 e4 => ?_⟩
  have X4 := X3.trans rd3.nf (e4.toX rd3.nf)
  have rd4 := rd3.ext e4
  refine ite2 (fun c => ?_) fun c2 => ?_
  · -- not, both, either
    obtain ⟨m, hpt, m1, m2, hg⟩ := part_item c
    refine ⟨Hf4, _, _, erB e4.sub, by rw [ev]; exact ev9 _ _, fun v5 H5 Hf5 e5 r5 => ?_⟩
    have X5 := X4.trans rd4.nf (e5.toX rd4.nf)
    have rd5 := rd4.ext e5
    have lm : (rgD (m : Nat)).length = m := by simp [rgD]
    refine ⟨Hf5, _, rgD (m : Nat), erB e5.sub, ?_, fun J H6 Hf6 e6 hz gi Dl hD => ?_⟩
    · show ((evE T.G (T.run 0) pX4 (ρF ((j + 1 : Nat) - 1) w)).bind fun x => (intOf x).bind fun n => if rngOk n = true then some (rgD n) else none) = some (rgD (m : Nat))
      rw [ev4 W, hg]
      have : rngOk ((m : Nat) : Int) = true := rngOk_iff.mpr ⟨by omega, by omega⟩
      show (if rngOk ((m : Nat) : Int) = true then some (rgD (m : Nat)) else none) = _
      rw [if_pos this]
    have gi : GI X.K J (rgD (m : Nat)) Hf6 Hf6 := gi
    have X6 := X5.trans rd5.nf (e6.toX rd5.nf)
    have rd6 := rd5.ext e6
    have r6 := r5.mono e6.fr _ _
    have sub6 := e6.sub
    clear e6 e5 e4 e3 X5 X4 X3 X2 rd5 rd4 rd3 rd2 r5 sub2
    let Pv : Nat → Hp → Prop := fun n H7 => ∃ Hf7 jj vs fs, ExtX x H6 Hf6 H7 Hf7 ∧ RdAt X.K CR x dx p ws H7 Hf7 jj ∧ H7 Dl = some (.lst vs) ∧ Hf7 Dl = none ∧ vs.length = n ∧ RpAll X.K Hf7 vs (fs.map Form.enc) ∧ parseN j n (ws.drop (i + 1)) = some (fs, ws.drop jj)
    have e0 := Ext.allocO sub6 hD (.lst [])
    refine ⟨fun n mm H7 => mm = m - n ∧ n ≤ m ∧ Pv n H7, ⟨m, by omega, Nat.zero_le _, Hf6, i + 1, [], [], e0.toX rd6.nf, rd6.ext e0, upd_same, sub_none sub6 hD, rfl, .nil, rfl⟩, ?_⟩
    rintro n mm H7 ⟨rfl, hn, Hf7, jj, vs, fs, e7, rd7, hD7, nD7, hl7, rr7, hp7⟩
    obtain ⟨g1, g2⟩ := gi n H7 Hf7 e7.fr e7.sub (Same.hs (e7.fr.trans e7.sub.same))
    by_cases hlt : n < m
    · refine .inr ?_
      have hx : (rgD (m : Nat))[n]? = some (rgD (m : Nat))[n] := List.getElem?_eq_getElem (by rw [lm]; exact hlt)
      obtain ⟨go, yld⟩ := g2 _ hx
      refine ⟨go, Pv (n + 1), fun H' p' => ⟨m - (n + 1), by omega, rfl, hlt, p'⟩, fun xx H8 y8 => ?_⟩
      obtain ⟨Hf8, e8, rx⟩ := yld xx H8 y8
      have rd8 := rd7.ext e8
      have X8 := e7.trans rd7.nf (e8.toX rd7.nf)
      have hD8 := e8.lst hD7
      have nD8 := e8.unf hD7 nD7
      refine ⟨rfl, ?_⟩
      unfold tYes
      dsimp only
      rw [if_pos rfl]
      refine ⟨.ref x, rfl, x, dx, _, rfl, rd8.at_, rfl, .int ((j + 1 : Nat) - 1), rfl, _, _, rfl, rfl, ?_⟩
      refine ⟨Hf8, x, dx, p, ws, jj, ?_, e8.sub, rd8, fun hn8 H' Hf' e' => ?_, fun f rest hf v H9 Hf9 j9 e9 rd9 hdrop r9 => ?_⟩
      · have : ((j + 1 : Nat) : Int) - 1 - 1 = (j : Nat) - 1 := by omega
        show [V.ref x, V.int (((j + 1 : Nat) : Int) - 1 - 1)] = _
        rw [this]
      · refine hraise (part_none hpt (parseN_mono (i := n + 1) ?_ hlt)) H' Hf' (X6.trans rd6.nf (X8.trans rd8.nf e'))
        rw [parseN_snoc, hp7]
        show (parse j (ws.drop jj)).map _ = none
        rw [hn8]; rfl
      · have nx : Dl ≠ x := fun e => by
          subst e
          have h1 := rd8.at_
          rw [hD8] at h1; cases h1
        have hh : hide x H8 Dl = some (.lst vs) := by rw [hide_of nx]; exact hD8
        have hD9 := e9.lst hh
        have nD9 := e9.unf hh nD8
        have X9 := X8.trans rd8.nf e9
        refine ⟨vs, hD9, by rw [sizeLine_eq]; omega, Hf9, j9, vs ++ [v], fs ++ [f], Ext.poke _ X9 (by rw [hide_of nx]; exact hD) nD9 hD9, ⟨by rw [upd_ne (Ne.symm nx)]; exact rd9.at_, rd9.nf, rd9.wr, rd9.le⟩, upd_same, nD9, ?_, ?_, ?_⟩
        · rw [List.length_append, List.length_singleton]; omega
        · rw [List.map_append]
          exact ((rr7.mono e8.fr _ _).mono e9.fr _ _).append (.cons r9 .nil)
        · rw [parseN_snoc, hp7]
          show (parse j (ws.drop jj)).map _ = _
          rw [hf, hdrop]; rfl
    · have en : n = m := by omega
      subst en
      refine .inl ⟨g1 lm.symm, Dl, vs, rfl, .inl ⟨.of hD7, fun l hl => ?_⟩⟩
      obtain ⟨f, hf, henc⟩ := part_some hpt hp7
      have eT := Ext.alloc e7.sub hl (.tup vs)
      have hz7 : vs.length ≤ sizeLine := by rw [sizeLine_eq]; omega
      have hfl : (fs.map Form.enc).length = vs.length := rr7.length.symm
      refine ⟨_, .tuple [.str w], .tuple (fs.map Form.enc), f.enc, eT.sub, (r6.mono e7.fr _ _).mono eT.fr _ _, .tup (.of upd_same) hz7 (rr7.mono eT.fr _ _), ?_, fun v H' Hf' e' r' => ?_⟩
      · show (if catOk 1 (fs.map Form.enc).length = true then some (PyData.tuple ([PyData.str w] ++ fs.map Form.enc)) else none) = _
        have : catOk 1 (fs.map Form.enc).length = true := decide_eq_true (by rw [hfl, sizeLine_eq]; omega)
        rw [if_pos this, henc]; rfl
      · have rdT := rd7.ext eT
        exact hret f _ hf v H' Hf' jj ((X6.trans rd6.nf (e7.trans rd7.nf (eT.toX rd7.nf))).trans rdT.nf (e'.toX rdT.nf)) (rdT.ext e') rfl r'
  refine ⟨Hf4, _, _, erB e4.sub, by rw [ev, ev5 W]; rfl, fun H5 Hf5 e5 => ?_⟩
  have X5 := X4.trans rd4.nf (e5.toX rd4.nf)
  have rd5 := rd4.ext e5
  refine ite2 (fun c => ?_) fun c3 => ?_
  · -- xx ..
    obtain ⟨u, v, rfl⟩ := isTo_some c
    refine ⟨Hf5, _, (Form.to u v).enc, erB e5.sub, ?_, fun v6 H6 Hf6 e6 r6 => ?_⟩
    · rw [ev, sg_nm, sg_nm]
      have := ev6 (G := T.G) (run := T.run 0) ((j + 1 : Nat) - 1) (if u then 121 else 120) (if v then 121 else 120)
      rw [this]
      show _ = some (PyData.tuple [wS .to, wS (nm u), wS (nm v)])
      rw [wS, wS, wS, sg_nm, sg_nm]
    · exact hret _ _ (parse_leaf (leaf_to u v)) _ H6 Hf6 (i + 1) (X5.trans rd5.nf (e6.toX rd5.nf)) (rd5.ext e6) rfl r6
  refine ⟨Hf5, _, _, erB e5.sub, by rw [ev, ev7 W]; rfl, fun H6 Hf6 e6 => ?_⟩
  have X6 := X5.trans rd5.nf (e6.toX rd5.nf)
  have rd6 := rd5.ext e6
  refine ite2 (fun c => ?_) fun c4 => ?_
  · -- ax ..
    rcases isAB_some c with ⟨v, rfl⟩ | ⟨v, rfl⟩
    · refine ⟨Hf6, _, (Form.a v).enc, erB e6.sub, ?_, fun v7 H7 Hf7 e7 r7 => ?_⟩
      · rw [ev, sg_nm, sg_a]
        have := ev8 (G := T.G) (run := T.run 0) ((j + 1 : Nat) - 1) 97 (if v then 121 else 120)
        rw [this]
        show _ = some (PyData.tuple [wS .a, wS (nm v)])
        rw [wS, wS, sg_nm, sg_a]
      · exact hret _ _ (parse_leaf (leaf_a v)) _ H7 Hf7 (i + 1) (X6.trans rd6.nf (e7.toX rd6.nf)) (rd6.ext e7) rfl r7
    · refine ⟨Hf6, _, (Form.b v).enc, erB e6.sub, ?_, fun v7 H7 Hf7 e7 r7 => ?_⟩
      · rw [ev, sg_nm, sg_b]
        have := ev8 (G := T.G) (run := T.run 0) ((j + 1 : Nat) - 1) 98 (if v then 121 else 120)
        rw [this]
        show _ = some (PyData.tuple [wS .b, wS (nm v)])
        rw [wS, wS, sg_nm, sg_b]
      · exact hret _ _ (parse_leaf (leaf_b v)) _ H7 Hf7 (i + 1) (X6.trans rd6.nf (e7.toX rd6.nf)) (rd6.ext e7) rfl r7
  -- no form
  simp only [Bool.or_eq_true, decide_eq_true_eq, not_or] at c1 c2
  refine hraise (parse_bad (leaf_bad c1.1 c1.2 (by simpa using c3) (by simpa using c4)) c2.1 c2.2.1 c2.2.2) H6 Hf6 X6
end Ev

/-! ErD: a reader is made; Reader.demand. -/
namespace Ev
open PySem PySem.Spec PyProof.Rows L2
theorem no_fnX {P : Program} {w : World} {K : PySem.W.Frag} {mg : Str → Option Value} {base : Heap} {CX : CXT} {lv : Nat} {a : Addr} {fd : FuncData} {ps : List Str} {sp : Sp} (no : ∀ vs H Q E, ¬ sp vs H Q E) : FnOk P w K mg base CX lv a fd ps sp :=
  ⟨fun vs H Q E h => absurd h (no vs H Q E), fun A outer s H args us vs Q E _ _ _ _ h => absurd h (no vs H Q E)⟩
/-- a form, however deep -/
theorem form_ok {P : Program} {w : World} {K : PySem.W.Frag} {mg : Str → Option Value} {base : Heap} {CR CN fF : Addr} {fd : FuncData}
    (step : ∀ (k : Nat) (spR : Sp), FnOk P w K mg base (L2.CX P w) (k + 1) fF fd ["self", "deep"] spR → (∀ j, k = j + 1 → spR = spForm K CR CN j) → FnOk P w K mg base (L2.CX P w) (k + 2) fF fd ["self", "deep"] (spForm K CR CN k)) :
    ∀ k, FnOk P w K mg base (L2.CX P w) (k + 2) fF fd ["self", "deep"] (spForm K CR CN k)
  | 0 => step 0 (fun _ _ _ _ => False) (no_fnX fun _ _ _ _ z => z) fun j e => by omega
  | k + 1 => step (k + 1) _ (form_ok step k) fun j e => by
    have : k = j := by omega
    subst this; rfl
/-- Reader(words) -/
def spRInit (CR : Addr) : Sp := fun vs H Q _ => ∃ x dx v, vs = [.ref x, v] ∧ H x = some (.ins CR dx []) ∧ ∀ H', H' x = some (.ins CR dx [("words", v), ("at", .int 0)]) → (∀ b, b ≠ x → H' b = H b) → Q .non H'
def nI : List Str := ["self", "words"]
theorem rinit_ok {P : Program} {w : World} {K : PySem.W.Frag} {mg : Str → Option Value} {base : Heap} {CR CN f : Addr} {q : Str} {st : Stmt} {fd : FuncData} (R : RCls K mg CR CN) (D : Fun K "__init__" q st f fd) (hS : scopeB nI ["self", "words"] (defScope st) = true)
    (h1 : slotB nI 0 (defScope st) "self" = true) (h2 : slotB nI 1 (defScope st) "words" = true) {p1 p2 p3 p4 p5 p6 p7 p8 : Pos} {j : Nat}
    (hst : defBody st = [.Assign [.Attribute (.Name "self" p1) "words" p2] (.Name "words" p3) p4, .Assign [.Attribute (.Name "self" p5) "at" p6] (.Constant (.int 0) j p7) p8]) :
    FnOk P w K mg base CX0 1 f fd ["self", "words"] (spRInit CR) := by
  have S := scope_of hS
  refine D.ok S (fun vs H Q E ⟨x, dx, v, e, _⟩ => by rw [e]; rfl) fun cdv A outer s H vs Q E hr h => ?_
  obtain ⟨x, dx, v, rfl, hx, k⟩ := h
  generalize hX : (cxOf CX0 P w K mg base nI q (defScope st) f cdv A outer s H E).nox = X
  have eK : X.K = K := by subst hX; rfl
  have eN : X.N = nI := by subst hX; rfl
  have eS : X.env.scope = defScope st := by subst hX; rfl
  rw [← eS] at h1 h2
  rw [← eN] at h1 h2
  rw [hst]
  refine ⟨_, pss_cons (ps_fld (slot_pe h1) (slot_pe h2) sw_at) (pss_one (ps_fld (slot_pe h1) pe_int sw_at)), ?_⟩
  have es : L2.start nI [V.ref x, v] = [some (.ref x), some v] := rfl
  rw [es, eK]
  refine ⟨v, rfl, .ref x, rfl, x, CR, dx, _, rfl, hx, R.cl, R.nw, by simp, ?_⟩
  refine ⟨.ref x, rfl, x, CR, dx, _, rfl, upd_same, R.cl, R.na, by simp [putF], ?_⟩
  exact k _ upd_same fun b hb => by rw [upd_ne hb, upd_ne hb]
/-! ### a demand -/
def pD1 : PX := .cmp .notin (.var 1) (.glb 6)
def pD2 : PX := .cmp .notin (.var 2) (.glb 6)
def pD3 : PX := .glb 0
theorem notin_words (w : Str) : cop .notin (.str w) (.tuple [.str (Wd.s .each), .str (Wd.s .some)]) = some (quant w).isNone := by
  have h : cop .notin (.str w) (.tuple [.str (Wd.s .each), .str (Wd.s .some)]) = some (!(decide (Wd.s .each = w) || decide (Wd.s .some = w))) := by
    simp [cop, inOk, PyData.depthAll, PyData.depth, eqv_strs]
  rw [h]
  unfold quant
  by_cases c : w = Wd.s .each
  · subst c; simp
  · by_cases c2 : w = Wd.s .some
    · subst c2; simp [c]
    · simp [c, c2, Ne.symm c, Ne.symm c2]
section
variable {G : Nat → Option PyData} {run : Nat → List PyData → Option PyData}
theorem evD1 (W : GW G) (w : Str) (s0 s2 s3 : Sl) : evE G run pD1 [s0, .val (.str w), s2, s3] = some (.bool (quant w).isNone) := by
  have gl : glV (G 6) = some (.tuple [.str (Wd.s .each), .str (Wd.s .some)]) := by rw [W.g6]; rfl
  have h := notin_words w
  unfold pD1
  rw [evE_cmp, evE_var, evE_glb, gl]
  show (cop .notin (.str w) (.tuple [.str (Wd.s .each), .str (Wd.s .some)])).map PyData.bool = _
  rw [h]; rfl
theorem evD2 (W : GW G) (w : Str) (s0 s1 s3 : Sl) : evE G run pD2 [s0, s1, .val (.str w), s3] = some (.bool (quant w).isNone) := by
  have gl : glV (G 6) = some (.tuple [.str (Wd.s .each), .str (Wd.s .some)]) := by rw [W.g6]; rfl
  have h := notin_words w
  unfold pD2
  rw [evE_cmp, evE_var, evE_glb, gl]
  show (cop .notin (.str w) (.tuple [.str (Wd.s .each), .str (Wd.s .some)])).map PyData.bool = _
  rw [h]; rfl
theorem evD3 (W : GW G) (ρ : Rho) : evE G run pD3 ρ = some (.int 5) := by
  unfold pD3
  rw [evE_glb, W.g0]; rfl
end
def spDem (K : PySem.W.Frag) (CR CN : Addr) : Sp := fun vs H Q E => ∃ Hf x dx p ws, vs = [.ref x] ∧ Sub H Hf ∧ RdAt K CR x dx p ws H Hf 0 ∧ (demR ws = none → ∀ H' Hf', ExtX x H Hf H' Hf' → E (.ref CN) none H') ∧
  ∀ d, demR ws = some d → ∀ v H' Hf', ExtX x H Hf H' Hf' → Rp K Hf' v d.enc → Q v H'
theorem demR_no1 {a b : Str} {ws : List Str} (h : quant a = none) : demR (a :: b :: ws) = none := by
  simp only [demR]
  cases parse 6 ws with
  | none => rfl
  | some p => simp [h]
theorem demR_no2 {a b : Str} {ws : List Str} (h : quant b = none) : demR (a :: b :: ws) = none := by
  simp only [demR]
  cases parse 6 ws with
  | none => rfl
  | some p => cases q : quant a <;> simp [h, q]
def nD : List Str := ["self", "one", "other", "found"]
theorem rp_word {K : PySem.W.Frag} {C x dx p : Addr} {ws : List Str} {H Hf : Hp} {i j : Nat} {w : Str} (rd : RdAt K C x dx p ws H Hf i) (hw : ws[j]? = some w) : w.length ≤ sizeLine ∧ PyData.strOk w = true := by
  have := rd.wr
  cases this with
  | lst _ _ rr =>
    obtain ⟨v, _, rv⟩ := rr.get (i := j) (d := .str w) (by rw [List.getElem?_map, hw]; rfl)
    cases rv with
    | str _ z o => exact ⟨z, o⟩
theorem dem_ok {T : Tab} {P : Program} {w : World} {K : PySem.W.Frag} {mg : Str → Option Value} {base : Heap} {CR CN fW fF f : Addr} {q : Str} {st : Stmt} {fdW fdF fd : FuncData}
    (R : RCls K mg CR CN) (W : GW T.G)
    (C0 : ∀ X : Cx, X.prog = P → X.w = w → X.K = K → X.mg = mg → X.base = base → X.N.Nodup → X.calm = true → (X.xe = fun _ _ => False) → X.env.scope.kind = .function → Room 0 X.A → Cok T 0 X)
    (MW : Meth K CR "word" fW) (bW : Binds K fdW ["self"] []) (FW : FnOk P w K mg base (L2.CX P w) 1 fW fdW ["self"] (spWord K CR CN))
    (MF : Meth K CR "form" fF) (bF : Binds K fdF ["self", "deep"] []) (FF : FnOk P w K mg base (L2.CX P w) 8 fF fdF ["self", "deep"] (spForm K CR CN 6))
    (D : Fun K "demand" q st f fd) (hS : scopeB nD ["self"] (defScope st) = true) {e1 e2 e3 : Expr} {m : Str} {j k : Nat}
    {p1 p2 p3 p4 p5 p6 p7 p8 p9 a1 a2 a3 a4 a5 a6 a7 a8 a9 b1 b2 b3 b4 b5 b6 b7 b8 b9 : Pos}
    (hst : defBody st = [
      .Assign [.Name "one" p1] (.Call (.Attribute (.Name "self" p2) "word" a1) [] [] a2) p3,
      .Assign [.Name "other" p4] (.Call (.Attribute (.Name "self" p5) "word" a3) [] [] a4) p6,
      .Assign [.Name "found" p7] (.Tuple [.Name "one" p8, .Name "other" p9, .Call (.Attribute (.Name "self" a5) "form" a6) [e3] [] a7] k a8) a9,
      .If (.BoolOp .Or [e1, e2, .Compare (.Attribute (.Name "self" b1) "at" b2) [.NotEq] [.Call (.Name "len" b3) [.Attribute (.Name "self" b4) "words" b5] [] b6] b7] b8) [.Raise (some (.Call (.Name "NoText" b9) [.Constant (.str m) j p1'] [] p2')) none p3'] [] p4',
      .Return (some (.Name "found" p5')) p6'])
    (h1 : slotB nD 0 (defScope st) "self" = true) (h2 : slotB nD 1 (defScope st) "one" = true) (h3 : slotB nD 2 (defScope st) "other" = true) (h4 : slotB nD 3 (defScope st) "found" = true)
    (l1 : locB (defScope st) "one" = true) (l2 : locB (defScope st) "other" = true) (l3 : locB (defScope st) "found" = true) (h5 : glB (defScope st) "NoText" = true) (h6 : glB (defScope st) "len" = true)
    (c1 : chk T nD pD1 (defScope st) e1 = true) (c2 : chk T nD pD2 (defScope st) e2 = true) (c3 : chk T nD pD3 (defScope st) e3 = true)
    (n1 : (a1.endLine == a2.line) = true) (n2 : (a3.endLine == a4.line) = true) (n3 : (a6.endLine == a7.line) = true) :
    FnOk P w K mg base (L2.CX P w) 9 f fd ["self"] (spDem K CR CN) := by
  have S := scope_of hS
  refine D.okX S (fun vs H Q E ⟨Hf, x, dx, p, ws, e, _⟩ => by rw [e]; rfl) fun cdv A outer s H vs Q E hr h => ?_
  obtain ⟨Hf, x, dx, p, ws, rfl, sub, rd, hraise, hret⟩ := h
  generalize hX : cxOf (L2.CX P w) P w K mg base nD q (defScope st) f cdv A outer s H E = X
  have eP : X.prog = P := by subst hX; rfl
  have eW : X.w = w := by subst hX; rfl
  have eK : X.K = K := by subst hX; rfl
  have eM : X.mg = mg := by subst hX; rfl
  have eB : X.base = base := by subst hX; rfl
  have eN : X.N = nD := by subst hX; rfl
  have eS : X.env.scope = defScope st := by subst hX; rfl
  have eC : X.calm = true := by subst hX; rfl
  have eA : X.A = A.deeper (envOfC q (defScope st) s.heap.objs.size f cdv) := by subst hX; rfl
  have tk : Takes X (fun cls d _ H => E cls d H) := by subst hX; exact takes_of rfl rfl rfl rfl
  have hfn : X.fn = fun _ => true := by subst hX; rfl
  rw [← eA] at hr
  have nd : X.N.Nodup := by rw [eN]; exact S.nd
  clear hX
  subst eP eW eK eM eB
  have CC : Cok T 0 X.nox := C0 X.nox rfl rfl rfl rfl rfl nd eC rfl (by show X.env.scope.kind = _; rw [eS]; exact S.kind) (hr.mono (by omega))
  rw [hst]
  rw [← eS] at h1 h2 h3 h4 h5 h6 l1 l2 l3 c1 c2 c3
  rw [← eN] at h1 h2 h3 h4 c1 c2 c3
  have S1 := (sndE pD1 X.nox e1 CC c1).t.nox
  have S2 := (sndE pD2 X.nox e2 CC c2).t.nox
  have S3 := (sndE pD3 X.nox e3 CC c3).f.nox
  have i1 : X.N[1]? = some ("one" : Str) := by rw [eN]; rfl
  have i2 : X.N[2]? = some ("other" : Str) := by rw [eN]; rfl
  have i3 : X.N[3]? = some ("found" : Str) := by rw [eN]; rfl
  have PASS : Passes (L2.CX X.prog X.w) X E := passes_call tk fun _ _ _ _ h => h
  have st3 := fun es => star_of (chk_plain pD3 c3) es X.env
  have hf3 : methodCallForm ([e3].length + ([] : List Keyword).length) (backTo a7 (starEach [e3] X.env)) (backToKw a7 (keywordEach [] X.env)) = true := by rw [st3]; rfl
  refine ⟨_, pss_cons (ps_set (i := 1) nd i1 (loc_of l1) (pe_meth0 (E := E) (pl := plainOf (.Name "self" p2) X.env) (slot_pe h1) R.cl MW FW (hr.mono (by omega)) bW .nil PASS (ev_meth rfl rfl n1)) (sw_no rfl rfl _ _ _) (.inl (by rw [hfn])))
    (pss_cons (ps_set (i := 2) nd i2 (loc_of l2) (pe_meth0 (E := E) (pl := plainOf (.Name "self" p5) X.env) (slot_pe h1) R.cl MW FW (hr.mono (by omega)) bW .nil PASS (ev_meth rfl rfl n2)) (sw_no rfl rfl _ _ _) (.inl (by rw [hfn])))
    (pss_cons (ps_set (i := 3) nd i3 (loc_of l3) (pe_tup (pa_cons (slot_pe h2) (pa_cons (slot_pe h3) (pa_cons (pe_meth (E := E) (pl := plainOf (.Name "self" a5) X.env) (slot_pe h1) R.cl MF FF hr bF .nil PASS (pa_cons S3 pa_nil (st3 [])) (st3 []) rfl (ev_meth rfl hf3 n3)) pa_nil)))) (sw_no rfl rfl _ _ _) (.inl (by rw [hfn])))
    (pss_cons (ps_if (pw_or S1 (pw_or S2 (pw_or1 (pt_cmpR op_ne (pe_fld (slot_pe h1) rfl) (pe_callB call_len_seq (gl_of h6) R.len PySem.boot_len (pa_cons (pe_fld (slot_pe h1) rfl) pa_nil)) (nomark _))))).pt (pss_one (ps_noText R eC tk h5)) pss_nil)
    (pss_one (ps_ret (slot_pe h4)))))), ?_⟩
  have es : L2.start nD [V.ref x] = [some (.ref x), none, none, none] := rfl
  rw [es]
  -- the first word
  refine ⟨.ref x, rfl, x, dx, _, rfl, rd.at_, rfl, Hf, x, dx, p, ws, 0, rfl, sub, rd, fun hl => ?_, fun one h0 => ?_⟩
  · refine hraise ?_ H Hf (ExtX.refl sub rd.nf)
    rw [List.length_eq_zero_iff.mp hl]; rfl
  have poke := ExtX.poke sub rd.nf (.ins CR dx (rfs p (0 + 1)))
  have hz0 : 0 < ws.length := (List.getElem?_eq_some_iff.mp h0).1
  have rd1 : RdAt X.K CR x dx p ws (upd H x (.ins CR dx (rfs p (0 + 1)))) Hf 1 := ⟨upd_same, rd.nf, rd.wr, hz0⟩
  have sub1 := poke.sub
  have w0 := rp_word rd h0
  generalize upd H x (.ins CR dx (rfs p (0 + 1))) = H1 at poke rd1 sub1 ⊢
  -- the second
  refine ⟨.ref x, rfl, x, dx, _, rfl, rd1.at_, rfl, Hf, x, dx, p, ws, 1, rfl, sub1, rd1, fun hl => ?_, fun oth h1' => ?_⟩
  · refine hraise ?_ H1 Hf poke
    match ws, hl with
    | [_], _ => rfl
  have X2 := poke.trans rd1.nf (ExtX.poke sub1 rd1.nf (.ins CR dx (rfs p (1 + 1))))
  have hz1 : 1 < ws.length := (List.getElem?_eq_some_iff.mp h1').1
  have rd2 : RdAt X.K CR x dx p ws (upd H1 x (.ins CR dx (rfs p (1 + 1)))) Hf 2 := ⟨upd_same, rd1.nf, rd1.wr, hz1⟩
  have sub2 := X2.sub
  have w1 := rp_word rd1 h1'
  generalize upd H1 x (.ins CR dx (rfs p (1 + 1))) = H2 at X2 rd2 sub2 ⊢
  obtain ⟨ws', rfl⟩ : ∃ ws', ws = one :: oth :: ws' := by
    match ws, h0, h1' with
    | a :: b :: r, h0, h1' => cases h0; cases h1'; exact ⟨r, rfl⟩
  have hdr : (one :: oth :: ws').drop 2 = ws' := rfl
  have erB : ∀ {H' Hf' : Hp} {s3 : Option V}, Sub H' Hf' → ER X.K [some (.ref x), some (.str one), some (.str oth), s3] H' Hf' [.un, .val (.str one), .val (.str oth), .un] := fun sb => er_vals rfl sb fun i t hi n => by
    match i, hi with
    | 0, hi => cases hi; exact absurd rfl n
    | 1, hi => cases hi; exact ⟨_, _, rfl, rfl, .str _ w0.1 w0.2⟩
    | 2, hi => cases hi; exact ⟨_, _, rfl, rfl, .str _ w1.1 w1.2⟩
    | 3, hi => cases hi; exact absurd rfl n
  -- the form
  refine ⟨.str one, rfl, .str oth, rfl, .ref x, rfl, x, dx, _, rfl, rd2.at_, rfl, Hf, _, _, erB sub2, by rw [ev]; exact evD3 W _, fun v3 H3 Hf3 e3 r3 => ?_⟩
  have X3 := X2.trans rd2.nf (e3.toX rd2.nf)
  have rd3 := rd2.ext e3
  cases r3
  refine ⟨Hf3, x, dx, p, _, 2, rfl, e3.sub, rd3, fun hn H' Hf' e' => ?_, fun f rest hf v H4 Hf4 j e4 rd4 hrest r4 => ?_⟩
  · refine hraise ?_ H' Hf' (X3.trans rd3.nf e')
    rw [hdr] at hn
    simp only [demR, hn]; rfl
  have X4 := X3.trans rd3.nf e4
  rw [hdr] at hf
  -- the tuple
  refine ⟨by show 3 ≤ sizeLine; decide, fun tp htp => ?_⟩
  have eT := Ext.alloc e4.sub htp (.tup [.str one, .str oth, v])
  have X5 := X4.trans rd4.nf (eT.toX rd4.nf)
  have rd5 := rd4.ext eT
  have rT : Rp X.K (upd Hf4 tp (.tup [.str one, .str oth, v])) (.ref tp) (.tuple [.str one, .str oth, f.enc]) :=
    .tup (.of upd_same) (by show 3 ≤ sizeLine; decide) (.cons (.str _ w0.1 w0.2) (.cons (.str _ w1.1 w1.2) (.cons (r4.mono eT.fr _ _) .nil)))
  have sub5 := eT.sub
  generalize upd H4 tp (.tup [.str one, .str oth, v]) = H5 at X5 rd5 sub5 eT ⊢
  generalize upd Hf4 tp (.tup [.str one, .str oth, v]) = Hf5 at X5 rd5 sub5 rT eT
  clear eT X4 rd4 X3 rd3 e3 e4
  -- the tests
  refine ⟨Hf5, _, _, erB sub5, by rw [ev, evD1 W]; rfl, fun H6 Hf6 e6 => ?_⟩
  have X6 := X5.trans rd5.nf (e6.toX rd5.nf)
  have rd6 := rd5.ext e6
  cases q1 : quant one with
  | none =>
    refine iteT ?_
    show (if true = true then _ else _)
    rw [if_pos rfl]
    exact hraise (demR_no1 q1) H6 Hf6 X6
  | some x1 =>
  refine iteF ?_
  refine ⟨Hf6, _, _, erB e6.sub, by rw [ev, evD2 W]; rfl, fun H7 Hf7 e7 => ?_⟩
  have X7 := X6.trans rd6.nf (e7.toX rd6.nf)
  have rd7 := rd6.ext e7
  cases q2 : quant oth with
  | none =>
    refine iteT ?_
    show (if true = true then _ else _)
    rw [if_pos rfl]
    exact hraise (demR_no2 q2) H7 Hf7 X7
  | some x2 =>
  refine iteF ?_
  obtain ⟨vs, sl, z, rr⟩ : ∃ vs, SqL X.K Hf7 p vs ∧ vs.length ≤ sizeLine ∧ RpAll X.K Hf7 vs ((one :: oth :: ws').map .str) := by
    have := rd7.wr
    cases this with
    | lst a b c => exact ⟨_, a, b, c⟩
  refine ⟨.ref x, rfl, x, CR, dx, _, _, rfl, rd7.at_, R.cl, R.na, rfl, .ref x, rfl, x, CR, dx, _, _, rfl, rd7.at_, R.cl, R.nw, rfl, p, vs, rfl, .inl (e7.sub.same.seq sl), rfl, _, rfl, ?_⟩
  have hlen : vs.length = (one :: oth :: ws').length := by rw [rr.length, List.length_map]
  have hj : (j = (one :: oth :: ws').length) ↔ rest = [] := by
    rw [← hrest]
    constructor
    · intro e; rw [List.drop_eq_nil_of_le (by omega)]
    · intro e
      have := List.drop_eq_nil_iff.mp e
      have := rd7.le
      omega
  rw [hlen]
  by_cases c : rest = []
  · have hj2 := hj.mpr c
    have e0 : (!decide (V.int ((j : Nat) : Int) = V.int (((one :: oth :: ws').length : Nat) : Int))) = false := by rw [hj2]; simp
    rw [e0]
    refine iteF ⟨.ref tp, rfl, ?_⟩
    refine hret ⟨x1, x2, f⟩ ?_ _ H7 Hf7 X7 ?_
    · simp only [demR, hf, c, q1, q2]; rfl
    · have h1 := quant_some q1
      have h2 := quant_some q2
      show Rp X.K Hf7 (.ref tp) (.tuple [.str (qw x1).s, .str (qw x2).s, f.enc])
      rw [← h1, ← h2]
      exact (rT.mono e6.fr _ _).mono e7.fr _ _
  · have hj2 : ¬ (V.int ((j : Nat) : Int) = V.int (((one :: oth :: ws').length : Nat) : Int)) := fun e => c (hj.mp (by injection e with e; omega))
    have e0 : (!decide (V.int ((j : Nat) : Int) = V.int (((one :: oth :: ws').length : Nat) : Int))) = true := by rw [decide_eq_false hj2]; rfl
    rw [e0]
    refine iteT ?_
    exact hraise (by simp only [demR, hf]; exact if_neg c) H7 Hf7 X7
end Ev

/-! ErE: read. -/
namespace Ev
open PySem PySem.Spec PyProof.Rows L2
theorem partsR_snoc : ∀ (l : List Str) (p : Str), partsR (l ++ [p]) = (partsR l).bind fun r => (demR (Txt.split p (Wd.s .blank))).map fun d => r ++ [d]
  | [], p => by
    show ((demR (Txt.split p (Wd.s .blank))).bind fun d => some [d]) = (demR (Txt.split p (Wd.s .blank))).map fun d => [] ++ [d]
    cases demR (Txt.split p (Wd.s .blank)) <;> rfl
  | a :: l, p => by
    rw [List.cons_append, partsR, partsR, partsR_snoc l p]
    cases demR (Txt.split a (Wd.s .blank)) with
    | none => rfl
    | some d =>
      cases partsR l with
      | none => rfl
      | some r =>
        show ((demR (Txt.split p (Wd.s .blank))).map fun e => r ++ [e]).map (fun r => d :: r) = (demR (Txt.split p (Wd.s .blank))).map fun e => (d :: r) ++ [e]
        cases demR (Txt.split p (Wd.s .blank)) <;> rfl
theorem partsR_none {l m : List Str} (h : partsR l = none) : partsR (l ++ m) = none := by
  induction l with
  | nil => cases h
  | cons a l ih =>
    rw [List.cons_append, partsR]
    rw [partsR] at h
    cases q : demR (Txt.split a (Wd.s .blank)) with
    | none => rfl
    | some d =>
      rw [q] at h
      cases q2 : partsR l with
      | none =>
        show (partsR (l ++ m)).map _ = none
        rw [ih q2]; rfl
      | some r =>
        have h' : (partsR l).map (fun r => d :: r) = none := h
        rw [q2] at h'; cases h'
def pR0 : PX := .not (.isI (.var 0) .str)
def pR1 : PX := .cmp .eq (.var 0) (.lit (.str (Wd.s .dash)))
def pR2 : PX := .tup .nil
def pR3 : PX := .split (.var 2) (.lit (.str (Wd.s .blank)))
def pR4 : PX := .split (.var 0) (.lit (.str (Wd.s .semi)))
def pR5 : PX := .or (.not (.call 6 (.cons (.var 1) .nil))) (.cmp .ne (.call 26 (.cons (.var 1) .nil)) (.var 0))
/-- what is asked of is_row and written -/
structure RRun (T : Tab) (n : Nat) : Prop where
  isr : ∀ r : List Dem, (∀ d ∈ r, d.form.deep ≤ 5) → T.run n 6 [encR r] = some (.bool (decide (r.length ≤ 4) && decide ((r.filter Dem.mark).length ≤ 2)))
  wrt : ∀ r : List Dem, (∀ d ∈ r, d.form.deep ≤ 5) → r.length ≤ 4 → T.run n 26 [encR r] = some (.str (rowText r))
section
variable {G : Nat → Option PyData} {run : Nat → List PyData → Option PyData}
theorem evR0 (t : Str) (s1 s2 : Sl) : evE G run pR0 [.val (.str t), s1, s2] = some (.bool false) := by simp [pR0, isTy]
theorem evR1 (t : Str) (s1 s2 : Sl) : evE G run pR1 [.val (.str t), s1, s2] = some (.bool (decide (t = Wd.s .dash))) := by
  simp [pR1, eqv_strs]
theorem evR2 (ρ : Rho) : evE G run pR2 ρ = some (.tuple []) := by simp [pR2]
theorem evR3 (t : Str) (s0 s1 : Sl) (h : t.length ≤ 1000000) : evE G run pR3 [s0, s1, .val (.str t)] = some (.list ((Txt.split t (Wd.s .blank)).map .str)) := by
  have hb : (Wd.s .blank).length ≠ 0 := by decide +kernel
  simp [pR3, splitD, hb, h]
theorem evR4 (t : Str) (s1 s2 : Sl) (h : t.length ≤ 1000000) : evE G run pR4 [.val (.str t), s1, s2] = some (.list ((Txt.split t (Wd.s .semi)).map .str)) := by
  have hb : (Wd.s .semi).length ≠ 0 := by decide +kernel
  simp [pR4, splitD, hb, h]
end
theorem evR5 {T : Tab} {n : Nat} (RR : RRun T n) {t : Str} {r : List Dem} (hd : ∀ d ∈ r, d.form.deep ≤ 5) (ht : r.length ≤ 4 → rowText r = t) (s2 : Sl) :
    evE T.G (T.run n) pR5 [.val (.str t), .val (encR r), s2] = some (.bool (!(decide (r.length ≤ 4) && decide ((r.filter Dem.mark).length ≤ 2)))) := by
  have h1 := RR.isr r hd
  by_cases c : r.length ≤ 4
  · have h2 := RR.wrt r hd c
    rw [ht c] at h2
    by_cases c2 : (r.filter Dem.mark).length ≤ 2
    · simp [pR5, h1, h2, c, c2, eqv_strs]
    · simp [pR5, h1, c, c2]
  · simp [pR5, h1, c]
def nR : List Str := ["text", "found", "part"]
def spRead (K : PySem.W.Frag) (CN : Addr) : Sp := fun vs H Q E => ∃ Hf t, vs = [.str t] ∧ Sub H Hf ∧ t.length ≤ 1000000 ∧ PyData.strOk t = true ∧ (readR t = none → ∀ H' Hf', Ext H Hf H' Hf' → E (.ref CN) none H') ∧
  ∀ r, readR t = some r → ∀ v H' Hf', Ext H Hf H' Hf' → Rp K Hf' v (encR r) → Q v H'
theorem read_ok {T : Tab} {n lv : Nat} {P : Program} {w : World} {K : PySem.W.Frag} {mg : Str → Option Value} {base : Heap} {CR CN fI fD f : Addr} {q : Str} {st : Stmt} {fdI fdD fd : FuncData}
    (R : RCls K mg CR CN) (RR : RRun T n) (hbn : ∀ x ∈ bNames, mg x = none) (hl9 : 9 ≤ lv)
    (C0 : ∀ X : Cx, X.prog = P → X.w = w → X.K = K → X.mg = mg → X.base = base → X.N.Nodup → X.calm = true → (X.xe = fun _ _ => False) → X.env.scope.kind = .function → Room lv X.A → Cok T n X)
    (gR : mg "Reader" = some (.ref CR)) (MI : Mk K CR fI) (bI : Binds K fdI ["self", "words"] []) (FI : FnOk P w K mg base CX0 1 fI fdI ["self", "words"] (spRInit CR))
    (MD : Meth K CR "demand" fD) (bD : Binds K fdD ["self"] []) (FD : FnOk P w K mg base (L2.CX P w) 9 fD fdD ["self"] (spDem K CR CN))
    (D : Fun K "read" q st f fd) (hS : scopeB nR ["text"] (defScope st) = true) {scope : Scope} {e0 e1 e2 e3 e4 e5 : Expr} {m1 m2 : Str} {j1 j2 : Nat}
    {p1 p2 p3 p4 p5 p6 p7 p8 p9 a1 a2 a3 a4 a5 a6 a7 a8 b1 b2 b3 b4 b5 b6 b7 : Pos}
    (hst : defBody st = [
      .If e0 [.Raise (some (.Call (.Name "NoText" p1) [.Constant (.str m1) j1 p2] [] p3)) none p4] [] p5,
      .If e1 [.Return (some e2) p6] [] p7,
      .Assign [.Name "found" p8] (.Call (.Name "tuple" p9) [.ListComp (.Call (.Attribute (.Call (.Name "Reader" a1) [e3] [] a2) "demand" a3) [] [] a4) [⟨.Name "part" a5, e4, [], 0⟩] scope a6] [] a7) a8,
      .If e5 [.Raise (some (.Call (.Name "NoText" b1) [.Constant (.str m2) j2 b2] [] b3)) none b4] [] b5,
      .Return (some (.Name "found" b6)) b7])
    (h1 : slotB nR 1 (defScope st) "found" = true) (l1 : locB (defScope st) "found" = true) (h4 : glB (defScope st) "NoText" = true) (h5 : glB (defScope st) "tuple" = true)
    (c0 : chk T nR pR0 (defScope st) e0 = true) (c1 : chk T nR pR1 (defScope st) e1 = true) (c2 : chk T nR pR2 (defScope st) e2 = true) (c4 : chk T nR pR4 (defScope st) e4 = true) (c5 : chk T nR pR5 (defScope st) e5 = true)
    (B : blkC nR (defScope st) scope [("part", 2)] = true) (c3 : chk T nR pR3 (relS scope (defScope st)) e3 = true) (s1 : glB (relS scope (defScope st)) "Reader" = true) (s3 : locB (relS scope (defScope st)) "part" = true) (s4 : (relS scope (defScope st)).names.lookup ("part" : Str) = some .local)
    (n1 : (a3.endLine == a4.line) = true) :
    FnOk P w K mg base (L2.CX P w) (lv + 1) f fd ["text"] (spRead K CN) := by
  have S := scope_of hS
  refine D.okX S (fun vs H Q E ⟨Hf, t, e, _⟩ => by rw [e]; rfl) fun cdv A outer s H vs Q E hr h => ?_
  obtain ⟨Hf, t, rfl, sub, tz, tok, hraise, hret⟩ := h
  generalize hX : cxOf (L2.CX P w) P w K mg base nR q (defScope st) f cdv A outer s H E = X
  have eP : X.prog = P := by subst hX; rfl
  have eW : X.w = w := by subst hX; rfl
  have eK : X.K = K := by subst hX; rfl
  have eM : X.mg = mg := by subst hX; rfl
  have eB : X.base = base := by subst hX; rfl
  have eN : X.N = nR := by subst hX; rfl
  have eS : X.env.scope = defScope st := by subst hX; rfl
  have eC : X.calm = true := by subst hX; rfl
  have eA : X.A = A.deeper (envOfC q (defScope st) s.heap.objs.size f cdv) := by subst hX; rfl
  have tk : Takes X (fun cls d _ H => E cls d H) := by subst hX; exact takes_of rfl rfl rfl rfl
  have hs0 : X.stack = X.env :: X.outer := by subst hX; rfl
  have hf0 : X.env.frame = some X.env.locals := by subst hX; rfl
  have hex : X.ex = [] := by subst hX; rfl
  have hfn : X.fn = fun _ => true := by subst hX; rfl
  have hx0 : ∃ E₁, X.xe = fun e s' => wpAny (model X.prog X.w) X.A (leaving X.env e) (fun _ s'' => CX X.prog X.w X.outer X.H_0 X.s_0 E e s'') E₁ s' := by subst hX; exact ⟨_, rfl⟩
  rw [← eA] at hr
  have nd : X.N.Nodup := by rw [eN]; exact S.nd
  clear hX
  subst eP eW eK eM eB
  have CC : Cok T n X.nox := C0 X.nox rfl rfl rfl rfl rfl nd eC rfl (by show X.env.scope.kind = _; rw [eS]; exact S.kind) hr
  rw [hst]
  rw [← eS] at h1 l1 h4 h5 c0 c1 c2 c4 c5 B c3 s1 s3 s4
  rw [← eN] at h1 c0 c1 c2 c4 c5 B c3
  have BK := blkOk_by B
  have S0 := (sndE pR0 X.nox e0 CC c0).t.nox
  have S1 := (sndE pR1 X.nox e1 CC c1).t.nox
  have S2 := (sndE pR2 X.nox e2 CC c2).f.nox
  have S4 := (sndE pR4 X.nox e4 CC c4).f.nox
  have S5 := (sndE pR5 X.nox e5 CC c5).t.nox
  have i1 : X.N[1]? = some ("found" : Str) := by rw [eN]; rfl
  have i2 : X.N[2]? = some ("part" : Str) := by rw [eN]; rfl
  obtain ⟨E₁, hx0⟩ := hx0
  have bt : X.mg "tuple" = none := hbn _ (by simp [bNames])
  have st3 := fun es => fun env => star_of (chk_plain pR3 c3) es env
  have S3 : ∀ (s : Shared) (H : Hp) (C : Addr) (cl : List (Str × Addr)) (fp : List Addr), PE (blkE X E s H scope (compEnvC scope cl C X.env) fp) e3 (tF X.K (ev T n pR3)) := fun s H C cl fp =>
    (sndE pR3 (blkE X E s H scope (compEnvC scope cl C X.env) fp).nox e3 (CC.blk s H cl C fp BK.kind) c3).f.nox
  have COMP := fun (E' : Value → Shared → Prop) => pe_lcX (X := X) (E := E) (elt := .Call (.Attribute (.Call (.Name "Reader" a1) [e3] [] a2) "demand" a3) [] [] a4) (tg := .Name "part" a5) (iter := e4) (ifs := []) (scope := scope) (own := [("part", 2)]) (pos := a6) (g := gName 2) (tt := tYes) eC nd hs0 hf0 hex hx0
    (pi_seqF S4) BK (fun s H C cl fp => pg_name (i := 2) nd i2 (loc_of s3) (.inr s4)) (fun s H C cl fp => pts_nil)
    (fun s H C cl fp => pe_meth0 (X := blkE X E s H scope (compEnvC scope cl C X.env) fp) (E := E) (pl := plainOf (.Call (.Name "Reader" a1) [e3] [] a2) (compEnvC scope cl C X.env))
      (pe_make (E := E) MI FI (hr.mono (by omega)) (gl_of s1) gR bI .nil pass0 (pa_cons (S3 s H C cl fp) pa_nil (st3 _ _)) (by decide) (st3 _ _) rfl) R.cl MD FD (hr.mono hl9) bD .nil (fun pins σ H' sc u s' I c => blkE_pass X E s H scope _ fp σ pins H' sc u s' I c) (ev_meth rfl rfl n1))
    (fold_of (chk_plain pR4 c4) _)
  refine ⟨_, pss_cons (ps_if S0 (pss_one (ps_noText R eC tk h4)) pss_nil)
    (pss_cons (ps_if S1 (pss_one (ps_ret S2)) pss_nil)
    (pss_cons (ps_set (i := 1) nd i1 (loc_of l1) (pe_callTy call_tuple_of (gl_of h5) bt PyProof.Rows.boot_tuple (pa_cons (COMP E₁) pa_nil)) (sw_no rfl rfl _ _ _) (.inl (by rw [hfn])))
    (pss_cons (ps_if S5 (pss_one (ps_noText R eC tk h4)) pss_nil)
    (pss_one (ps_ret (slot_pe h1)))))), ?_⟩
  have es : L2.start nR [V.str t] = [some (.str t), none, none] := rfl
  rw [es]
  have tz2 : t.length ≤ sizeLine := by rw [sizeLine_eq]; omega
  have erA : ∀ {H' Hf' : Hp} {s1 s2 : Option V}, Sub H' Hf' → ER X.K [some (.str t), s1, s2] H' Hf' [.val (.str t), .un, .un] := fun sb => er_vals rfl sb fun i u hi n => by
    match i, hi with
    | 0, hi => cases hi; exact ⟨_, _, rfl, rfl, .str _ tz2 tok⟩
    | 1, hi => cases hi; exact absurd rfl n
    | 2, hi => cases hi; exact absurd rfl n
  refine ⟨Hf, _, _, erA sub, by rw [ev, evR0]; rfl, fun H1 Hf1 e1 => iteF ?_⟩
  refine ⟨Hf1, _, _, erA e1.sub, by rw [ev, evR1]; rfl, fun H2 Hf2 e2 => ?_⟩
  have E2 := e1.trans e2
  refine ite2 (fun c => ?_) fun c => ?_
  · have c := of_decide_eq_true c
    refine ⟨Hf2, _, _, erA e2.sub, by rw [ev, evR2], fun v H3 Hf3 e3 r3 => ?_⟩
    exact hret [] (by unfold readR; rw [if_pos c]) v H3 Hf3 (E2.trans e3) r3
  have c : ¬ t = Wd.s .dash := fun e => c (decide_eq_true e)
  have hrd : readR t = (partsR (Txt.split t (Wd.s .semi))).bind fun r => if r.length ≤ 4 ∧ (r.filter Dem.mark).length ≤ 2 then some r else none := by
    unfold readR; rw [if_neg c]
  have hsem : (Wd.s .semi).length ≠ 0 := by decide +kernel
  have hps : ∀ p ∈ Txt.split t (Wd.s .semi), p.length ≤ t.length := fun p hp => (split_sub hsem hp).1
  have hne := split_ne t (Wd.s .semi)
  have hjoin : Str.join (Wd.s .semi) (Txt.split t (Wd.s .semi)) = t := PySem.StrLaws.join_split _ _
  refine ⟨Hf2, _, (Txt.split t (Wd.s .semi)).map .str, erA E2.sub, ?_, fun J H6 Hf6 e6 hz gi Dl hD => ?_⟩
  · show (ev T n pR4 [.val (.str t), .un, .un]).bind seqD = _
    rw [ev, evR4 _ _ _ tz]; rfl
  generalize hps0 : Txt.split t (Wd.s .semi) = ps at hrd hps hne hjoin gi hz
  have gi : GI X.K J (ps.map .str) Hf6 Hf6 := gi
  have E6 := E2.trans e6
  have sub6 := e6.sub
  clear e6 E2 e2 e1 erA
  rw [List.length_map] at hz
  let Pv : Nat → Hp → Prop := fun n H7 => ∃ Hf7 vs ds, Ext H6 Hf6 H7 Hf7 ∧ H7 Dl = some (.lst vs) ∧ Hf7 Dl = none ∧ vs.length = n ∧ RpAll X.K Hf7 vs (ds.map Dem.enc) ∧ partsR (ps.take n) = some ds
  have e0 := Ext.allocO sub6 hD (.lst [])
  refine ⟨fun n mm H7 => mm = ps.length - n ∧ n ≤ ps.length ∧ Pv n H7, ⟨ps.length, by omega, Nat.zero_le _, Hf6, [], [], e0, upd_same, sub_none sub6 hD, rfl, .nil, rfl⟩, ?_⟩
  rintro i mm H7 ⟨rfl, hn, Hf7, vs, ds, e7, hD7, nD7, hl7, rr7, hp7⟩
  obtain ⟨g1, g2⟩ := gi i H7 Hf7 e7.fr e7.sub (Same.hs (e7.fr.trans e7.sub.same))
  by_cases hlt : i < ps.length
  · refine .inr ?_
    have hx : (ps.map PyData.str)[i]? = some (.str ps[i]) := by rw [List.getElem?_map, List.getElem?_eq_getElem hlt]; rfl
    obtain ⟨go, yld⟩ := g2 _ hx
    refine ⟨go, Pv (i + 1), fun H' p' => ⟨ps.length - (i + 1), by omega, rfl, hlt, p'⟩, fun xx H8 y8 => ?_⟩
    obtain ⟨Hf8, e8, rx⟩ := yld xx H8 y8
    have htk : ps.take (i + 1) = ps.take i ++ [ps[i]] := by rw [List.take_succ, List.getElem?_eq_getElem hlt]; rfl
    have hpl : ps[i].length ≤ 1000000 := Nat.le_trans (hps _ (List.getElem_mem hlt)) tz
    generalize ps[i] = part at rx htk hpl
    cases rx with
    | str _ pz po =>
    refine ⟨rfl, ?_⟩
    unfold tYes
    dsimp only
    rw [if_pos rfl]
    have er8 : ER X.K ((L2.wipe [some (V.str t), none, none] (List.map (·.2) [(("part" : Str), 2)])).set 2 (some (.str part))) H8 Hf8 [.val (.str t), .un, .val (.str part)] := er_vals rfl e8.sub fun i u hi n => by
      match i, hi with
      | 0, hi => cases hi; exact ⟨_, _, rfl, rfl, .str _ tz2 tok⟩
      | 1, hi => cases hi; exact absurd rfl n
      | 2, hi => cases hi; exact ⟨_, _, rfl, rfl, .str _ pz po⟩
    refine ⟨Hf8, _, _, er8, by rw [ev, evR3 _ _ _ hpl], fun v H9 Hf9 e9 r9 => ?_⟩
    cases r9 with
    | @lst p wvs _ sl wz wr =>
    intro x dx hx hdx hne2
    refine ⟨x, dx, .ref p, rfl, upd_same, fun H10 h10 h10' => ⟨rfl, ?_⟩⟩
    have eA := Ext.allocO e9.sub hdx (.own x)
    have hx' : upd H9 dx (.own x) x = none := by rw [upd_ne (Ne.symm hne2)]; exact hx
    have eB := Ext.allocO eA.sub hx' (.ins CR dx (rfs p 0))
    have eH : H10 = upd (upd H9 dx (.own x)) x (.ins CR dx (rfs p 0)) := by
      funext b
      by_cases cb : b = x
      · subst cb; rw [upd_same, h10]; rfl
      · rw [h10' b cb, upd_ne cb, upd_ne cb]
    rw [← eH] at eB
    have e10 := eA.trans eB
    have nx9 : Hf9 x = none := e9.sub.free hx
    have rd10 : RdAt X.K CR x dx p (Txt.split part (Wd.s .blank)) H10 Hf9 0 := ⟨h10, nx9, .lst sl wz wr, Nat.zero_le _⟩
    have E10 := e7.trans (e8.trans (e9.trans e10))
    have x6 : H6 x = none := (e7.trans (e8.trans e9)).free hx
    refine ⟨x, dx, _, rfl, h10, rfl, Hf9, x, dx, p, _, rfl, e10.sub, rd10, fun hd H' Hf' e' => ?_, fun d hd v2 H11 Hf11 e11 r11 => ?_⟩
    · refine hraise ?_ H' Hf' (E6.trans (E10.thenX x6 nx9 e'))
      rw [hrd]
      have h2 : partsR (ps.take (i + 1)) = none := by
        rw [htk, partsR_snoc, hp7, hd]; rfl
      have h3 := partsR_none (m := ps.drop (i + 1)) h2
      rw [List.take_append_drop] at h3
      rw [h3]; rfl
    · have hD9 := (e8.trans e9).lst hD7
      have nx : Dl ≠ x := fun e => by subst e; rw [hx] at hD9; cases hD9
      have hD10 := e10.lst hD9
      have hh : hide x H10 Dl = some (.lst vs) := by rw [hide_of nx]; exact hD10
      have hD11 := e11.lst hh
      have nD11 := e11.unf hh ((e8.trans (e9.trans e10)).unf hD7 nD7)
      have E11 := E10.thenX x6 nx9 e11
      refine ⟨vs, hD11, by rw [sizeLine_eq] at hz ⊢; omega, Hf11, vs ++ [v2], ds ++ [d], Ext.poke _ E11 hD nD11 hD11, upd_same, nD11, ?_, ?_, ?_⟩
      · rw [List.length_append, List.length_singleton]; omega
      · rw [List.map_append]
        exact ((rr7.mono (e8.trans (e9.trans e10)).fr _ _).mono e11.fr _ _).append (.cons r11 .nil)
      · rw [htk, partsR_snoc, hp7, hd]; rfl
  · have en : i = ps.length := by omega
    subst en
    rw [List.take_length] at hp7
    refine .inl ⟨g1 (by rw [List.length_map]), Dl, vs, rfl, .inl ⟨.of hD7, fun l hl => ?_⟩⟩
    have eT := Ext.alloc e7.sub hl (.tup vs)
    obtain ⟨ht1, ht2⟩ := partsR_text hp7
    have hnd : ds ≠ [] := fun e => by rw [e] at ht1; exact hne ht1.symm
    have hrow : rowText ds = t := by
      unfold rowText
      rw [if_neg hnd, ht1, hjoin]
    have hzv : vs.length ≤ sizeLine := by omega
    have rT : Rp X.K (upd Hf7 l (.tup vs)) (.ref l) (encR ds) := .tup (.of upd_same) hzv (rr7.mono eT.fr _ _)
    have ET := E6.trans (e7.trans eT)
    rw [hp7] at hrd
    have hrd : readR t = if ds.length ≤ 4 ∧ (ds.filter Dem.mark).length ≤ 2 then some ds else none := hrd
    have erT : ER X.K ([some (V.str t), none, none].set 1 (some (.ref l))) (upd H7 l (.tup vs)) (upd Hf7 l (.tup vs)) [.val (.str t), .val (encR ds), .un] := er_vals rfl eT.sub fun i u hi n => by
      match i, hi with
      | 0, hi => cases hi; exact ⟨_, _, rfl, rfl, .str _ tz2 tok⟩
      | 1, hi => cases hi; exact ⟨_, _, rfl, rfl, rT⟩
      | 2, hi => cases hi; exact absurd rfl n
    refine ⟨_, _, _, erT, by rw [ev, evR5 RR ht2 fun _ => hrow]; rfl, fun H12 Hf12 e12 => ?_⟩
    by_cases c5 : ds.length ≤ 4 ∧ (ds.filter Dem.mark).length ≤ 2
    · rw [if_pos c5] at hrd
      have e0 : (!(decide (ds.length ≤ 4) && decide ((ds.filter Dem.mark).length ≤ 2))) = false := by rw [decide_eq_true c5.1, decide_eq_true c5.2]; rfl
      rw [e0]
      refine iteF ⟨.ref l, rfl, ?_⟩
      exact hret ds hrd _ H12 Hf12 (ET.trans e12) (rT.mono e12.fr _ _)
    · rw [if_neg c5] at hrd
      have e0 : (!(decide (ds.length ≤ 4) && decide ((ds.filter Dem.mark).length ≤ 2))) = true := by
        by_cases d1 : ds.length ≤ 4
        · have d2 : ¬ (ds.filter Dem.mark).length ≤ 2 := fun z => c5 ⟨d1, z⟩
          rw [decide_eq_false d2, Bool.and_false]; rfl
        · rw [decide_eq_false d1]; rfl
      rw [e0]
      exact iteT (hraise hrd H12 Hf12 (ET.trans e12))
end Ev

/-! ErF: what the law is told. -/
namespace Ev
open PySem PySem.Spec PyProof.Rows L2
def encO : Option (List Dem) → PyData
  | none => .none
  | some r => encR r
/-- what is known of the classes of errors -/
structure RExc (K : PySem.W.Frag) (mg : Str → Option Value) (CN CD : Addr) : Prop where
  gD : mg "DemandError" = some (.ref CD)
  nV : mg "ValueError" = none
  ex : ExcC K CN
  kD : PySem.W.kitOne K (.ref CN) (.ref CD) = some true
  kV : PySem.W.kitOne K (.ref CN) (.type "ValueError") = some true
  em : PySem.W.exmOne K (.ref CN) (.ref CN) = some true
theorem kit_own {K : PySem.W.Frag} {C : Addr} {t : Value} (hd : PySem.W.hasDictIn K C = true) (ht : PySem.W.typeIn K (.ref C) = some (.type "type")) (hs : PySem.W.subIn K t (.ref C) = some true) : PySem.W.kitOne K t (.ref C) = some true := by
  unfold PySem.W.kitOne
  split
  · rfl
  · obtain ⟨cd, hc, _⟩ := PySem.W.any_some hd
    have e2 : ((PySem.W.clsIn K C).isSome && PySem.W.typeIn K (.ref C) == some (.type "type")) = true := by rw [hc, ht] <;> rfl
    show (if ((PySem.W.clsIn K C).isSome && PySem.W.typeIn K (.ref C) == some (.type "type")) = true then PySem.W.subIn K t (.ref C) else none) = some true
    rw [if_pos e2]
    exact hs
theorem kit_bty {K : PySem.W.Frag} {T : String} {t : Value} (hm : PySem.W.kitMeta T = true) (hs : PySem.W.subIn K t (.type T) = some true) : PySem.W.kitOne K t (.type T) = some true := by
  unfold PySem.W.kitOne
  split
  · rfl
  · show (if PySem.W.kitMeta T = true then PySem.W.subIn K t (.type T) else none) = some true
    rw [if_pos hm]
    exact hs
def nT : List Str := ["_law_text_here", "_law_found", "e"]
def pT1 : PX := .ix (.lst (.cons (.var 1) (.cons (.lit (.int 0)) .nil))) (.blt .int (.isN false (.var 1)))
theorem evT1 {G : Nat → Option PyData} {run : Nat → List PyData → Option PyData} (r : List Dem) (s0 s2 : Sl) : evE G run pT1 [s0, .val (encR r), s2] = some (encR r) := by
  simp [pT1, encR, isNone]
theorem suite_ok {X : Cx} {a CN CD : Addr} {oe : Obj} {cls : Value} {d : Option Addr} {pn : List (Addr × Obj)} {i : Nat} (hz : Zc cls d oe) (hf : ∃ vs, oe.data = .fields vs) (RE : RExc X.K X.mg CN CD) (hi : X.mg "int" = none) (hs : X.mg "isinstance" = none)
    (h1 : slotB X.N i X.env.scope "e" = true) (g1 : glB X.env.scope "int" = true) (g2 : glB X.env.scope "isinstance" = true) (g3 : glB X.env.scope "DemandError" = true) (g4 : glB X.env.scope "ValueError" = true) {j1 j2 : Nat} {p7 p8 p9 a1 a2 a3 a4 a5 a6 a7 a8 a9 b1 b2 b3 b4 : Pos} :
    PSs (X.suite a ((a, oe) :: pn)) [.Return (some (.Subscript (.List [.Constant (.int 0) j1 p7, .Constant .none j2 p8] p9) (.Call (.Name "int" a1) [.BoolOp .And [.Call (.Name "isinstance" a2) [.Name "e" a3, .Name "DemandError" a4] [] a5, .Call (.Name "isinstance" a6) [.Name "e" a7, .Name "ValueError" a8] [] a9] b1] [] b2) b3)) b4]
      (fun D σ H => cls = .ref CN ∧ d = none ∧ σ[i]? = some (some (.ref a)) ∧ ∀ H', (∀ Hf, Sub H Hf → Ext H Hf H' Hf) → D.rt .non H') := by
  by_cases c : cls = .ref CN ∧ d = none
  · obtain ⟨rfl, rfl⟩ := c
    refine PSsimp (pss_one (ps_ret (pe_ix ix_list (pe_lst (pa_cons pe_int (pa_cons pe_non pa_nil))) (pe_callTy call_int1 (gl_of (X := X.suite a ((a, oe) :: pn)) g1) hi PyProof.Rows.boot_int (pa_cons (pe_and
      (pe_callB (call_isE RE.ex hz hf) (gl_of (X := X.suite a ((a, oe) :: pn)) g2) hs PyProof.Rows.boot_isinstance (pa_cons (slot_pe (X := X.suite a ((a, oe) :: pn)) h1) (pa_cons (pe_glob (v := .ref CD) (gl_of (X := X.suite a ((a, oe) :: pn)) g3) RE.gD rfl) pa_nil)))
      (pe_one (pe_callB (call_isE RE.ex hz hf) (gl_of (X := X.suite a ((a, oe) :: pn)) g2) hs PyProof.Rows.boot_isinstance (pa_cons (slot_pe (X := X.suite a ((a, oe) :: pn)) h1) (pa_cons (pe_bltn (v := .ty "ValueError") (gl_of (X := X.suite a ((a, oe) :: pn)) g4) RE.nV boot_ValueError rfl) pa_nil))))) pa_nil)) (fun _ _ => rfl)))) fun D σ H ⟨_, _, hσ, k⟩ => ?_
    refine ⟨by show 2 ≤ sizeLine; decide, fun l hl => ?_⟩
    refine ⟨.ref a, hσ, .ref CD, .ref CD, true, rfl, fun u hu => hu, RE.kD, true, rfl, iteT ?_⟩
    refine ⟨.ref a, hσ, .ty "ValueError", .type "ValueError", true, rfl, fun u hu => hu, RE.kV, ?_⟩
    refine .inr ⟨true, rfl, ?_⟩
    exact ⟨l, _, _, _, rfl, rfl, .of upd_same, rfl, k _ fun Hf sb => Ext.allocO sb hl _⟩
  · exact ⟨fun pins s σ H D I h => absurd ⟨h.1, h.2.1⟩ c⟩
def spTold (K : PySem.W.Frag) : Sp := fun vs H Q _ => ∃ Hf t, vs = [.str t] ∧ Sub H Hf ∧ t.length ≤ 1000000 ∧ PyData.strOk t = true ∧ ∀ v H' Hf', Ext H Hf H' Hf' → Rp K Hf' v (encO (readR t)) → Q v H'
theorem told_ok {T : Tab} {n lv : Nat} {P : Program} {w : World} {K : PySem.W.Frag} {mg : Str → Option Value} {base : Heap} {CR CN CD fR f : Addr} {q : Str} {st : Stmt} {fdR fd : FuncData}
    (R : RCls K mg CR CN) (RE : RExc K mg CN CD) (hbn : ∀ x ∈ bNames, mg x = none)
    (C0 : ∀ X : Cx, X.prog = P → X.w = w → X.K = K → X.mg = mg → X.base = base → X.N.Nodup → X.calm = true → (X.xe = fun _ _ => False) → X.env.scope.kind = .function → Room lv X.A → Cok T n X)
    (gR : mg "read" = some (.ref fR)) (kR : PySem.W.keepIn K (.ref fR) = true) (bR : Binds K fdR ["text"] []) (FR : FnOk P w K mg base (L2.CX P w) lv fR fdR ["text"] (spRead K CN))
    (D : Fun K "_law_told" q st f fd) (hS : scopeB nT ["_law_text_here"] (defScope st) = true) {e1 : Expr} {j1 j2 : Nat}
    {p1 p2 p3 p4 p5 p6 p7 p8 p9 a1 a2 a3 a4 a5 a6 a7 a8 a9 b1 b2 b3 b4 b5 b6 b7 : Pos}
    (hst : defBody st = [
      .Try [.Assign [.Name "_law_found" p1] (.Call (.Name "read" p2) [.Name "_law_text_here" p3] [] p4) p5] [.ExceptHandler (some (.Name "NoText" p6)) (some "e")
        [.Return (some (.Subscript (.List [.Constant (.int 0) j1 p7, .Constant .none j2 p8] p9) (.Call (.Name "int" a1) [.BoolOp .And [.Call (.Name "isinstance" a2) [.Name "e" a3, .Name "DemandError" a4] [] a5, .Call (.Name "isinstance" a6) [.Name "e" a7, .Name "ValueError" a8] [] a9] b1] [] b2) b3)) b4] b5] [] [] b6,
      .Return (some e1) b7])
    (h0 : slotB nT 0 (defScope st) "_law_text_here" = true) (h2 : slotB nT 2 (defScope st) "e" = true) (l1 : locB (defScope st) "_law_found" = true) (l2 : (defScope st).names.lookup ("e" : Str) = some .local)
    (g0 : glB (defScope st) "NoText" = true) (g1 : glB (defScope st) "int" = true) (g2 : glB (defScope st) "isinstance" = true) (g3 : glB (defScope st) "DemandError" = true) (g4 : glB (defScope st) "ValueError" = true) (g5 : glB (defScope st) "read" = true)
    (c1 : chk T nT pT1 (defScope st) e1 = true) : FnOk P w K mg base CX0 (lv + 1) f fd ["_law_text_here"] (spTold K) := by
  have S := scope_of hS
  refine D.ok S (fun vs H Q E ⟨Hf, t, e, _⟩ => by rw [e]; rfl) fun cdv A outer s H vs Q E hr h => ?_
  obtain ⟨Hf, t, rfl, sub, tz, tok, k⟩ := h
  generalize hX : (cxOf CX0 P w K mg base nT q (defScope st) f cdv A outer s H E).nox = X
  have eP : X.prog = P := by subst hX; rfl
  have eW : X.w = w := by subst hX; rfl
  have eK : X.K = K := by subst hX; rfl
  have eM : X.mg = mg := by subst hX; rfl
  have eB : X.base = base := by subst hX; rfl
  have eN : X.N = nT := by subst hX; rfl
  have eS : X.env.scope = defScope st := by subst hX; rfl
  have eC : X.calm = true := by subst hX; rfl
  have eX : X.xe = fun _ _ => False := by subst hX; rfl
  have eA : X.A = A.deeper (envOfC q (defScope st) s.heap.objs.size f cdv) := by subst hX; rfl
  have hs0 : X.stack = X.env :: X.outer := by subst hX; rfl
  have hf0 : X.env.frame = some X.env.locals := by subst hX; rfl
  have hfn : X.fn = fun _ => true := by subst hX; rfl
  rw [← eA] at hr
  have nd : X.N.Nodup := by rw [eN]; exact S.nd
  clear hX
  subst eP eW eK eM eB
  have CC : Cok T n X := C0 X rfl rfl rfl rfl rfl nd eC eX (by rw [eS]; exact S.kind) hr
  rw [hst]
  rw [← eS] at h0 h2 l1 l2 g0 g1 g2 g3 g4 g5 c1
  rw [← eN] at h0 h2 c1
  have S1 := (sndE pT1 X e1 CC c1).f
  have i1 : X.N[1]? = some ("_law_found" : Str) := by rw [eN]; rfl
  have i2 : X.N[2]? = some ("e" : Str) := by rw [eN]; rfl
  have bi : X.mg "int" = none := hbn _ (by simp [bNames])
  have bs : X.mg "isinstance" = none := hbn _ (by simp [bNames])
  refine ⟨_, pss_cons (ps_try_as (i := 2) hs0 hf0 nd i2 l2 ⟨gl_of g0, by decide, .inl R.gN⟩ takes0 (fun W pn xe tk _ => pss_one (ps_set (X := X.tr pn xe) (i := 1) nd i1 (loc_of l1) (pe_callS (X := X.tr pn xe) FR hr (gl_of (X := X.tr pn xe) g5) gR kR bR (fun σ => passAt tk σ) (pa_cons (slot_pe (X := X.tr pn xe) h0) pa_nil)) (sw_no rfl rfl _ _ _) (.inl (by show X.fn _ = true; rw [hfn]))))
    (fun a oe cls d pn hz hf => suite_ok hz hf RE bi bs h2 g1 g2 g3 g4)) (pss_one (ps_ret S1)), ?_⟩
  have es : L2.start nT [V.str t] = [some (.str t), none, none] := rfl
  rw [es]
  have tz2 : t.length ≤ sizeLine := by rw [sizeLine_eq]; omega
  refine ⟨.str t, rfl, Hf, t, rfl, sub, tz, tok, fun hn H' Hf' e' => ⟨true, RE.em, fun _ a ha => ⟨rfl, rfl, rfl, fun H'' hx => ?_⟩, fun z => by cases z⟩, fun r hr2 v H' Hf' e' rv => ?_⟩
  · rw [hn] at k
    exact k .non H'' Hf' (e'.trans (hx Hf' e'.sub)) .non
  · have er : ER X.K ([some (V.str t), none, none].set 1 (some v)) H' Hf' [.val (.str t), .val (encR r), .un] := er_vals rfl e'.sub fun i u hi n => by
      match i, hi with
      | 0, hi => cases hi; exact ⟨_, _, rfl, rfl, .str _ tz2 tok⟩
      | 1, hi => cases hi; exact ⟨_, _, rfl, rfl, rv⟩
      | 2, hi => cases hi; exact absurd rfl n
    refine ⟨Hf', _, _, er, by rw [ev, evT1], fun v2 H2 Hf2 e2 r2 => ?_⟩
    rw [hr2] at k
    exact k v2 H2 Hf2 (e'.trans e2) r2
end Ev

/-! ErG: the def that is shown by hand, in its table. -/
namespace Ev
open PySem PySem.Spec PyProof.Rows L2
def primR (m f : Nat) (ds : List PyData) : Option PyData := if f = 999 then (match ds with
  | [.str t] => if 12 ≤ m ∧ t.length ≤ 1000000 then some (encO (readR t)) else none
  | _ => none) else none
/-- a table whose def 33 is shown by hand -/
structure Told (T : Tab) : Prop where
  fn : T.fn 999 = none
  pr : T.prim = primR
  has : Has T 33 1 1 b_law_told
  hd : ∀ f F, T.hd f = true → T.fn f = some F → f = 33 ∧ F.name = "_law_told" ∧ F.ps = [("_law_text_here" : Str)] ∧ flF F = [false] ∧ F.kd = .pl
theorem run_prim {T : Tab} (K : Told T) (m : Nat) (ds : List PyData) : T.run (m + 1) 999 ds = primR m 999 ds := by
  rw [Tab.run, K.fn, K.pr]
theorem told_body {T : Tab} (K : Told T) (n : Nat) (d : PyData) : T.run (n + 1) 33 [d] = T.run n 999 [d] := by
  rw [run_succ K.has n _ rfl]
  cases h : T.run n 999 [d] <;> simp [b_law_told, startR, h]
/-- read, as the law sees it -/
theorem run_told {T : Tab} (K : Told T) {n : Nat} {t : Str} (h : t.length ≤ 1000000) : T.run (n + 14) 33 [.str t] = some (encO (readR t)) := by
  rw [told_body K (n + 13), run_prim K (n + 12)]
  unfold primR
  rw [if_pos rfl]
  show (if 12 ≤ n + 12 ∧ t.length ≤ 1000000 then some (encO (readR t)) else none) = _
  rw [if_pos ⟨by omega, h⟩]
theorem told_inv {T : Tab} (K : Told T) {n : Nat} {ds : List PyData} {d : PyData} (h : T.run (n + 1) 33 ds = some d) : ∃ t, ds = [.str t] ∧ t.length ≤ 1000000 ∧ 13 ≤ n ∧ d = encO (readR t) := by
  have hl : ds.length = 1 := by
    obtain ⟨F, h1, h2, _⟩ := K.has
    rw [← h2]
    exact run_len h1 h
  match ds, hl with
  | [d0], _ =>
    rw [told_body K n] at h
    cases n with
    | zero => cases h
    | succ n =>
      rw [run_prim K n] at h
      unfold primR at h
      rw [if_pos rfl] at h
      cases d0 with
      | str t =>
        have h' : (if 12 ≤ n ∧ t.length ≤ 1000000 then some (encO (readR t)) else none) = some d := h
        by_cases c : 12 ≤ n ∧ t.length ≤ 1000000
        · rw [if_pos c] at h'
          cases h'
          exact ⟨t, rfl, c.2, by omega, rfl⟩
        · rw [if_neg c] at h'; cases h'
      | _ => cases h
/-! ### is_row and written, of what is read -/
theorem isFm_enc : ∀ (f : Form) (k : Nat), f.deep ≤ k → isFm k f.enc = true
  | .yes, k, _ => by simp [Form.enc, isFm, wS]
  | .no, k, _ => by simp [Form.enc, isFm, wS]
  | .a v, k, _ => by cases k <;> cases v <;> simp [Form.enc, isFm, wS, isWdD, nm]
  | .b v, k, _ => by cases k <;> cases v <;> simp [Form.enc, isFm, wS, isWdD, nm]
  | .to u v, k, _ => by cases k <;> cases u <;> cases v <;> simp [Form.enc, isFm, wS, isWdD, nm, Wd.s_inj]
  | .not f, k, h => by
    obtain ⟨j, rfl⟩ : ∃ j, k = j + 1 := ⟨k - 1, by simp only [Form.deep] at h; omega⟩
    have := isFm_enc f j (by simp only [Form.deep] at h; omega)
    simp [Form.enc, isFm, wS, Wd.s_inj, arity, this]
  | .both f g, k, h => by
    obtain ⟨j, rfl⟩ : ∃ j, k = j + 1 := ⟨k - 1, by simp only [Form.deep] at h; omega⟩
    have h1 := isFm_enc f j (by simp only [Form.deep] at h; omega)
    have h2 := isFm_enc g j (by simp only [Form.deep] at h; omega)
    simp [Form.enc, isFm, wS, Wd.s_inj, arity, h1, h2]
  | .either f g, k, h => by
    obtain ⟨j, rfl⟩ : ∃ j, k = j + 1 := ⟨k - 1, by simp only [Form.deep] at h; omega⟩
    have h1 := isFm_enc f j (by simp only [Form.deep] at h; omega)
    have h2 := isFm_enc g j (by simp only [Form.deep] at h; omega)
    simp [Form.enc, isFm, wS, Wd.s_inj, arity, h1, h2]
theorem isDem_enc {d : Dem} (h : d.form.deep ≤ 5) : isDem d.enc = true := by
  have := isFm_enc d.form 5 h
  obtain ⟨a, b, f⟩ := d
  cases a <;> cases b <;> simp [Dem.enc, isDem, isWdD, wS, qw, this] <;> exact this
theorem isMk_enc (d : Dem) : isMkD d.enc = d.mark := by
  obtain ⟨a, b, f⟩ := d
  cases a <;> cases b <;> simp [Dem.enc, isMkD, wS, qw, Dem.mark, eqv_strs, Wd.s_inj]
theorem rrun_of {T : Tab} (I : IsR T) (W : Wr T) {n : Nat} (hn : 13 ≤ n) : RRun T n := by
  obtain ⟨m, rfl⟩ : ∃ m, n = m + 13 := ⟨n - 13, by omega⟩
  refine ⟨fun r hd => ?_, fun r hd hl => ?_⟩
  · have e := run_isRow I (m + 3) (encR r)
    rw [show m + 3 + 10 = m + 13 by omega] at e
    rw [e]
    have h1 : (r.map Dem.enc).all isDem = true := by
      rw [List.all_eq_true]
      intro x hx
      obtain ⟨d, hd2, rfl⟩ := List.mem_map.mp hx
      exact isDem_enc (hd d hd2)
    have h2 : ((r.map Dem.enc).filter isMkD).length = (r.filter Dem.mark).length := by
      rw [List.filter_map, List.length_map]
      have : (isMkD ∘ Dem.enc) = Dem.mark := funext isMk_enc
      rw [this]
    show some (PyData.bool (decide ((r.map Dem.enc).length ≤ 4) && ((r.map Dem.enc).all isDem && decide (((r.map Dem.enc).filter isMkD).length ≤ 2)))) = _
    rw [h1, h2, List.length_map, Bool.true_and]
  · have e := run_writtenD W (m + 6) 5 r ⟨by omega, fun d h => by
      have h5 := hd d h
      have h6 := d.form.size_le
      have : 2 ^ (d.form.deep + 1) ≤ 2 ^ 6 := Nat.pow_le_pow_right (by decide) (by omega)
      omega, fun d h => by have := hd d h; omega⟩ hd
    rw [show m + 6 + 5 + 2 = m + 13 by omega] at e
    exact e
/-- a table without objects, but one that is shown by hand -/
structure NoObH (T : Tab) : Prop where
  at_ : ∀ k, T.at_ k = none
  mt : ∀ k, T.mt k = false
  nw : ∀ k, T.nw k = none
  me : ∀ k, T.me k = none
  fv : ∀ k, T.fv k = false
  dk : T.dk = false
section
variable {P : Program} {w : World} {T : Tab} {K : PySem.W.Frag} {mg : Str → Option Value} {base : Heap}
theorem obx_none (N : NoObH T) (n : Nat) : ObX T n P w K mg base :=
  ⟨fun k nm h => (by rw [N.at_] at h; cases h), fun H v j sm ts t h => h.elim, fun d => d.elim, fun h => (by rw [N.dk] at h; cases h), fun d => d.elim, fun k nm h => (by rw [N.nw] at h; cases h), fun f F _ h => (by rw [N.mt] at h; cases h),
    fun H v j h => h.elim, fun H f F g h => (by rw [N.fv] at h; cases h)⟩
theorem cok_of (N : NoObH T) (O : TabOk T K w mg) {n : Nat} (g : GenOk T n P w K mg base) : ∀ X : Cx, X.prog = P → X.w = w → X.K = K → X.mg = mg → X.base = base → X.N.Nodup → X.calm = true → (X.xe = fun _ _ => False) → X.env.scope.kind = .function → Room (T.c * n) X.A → Cok T n X := by
  intro X e1 e2 e3 e4 e5 nd c xe k r
  subst e1 e2 e3 e4 e5
  exact ⟨nd, c, xe, k, r, O.blt, O.glb, ob_of g (obx_none N n), cok_fn g⟩
theorem fun_fd {x x' q q' : Str} {st st' : Stmt} {f : Addr} {fd fd' : FuncData} (D : Fun K x q st f fd) (D' : Fun K x' q' st' f fd') : fd = fd' := by
  obtain ⟨oc, od, kV, doc, pm, an, cdv, ct, osl, _, l, _⟩ := D.ex
  obtain ⟨oc', od', kV', doc', pm', an', cdv', ct', osl', _, l', _⟩ := D'.ex
  rw [l] at l'
  have := Option.some.inj l'
  injection this with _ _ h _
  injection h
/-- the table's makers -/
theorem hand_told (N : NoObH T) (TK : Told T) {f0 : Addr} {fd0 : FuncData} {q : Str} {st : Stmt} (m0 : mg "_law_told" = some (.ref f0)) (D0 : Fun K "_law_told" q st f0 fd0)
    (F0 : ∀ n, 13 ≤ n → GenOk T n P w K mg base → FnOk P w K mg base CX0 (T.c * (n + 1)) f0 fd0 ["_law_text_here"] (spTold K)) : ByHand T P w K mg base := by
  refine ⟨fun n _ => obx_none N n, fun n X _ _ _ _ _ _ _ k nm f h => (by rw [N.me] at h; cases h), fun f F h h2 => (TK.hd f F h h2).2.2.2.2, fun n g f F x q st a fd h h2 hm D => ?_⟩
  obtain ⟨rfl, hn, hp, hfl, _⟩ := TK.hd f F h h2
  rw [hn, m0] at hm
  cases hm
  have := fun_fd D D0
  subst this
  rw [hp, hfl]
  by_cases hn : 13 ≤ n
  · refine (F0 n hn g).imp ?_
    rintro vs H Q E ⟨Hf, ds, d, sub, ra, hd, k⟩
    obtain ⟨t, rfl, ht, _, rfl⟩ := told_inv TK hd
    match vs, ra with
    | [v], ra =>
      have rv : Rp K Hf v (.str t) := ra.1
      cases rv with
      | str _ z o => exact ⟨Hf, t, rfl, sub, ht, o, k⟩
  · refine no_fn fun vs H Q E ⟨Hf, ds, d, sub, ra, hd, k⟩ => ?_
    obtain ⟨t, _, _, h3, _⟩ := told_inv TK hd
    exact hn h3
end
end Ev

/-! PqD: the law's own reading of a form (k03). -/
namespace Ev
open PySem
section
variable {G : Nat → Option PyData} {run : Nat → List PyData → Option PyData}
theorem stN {st : QS} {r : QSs} {ρ ρ' : Rho} {x : Option Out} (h : evS G run st ρ = some (.nx ρ')) (h2 : evSs G run r ρ' = x) : evSs G run (.cons st r) ρ = x := by
  rw [evSs, h]; exact h2
theorem stR {st : QS} {r : QSs} {ρ : Rho} {v : PyData} (h : evS G run st ρ = some (.rt v)) : evSs G run (.cons st r) ρ = some (.rt v) := by
  rw [evSs, h]; rfl
end
theorem sg2_inj {a b c d : Nat} : (sg a ++ sg b = sg c ++ sg d) = (a = c ∧ b = d) := by
  refine propext ⟨fun h => ?_, fun ⟨h1, h2⟩ => by subst h1; subst h2; rfl⟩
  have h2 : [a, b] = [c, d] := congrArg (fun s : Str => s.cps.toList) h
  simpa using h2
theorem mem_to (w : Str) : cop .isin (.str w) (.tuple [.str "xx", .str "xy", .str "yx", .str "yy"]) = some (isTo w) := by
  have h : cop .isin (.str w) (.tuple [.str "xx", .str "xy", .str "yx", .str "yy"]) = some (decide (("xx" : Str) = w) || (decide (("xy" : Str) = w) || (decide (("yx" : Str) = w) || decide (("yy" : Str) = w)))) := by
    simp [cop, inOk, PyData.depthAll, PyData.depth, eqv_strs]
  rw [h]
  by_cases hl : w.length = 2
  · obtain ⟨c, d, rfl⟩ := two_of hl
    rw [show ("xx" : Str) = sg 120 ++ sg 120 from rfl, show ("xy" : Str) = sg 120 ++ sg 121 from rfl, show ("yx" : Str) = sg 121 ++ sg 120 from rfl, show ("yy" : Str) = sg 121 ++ sg 121 from rfl]
    have e : isTo (sg c ++ sg d) = (isNm c && isNm d) := rfl
    simp only [sg2_inj]
    rw [e]
    by_cases c1 : c = 120 <;> by_cases c2 : c = 121 <;> by_cases d1 : d = 120 <;> by_cases d2 : d = 121 <;> simp [isNm, c1, c2, d1, d2, eq_comm] <;> omega
  · rw [(isTo_len hl).1]
    have n : ∀ x : Str, x.length = 2 → ¬ x = w := fun x hx e => hl (by rw [← e]; exact hx)
    rw [decide_eq_false (n "xx" rfl), decide_eq_false (n "xy" rfl), decide_eq_false (n "yx" rfl), decide_eq_false (n "yy" rfl)]
    rfl
theorem mem_ab (w : Str) : cop .isin (.str w) (.tuple [.str "ax", .str "ay", .str "bx", .str "by"]) = some (isAB w) := by
  have h : cop .isin (.str w) (.tuple [.str "ax", .str "ay", .str "bx", .str "by"]) = some (decide (("ax" : Str) = w) || (decide (("ay" : Str) = w) || (decide (("bx" : Str) = w) || decide (("by" : Str) = w)))) := by
    simp [cop, inOk, PyData.depthAll, PyData.depth, eqv_strs]
  rw [h]
  by_cases hl : w.length = 2
  · obtain ⟨c, d, rfl⟩ := two_of hl
    rw [show ("ax" : Str) = sg 97 ++ sg 120 from rfl, show ("ay" : Str) = sg 97 ++ sg 121 from rfl, show ("bx" : Str) = sg 98 ++ sg 120 from rfl, show ("by" : Str) = sg 98 ++ sg 121 from rfl]
    have e : isAB (sg c ++ sg d) = (isAb c && isNm d) := rfl
    simp only [sg2_inj]
    rw [e]
    by_cases c1 : c = 97 <;> by_cases c2 : c = 98 <;> by_cases d1 : d = 120 <;> by_cases d2 : d = 121 <;> simp [isNm, isAb, c1, c2, d1, d2, eq_comm] <;> omega
  · rw [(isTo_len hl).2]
    have n : ∀ x : Str, x.length = 2 → ¬ x = w := fun x hx e => hl (by rw [← e]; exact hx)
    rw [decide_eq_false (n "ax" rfl), decide_eq_false (n "ay" rfl), decide_eq_false (n "bx" rfl), decide_eq_false (n "by" rfl)]
    rfl
theorem mem_yn (w : Str) : cop .isin (.str w) (.tuple [.str (Wd.s .yes), .str (Wd.s .no)]) = some (decide (w = Wd.s .yes) || decide (w = Wd.s .no)) := by
  simp [cop, inOk, PyData.depthAll, PyData.depth, eqv_strs, eq_comm]
theorem mem_parts (w : Str) : cop .notin (.str w) (.tuple [.str (Wd.s .not), .str (Wd.s .both), .str (Wd.s .either)]) = some (!(decide (w = Wd.s .not) || (decide (w = Wd.s .both) || decide (w = Wd.s .either)))) := by
  simp [cop, inOk, PyData.depthAll, PyData.depth, eqv_strs, eq_comm]
section
variable {G : Nat → Option PyData} {run : Nat → List PyData → Option PyData}
abbrev ρW (L : List PyData) (a K : Int) (w : Str) : Rho := [.val (.list L), .val (.int a), .val (.int K), .val (.str w), .un, .un, .un]
theorem tq1 (L : List PyData) (a K : Int) (w : Str) : evE G run (.cmp .isin (.var 3) (.tup (.cons (.lit (.str (Wd.s .yes))) (.cons (.lit (.str (Wd.s .no))) (.nil))))) (ρW L a K w) = some (.bool (decide (w = Wd.s .yes) || decide (w = Wd.s .no))) := by
  have m := mem_yn w
  have t2 : evE G run (.tup (.cons (.lit (.str (Wd.s .yes))) (.cons (.lit (.str (Wd.s .no))) (.nil)))) (ρW L a K w) = some (.tuple [.str (Wd.s .yes), .str (Wd.s .no)]) := by simp
  rw [evE_cmp, t2, evE_var]
  show (cop .isin (.str w) (.tuple [.str (Wd.s .yes), .str (Wd.s .no)])).map PyData.bool = _
  rw [m]; rfl
theorem tq2 (L : List PyData) (a K : Int) (w : Str) : evE G run (.cmp .isin (.var 3) (.tup (.cons (.lit (.str "xx")) (.cons (.lit (.str "xy")) (.cons (.lit (.str "yx")) (.cons (.lit (.str "yy")) (.nil))))))) (ρW L a K w) = some (.bool (isTo w)) := by
  have m := mem_to w
  have t2 : evE G run (.tup (.cons (.lit (.str "xx")) (.cons (.lit (.str "xy")) (.cons (.lit (.str "yx")) (.cons (.lit (.str "yy")) (.nil)))))) (ρW L a K w) = some (.tuple [.str "xx", .str "xy", .str "yx", .str "yy"]) := by simp
  rw [evE_cmp, t2, evE_var]
  show (cop .isin (.str w) (.tuple [.str "xx", .str "xy", .str "yx", .str "yy"])).map PyData.bool = _
  rw [m]; rfl
theorem tq3 (L : List PyData) (a K : Int) (w : Str) : evE G run (.cmp .isin (.var 3) (.tup (.cons (.lit (.str "ax")) (.cons (.lit (.str "ay")) (.cons (.lit (.str "bx")) (.cons (.lit (.str "by")) (.nil))))))) (ρW L a K w) = some (.bool (isAB w)) := by
  have m := mem_ab w
  have t2 : evE G run (.tup (.cons (.lit (.str "ax")) (.cons (.lit (.str "ay")) (.cons (.lit (.str "bx")) (.cons (.lit (.str "by")) (.nil)))))) (ρW L a K w) = some (.tuple [.str "ax", .str "ay", .str "bx", .str "by"]) := by simp
  rw [evE_cmp, t2, evE_var]
  show (cop .isin (.str w) (.tuple [.str "ax", .str "ay", .str "bx", .str "by"])).map PyData.bool = _
  rw [m]; rfl
theorem tq4 (L : List PyData) (a K : Int) (w : Str) : evE G run (.cmp .notin (.var 3) (.tup (.cons (.lit (.str (Wd.s .not))) (.cons (.lit (.str (Wd.s .both))) (.cons (.lit (.str (Wd.s .either))) (.nil)))))) (ρW L a K w) = some (.bool (!(decide (w = Wd.s .not) || (decide (w = Wd.s .both) || decide (w = Wd.s .either))))) := by
  have m := mem_parts w
  have t2 : evE G run (.tup (.cons (.lit (.str (Wd.s .not))) (.cons (.lit (.str (Wd.s .both))) (.cons (.lit (.str (Wd.s .either))) (.nil))))) (ρW L a K w) = some (.tuple [.str (Wd.s .not), .str (Wd.s .both), .str (Wd.s .either)]) := by simp
  rw [evE_cmp, t2, evE_var]
  show (cop .notin (.str w) (.tuple [.str (Wd.s .not), .str (Wd.s .both), .str (Wd.s .either)])).map PyData.bool = _
  rw [m]; rfl
end
theorem enc_notNone (f : Form) : isNone f.enc = false := by cases f <;> rfl
/-- what form_in tells -/
def FinAt (k : Nat) (ws : List Str) (at_ : Nat) (d : Option PyData) : Prop :=
  (∀ f r, parse k (ws.drop at_) = some (f, r) → ∃ j : Nat, j ≤ ws.length ∧ ws.drop j = r ∧ d = some (.tuple [f.enc, .int j])) ∧ (parse k (ws.drop at_) = none → ∃ j : Int, d = some (.tuple [.none, .int j]))
theorem fin_loop {T : Tab} {n k : Nat} {ws : List Str} {K : Int} (ih : ∀ at_ : Nat, FinAt k ws at_ (T.run n 31 [.list (ws.map .str), .int at_, .int (K - 1)])) :
    ∀ (ds : List PyData) (at_ : Nat) (acc : List PyData) (s3 s5 s6 : Sl), at_ ≤ ws.length → acc.length + ds.length ≤ 1000 →
    (∀ fs r, parseN k ds.length (ws.drop at_) = some (fs, r) → ∃ j s5' s6', j ≤ ws.length ∧ ws.drop j = r ∧
      loopD T.G (T.run n) (.nm 5) b_law_form_in_f0 [.val (.list (ws.map .str)), .val (.int at_), .val (.int K), s3, .val (.tuple acc), s5, s6] ds = some (.nx [.val (.list (ws.map .str)), .val (.int (j : Nat)), .val (.int K), s3, .val (.tuple (acc ++ fs.map Form.enc)), s5', s6'])) ∧
    (parseN k ds.length (ws.drop at_) = none → ∃ j : Int, loopD T.G (T.run n) (.nm 5) b_law_form_in_f0 [.val (.list (ws.map .str)), .val (.int at_), .val (.int K), s3, .val (.tuple acc), s5, s6] ds = some (.rt (.tuple [.none, .int j])))
  | [], at_, acc, s3, s5, s6, ha, hl => by
    refine ⟨fun fs r h => ?_, fun h => by cases h⟩
    cases h
    exact ⟨at_, s5, s6, ha, rfl, by rw [loopD_nil, List.map_nil, List.append_nil]⟩
  | d :: ds, at_, acc, s3, s5, s6, ha, hl => by
    obtain ⟨h1, h2⟩ := ih at_
    have hrec := fin_loop ih ds
    rw [loopD_cons]
    generalize ws.map PyData.str = L at h1 h2 hrec ⊢
    have ea : asg (.nm 5) d [.val (.list L), .val (.int at_), .val (.int K), s3, .val (.tuple acc), s5, s6] = some [.val (.list L), .val (.int at_), .val (.int K), s3, .val (.tuple acc), .val d, s6] := rfl
    rw [ea]
    rw [List.length_cons] at hl
    have hp : parseN k (d :: ds).length (ws.drop at_) = (parse k (ws.drop at_)).bind fun p => (parseN k ds.length p.2).map fun q => (p.1 :: q.1, q.2) := rfl
    rw [hp]
    cases q : parse k (ws.drop at_) with
    | none =>
      obtain ⟨j, e⟩ := h2 q
      refine ⟨fun fs r h => (by cases h), fun _ => ⟨j, ?_⟩⟩
      have hb : evSs T.G (T.run n) b_law_form_in_f0 [.val (.list L), .val (.int at_), .val (.int K), s3, .val (.tuple acc), .val d, s6] = some (.rt (.tuple [.none, .int j])) := by
        unfold b_law_form_in_f0
        refine stN (ρ' := [.val (.list L), .val (.int j), .val (.int K), s3, .val (.tuple acc), .val d, .val .none]) ?_ (stR ?_)
        · simp [e]
        · simp [isNone]
      show (evSs T.G (T.run n) b_law_form_in_f0 _).bind _ = _
      rw [hb]; rfl
    | some p =>
      obtain ⟨f, r⟩ := p
      obtain ⟨j, hj, hr, e⟩ := h1 f r q
      have hc : catOk acc.length 1 = true := catOk_of (by omega)
      have hn := enc_notNone f
      have hb : evSs T.G (T.run n) b_law_form_in_f0 [.val (.list L), .val (.int at_), .val (.int K), s3, .val (.tuple acc), .val d, s6] = some (.nx [.val (.list L), .val (.int j), .val (.int K), s3, .val (.tuple (acc ++ [f.enc])), .val d, .val f.enc]) := by
        unfold b_law_form_in_f0
        generalize f.enc = F at *
        refine stN (ρ' := [.val (.list L), .val (.int j), .val (.int K), s3, .val (.tuple acc), .val d, .val F]) ?_ (stN (ρ' := [.val (.list L), .val (.int j), .val (.int K), s3, .val (.tuple acc), .val d, .val F]) ?_ (stN ?_ rfl))
        · simp [e]
        · simp [hn]
        · simp [bop, hc]
      obtain ⟨g1, g2⟩ := hrec j (acc ++ [f.enc]) s3 (.val d) (.val f.enc) hj (by rw [List.length_append, List.length_singleton]; omega)
      have hg : ∀ o, loopD T.G (T.run n) (.nm 5) b_law_form_in_f0 [.val (.list L), .val (.int (j : Nat)), .val (.int K), s3, .val (.tuple (acc ++ [f.enc])), .val d, .val f.enc] ds = o →
          (Option.bind (some [.val (.list L), .val (.int at_), .val (.int K), s3, .val (.tuple acc), .val d, s6]) (evSs T.G (T.run n) b_law_form_in_f0)).bind (loopK T.G (T.run n) (.nm 5) b_law_form_in_f0 ds) = o := fun o h => by
        show (evSs T.G (T.run n) b_law_form_in_f0 _).bind _ = _
        rw [hb]
        exact h
      subst hr
      refine ⟨fun fs r h => ?_, fun h => ?_⟩
      · obtain ⟨p, hp2, hq⟩ := Option.map_eq_some_iff.mp (show (parseN k ds.length (ws.drop j)).map (fun q => (f :: q.1, q.2)) = some (fs, r) from h)
        cases hq
        obtain ⟨j', s5', s6', a1, a2, a3⟩ := g1 p.1 p.2 hp2
        refine ⟨j', s5', s6', a1, a2, hg _ ?_⟩
        rw [a3, List.append_assoc]
        rfl
      · have h' : (parseN k ds.length (ws.drop j)).map (fun q => (f :: q.1, q.2)) = none := h
        have h'' : parseN k ds.length (ws.drop j) = none := by
          cases z : parseN k ds.length (ws.drop j) with
          | none => rfl
          | some p => rw [z] at h'; cases h'
        obtain ⟨j', e'⟩ := g2 h''
        exact ⟨j', hg _ e'⟩
theorem fin_end {T : Tab} (W : Has T 31 3 7 b_law_form_in) {m : Nat} {L : List PyData} {a K : Int} (h : (L.length : Int) ≤ a ∨ K < 0) : T.run (m + 1) 31 [.list L, .int a, .int K] = some (.tuple [.none, .int a]) := by
  rw [run_succ W m _ rfl]
  have e : evSs T.G (T.run m) b_law_form_in (startR 7 [.list L, .int a, .int K]) = some (.rt (.tuple [.none, .int a])) := by
    unfold b_law_form_in
    refine stR ?_
    by_cases c : (L.length : Int) ≤ a
    · simp [startR, c]
    · have c2 : K < 0 := h.resolve_left c
      simp [startR, c, c2]
  rw [e]; rfl
theorem run_fin {T : Tab} (W : Has T 31 3 7 b_law_form_in) : ∀ (k n : Nat) (ws : List Str) (at_ : Nat) (K : Int), K = (k : Int) - 1 → FinAt k ws at_ (T.run (n + k + 1) 31 [.list (ws.map .str), .int at_, .int K])
  | 0, n, ws, at_, K, hK => by
    refine ⟨fun f r h => (by cases h), fun _ => ⟨at_, fin_end W (.inr (by omega))⟩⟩
  | k + 1, n, ws, at_, K, hK => by
    by_cases hlt : at_ < ws.length
    · have ih := fun a : Nat => run_fin W k n ws a (K - 1) (by omega)
      obtain ⟨w, hw⟩ : ∃ w, ws[at_]? = some w := ⟨ws[at_], List.getElem?_eq_getElem hlt⟩
      have hdr : ws.drop at_ = w :: ws.drop (at_ + 1) := by
        rw [List.drop_eq_getElem_cons hlt]
        have := (List.getElem?_eq_some_iff.mp hw).2
        rw [this]
      have hix : ixD (.list (ws.map .str)) (.int at_) = some (.str w) := L2.atI_nat (by rw [List.getElem?_map, hw]; rfl)
      have hlen : ((ws.map PyData.str).length : Int) = ws.length := by rw [List.length_map]
      have loop := fin_loop ih
      have c0 : ¬ ((ws.length : Int) ≤ at_) := by omega
      have c1 : ¬ (K < 0) := by omega
      unfold FinAt
      rw [hdr]
      generalize ws.map PyData.str = L at hix hlen loop ⊢
      have m1 := tq1 (G := T.G) (run := T.run (n + k + 1)) L at_ K w
      have m2 := tq2 (G := T.G) (run := T.run (n + k + 1)) L at_ K w
      have m3 := tq3 (G := T.G) (run := T.run (n + k + 1)) L at_ K w
      have m4 := tq4 (G := T.G) (run := T.run (n + k + 1)) L at_ K w
      have run1 : ∀ d, evSs T.G (T.run (n + k + 1)) b_law_form_in [.val (.list L), .val (.int at_), .val (.int K), .un, .un, .un, .un] = some (.rt d) → T.run (n + (k + 1) + 1) 31 [.list L, .int at_, .int K] = some d := fun d h => by
        rw [run_succ W (n + (k + 1)) _ rfl]
        show (evSs T.G (T.run (n + k + 1)) b_law_form_in [.val (.list L), .val (.int at_), .val (.int K), .un, .un, .un, .un]).map outD = _
        rw [h]; rfl
      have hat : ((at_ : Int) + 1) = ((at_ + 1 : Nat) : Int) := by omega
      have to2 : ∀ (x : Option Out), evSs T.G (T.run (n + k + 1)) _ [.val (.list L), .val (.int at_), .val (.int K), .val (.str w), .un, .un, .un] = x → evSs T.G (T.run (n + k + 1)) b_law_form_in [.val (.list L), .val (.int at_), .val (.int K), .un, .un, .un, .un] = x := fun x h => by
        unfold b_law_form_in
        refine stN (ρ' := [.val (.list L), .val (.int at_), .val (.int K), .un, .un, .un, .un]) ?_ (stN (ρ' := [.val (.list L), .val (.int at_), .val (.int K), .val (.str w), .un, .un, .un]) ?_ h)
        · simp [hlen, c0, c1]
        · simp [hix]
      by_cases hA : w = Wd.s .yes ∨ w = Wd.s .no
      · have q1 : (decide (w = Wd.s .yes) || decide (w = Wd.s .no)) = true := by simpa using hA
        rw [q1] at m1
        have e := run1 (.tuple [.str w, .int ((at_ + 1 : Nat) : Int)]) (to2 _ (stR (by rw [← hat, evS_iff, frzs_nil, m1]; simp)))
        rcases hA with rfl | rfl
        · rw [parse_leaf leaf_yes]
          exact ⟨fun f r h => (by cases h; exact ⟨at_ + 1, hlt, rfl, e⟩), fun h => (by cases h)⟩
        · rw [parse_leaf leaf_no]
          exact ⟨fun f r h => (by cases h; exact ⟨at_ + 1, hlt, rfl, e⟩), fun h => (by cases h)⟩
      have q1 : (decide (w = Wd.s .yes) || decide (w = Wd.s .no)) = false := by simpa using hA
      rw [q1] at m1
      have to3 : ∀ (x : Option Out), evSs T.G (T.run (n + k + 1)) _ [.val (.list L), .val (.int at_), .val (.int K), .val (.str w), .un, .un, .un] = x → _ := fun x h => to2 x (stN (by rw [evS_iff, frzs_nil, m1]; simp) h)
      cases q2 : isTo w with
      | true =>
        rw [q2] at m2
        obtain ⟨c, d, rfl⟩ := two_of (by
          cases z : decide (w.length = 2) with
          | true => exact of_decide_eq_true z
          | false => rw [(isTo_len (of_decide_eq_false z)).1] at q2; cases q2)
        obtain ⟨i1, i2⟩ := at_two c d
        have e := run1 (.tuple [.tuple [.str (Wd.s .to), .str (sg c), .str (sg d)], .int ((at_ + 1 : Nat) : Int)]) (to3 _ (stR (by
          rw [← hat, evS_iff, frzs_nil, m2]
          generalize sg c ++ sg d = w at *
          simp [i1, i2])))
        obtain ⟨u, v, huv⟩ := isTo_some q2
        have hl : leafOf (sg c ++ sg d) = some (.to u v) := by rw [huv]; exact leaf_to u v
        rw [sg_nm, sg_nm, sg2_inj] at huv
        rw [parse_leaf hl]
        refine ⟨fun f r h => ?_, fun h => (by cases h)⟩
        cases h
        refine ⟨at_ + 1, hlt, rfl, ?_⟩
        rw [e, huv.1, huv.2, ← sg_nm, ← sg_nm]; rfl
      | false =>
      rw [q2] at m2
      have to4 : ∀ (x : Option Out), evSs T.G (T.run (n + k + 1)) _ [.val (.list L), .val (.int at_), .val (.int K), .val (.str w), .un, .un, .un] = x → _ := fun x h => to3 x (stN (by rw [evS_iff, frzs_nil, m2]; simp) h)
      cases q3 : isAB w with
      | true =>
        rw [q3] at m3
        obtain ⟨c, d, rfl⟩ := two_of (by
          cases z : decide (w.length = 2) with
          | true => exact of_decide_eq_true z
          | false => rw [(isTo_len (of_decide_eq_false z)).2] at q3; cases q3)
        obtain ⟨i1, i2⟩ := at_two c d
        have e := run1 (.tuple [.tuple [.str (sg c), .str (sg d)], .int ((at_ + 1 : Nat) : Int)]) (to4 _ (stR (by
          rw [← hat, evS_iff, frzs_nil, m3]
          generalize sg c ++ sg d = w at *
          simp [i1, i2])))
        rcases isAB_some q3 with ⟨v, huv⟩ | ⟨v, huv⟩
        · have hl : leafOf (sg c ++ sg d) = some (.a v) := by rw [huv]; exact leaf_a v
          rw [sg_a, sg_nm, sg2_inj] at huv
          rw [parse_leaf hl]
          refine ⟨fun f r h => ?_, fun h => (by cases h)⟩
          cases h
          refine ⟨at_ + 1, hlt, rfl, ?_⟩
          rw [e, huv.1, huv.2, ← sg_a, ← sg_nm]; rfl
        · have hl : leafOf (sg c ++ sg d) = some (.b v) := by rw [huv]; exact leaf_b v
          rw [sg_b, sg_nm, sg2_inj] at huv
          rw [parse_leaf hl]
          refine ⟨fun f r h => ?_, fun h => (by cases h)⟩
          cases h
          refine ⟨at_ + 1, hlt, rfl, ?_⟩
          rw [e, huv.1, huv.2, ← sg_b, ← sg_nm]; rfl
      | false =>
      rw [q3] at m3
      have to5 : ∀ (x : Option Out), evSs T.G (T.run (n + k + 1)) _ [.val (.list L), .val (.int at_), .val (.int K), .val (.str w), .un, .un, .un] = x → _ := fun x h => to4 x (stN (by rw [evS_iff, frzs_nil, m3]; simp) h)
      have hleaf := leaf_bad (w := w) (fun e => hA (.inl e)) (fun e => hA (.inr e)) q2 q3
      cases q4 : (decide (w = Wd.s .not) || (decide (w = Wd.s .both) || decide (w = Wd.s .either))) with
      | false =>
        rw [q4] at m4
        have e := run1 (.tuple [.none, .int at_]) (to5 _ (stR (by rw [evS_iff, frzs_nil, m4]; simp)))
        simp only [Bool.or_eq_false_iff, decide_eq_false_iff_not] at q4
        rw [parse_bad hleaf q4.1 q4.2.1 q4.2.2]
        exact ⟨fun f r h => (by cases h), fun _ => ⟨at_, e⟩⟩
      | true =>
        rw [q4] at m4
        obtain ⟨m, hpt, m1', m2', _⟩ := part_item q4
        have hr : evI T.G (T.run (n + k + 1)) false (.rng1 (.bin .add (.lit (.int 1)) (.blt .int (.cmp .ne (.var 3) (.lit (.str (Wd.s .not))))))) [.val (.list L), .val (.int ((at_ + 1 : Nat) : Int)), .val (.int K), .val (.str w), .val (.tuple [.str w]), .un, .un] = some (rgD (m : Nat)) := by
          rcases hpt with ⟨rfl, rfl⟩ | ⟨rfl, rfl⟩ | ⟨rfl, rfl⟩
          · simp [eqv_strs, rngOk, bop]
          · simp [eqv_strs, Wd.s_inj, rngOk, bop]
          · simp [eqv_strs, Wd.s_inj, rngOk, bop]
        have lm : (rgD (m : Nat)).length = m := by simp [rgD]
        obtain ⟨g1, g2⟩ := loop (rgD (m : Nat)) (at_ + 1) [.str w] (.val (.str w)) .un .un hlt (by rw [lm]; show 1 + m ≤ 1000; omega)
        rw [lm] at g1 g2
        have to9 : ∀ (x : Option Out), (loopD T.G (T.run (n + k + 1)) (.nm 5) b_law_form_in_f0 [.val (.list L), .val (.int ((at_ + 1 : Nat) : Int)), .val (.int K), .val (.str w), .val (.tuple [.str w]), .un, .un] (rgD (m : Nat))).bind (thenO fun ρ' => evSs T.G (T.run (n + k + 1)) (.cons (.ret [] (.tup (.cons (.var 4) (.cons (.var 1) (.nil))))) (.nil)) ρ') = x →
            evSs T.G (T.run (n + k + 1)) b_law_form_in [.val (.list L), .val (.int at_), .val (.int K), .un, .un, .un, .un] = x := fun x h => to5 x (stN (ρ' := [.val (.list L), .val (.int at_), .val (.int K), .val (.str w), .un, .un, .un]) (by rw [evS_iff, frzs_nil, m4]; simp)
            (stN (ρ' := [.val (.list L), .val (.int at_), .val (.int K), .val (.str w), .val (.tuple [.str w]), .un, .un]) (by simp) (stN (ρ' := [.val (.list L), .val (.int ((at_ + 1 : Nat) : Int)), .val (.int K), .val (.str w), .val (.tuple [.str w]), .un, .un]) (by rw [← hat]; simp [bop]) (by
              rw [evSs, evS_for, frzs_nil, hr]
              exact h))))
        cases q5 : parseN k m (ws.drop (at_ + 1)) with
        | none =>
          obtain ⟨j, e⟩ := g2 q5
          rw [part_none hpt q5]
          refine ⟨fun f r h => (by cases h), fun _ => ⟨j, run1 _ (to9 _ ?_)⟩⟩
          rw [e]; rfl
        | some p =>
          obtain ⟨fs, r⟩ := p
          obtain ⟨j, s5', s6', hj, hjr, e⟩ := g1 fs r q5
          obtain ⟨f, hf, henc⟩ := part_some hpt q5
          rw [hf]
          refine ⟨fun f' r' h => ?_, fun h => (by cases h)⟩
          cases h
          refine ⟨j, hj, hjr, run1 _ (to9 _ ?_)⟩
          rw [e, henc]
          show evSs T.G (T.run (n + k + 1)) _ _ = _
          refine stR ?_
          generalize fs.map Form.enc = F
          simp
    · have hd : ws.drop at_ = [] := List.drop_eq_nil_of_le (by omega)
      unfold FinAt
      rw [hd]
      refine ⟨fun f r h => (by cases h), fun _ => ⟨at_, fin_end W (.inl ?_)⟩⟩
      rw [List.length_map]; omega
end Ev

/-! PqE: the law's own reading of a row (k03). -/
namespace Ev
open PySem
structure LDue (T : Tab) : Prop where
  fin : Has T 31 3 7 b_law_form_in
  due : Has T 32 1 7 b_law_due
def mkc (r : List Dem) : Int := ((r.filter Dem.mark).length : Nat)
theorem mkc_snoc (r : List Dem) (d : Dem) : mkc (r ++ [d]) = mkc r + (if d.mark then 1 else 0) := by
  unfold mkc
  rw [List.filter_append, List.length_append]
  cases h : d.mark <;> simp [h]
theorem qw_tests (a b : Bool) : ((PyData.str (qw a).s).eqv (.str (Wd.s .some)) && (PyData.str (qw b).s).eqv (.str (Wd.s .each))) = (a && !b) := by
  cases a <;> cases b <;> simp [eqv_strs, qw, Wd.s_inj]
section
variable {T : Tab} (W : LDue T) (n : Nat)
include W
abbrev ρE (t : Str) (acc : List Dem) (p : Str) (s4 s5 s6 : Sl) : Rho := [.val (.str t), .val (encR acc), .val (.int (mkc acc)), .val (.str p), s4, s5, s6]
theorem due_body (t p : Str) (acc : List Dem) (s4 s5 s6 : Sl) (hp : p.length ≤ 1000000) (ha : acc.length ≤ 1000000) :
    (∀ d, demR (Txt.split p (Wd.s .blank)) = some d → ∃ s4' s5' s6', evSs T.G (T.run (n + 7)) b_law_due_f0 (ρE t acc p s4 s5 s6) = some (.nx (ρE t (acc ++ [d]) p s4' s5' s6'))) ∧
    (demR (Txt.split p (Wd.s .blank)) = none → evSs T.G (T.run (n + 7)) b_law_due_f0 (ρE t acc p s4 s5 s6) = some (.rt .none)) := by
  have hb : (Wd.s .blank).length ≠ 0 := by decide +kernel
  have hsp : splitD (.str p) (.str (Wd.s .blank)) = some (.list ((Txt.split p (Wd.s .blank)).map .str)) := by simp [splitD, hb, hp]
  obtain ⟨f1, f2⟩ := run_fin W.fin 6 n (Txt.split p (Wd.s .blank)) 2 5 (by decide)
  have hne := split_ne p (Wd.s .blank)
  generalize Txt.split p (Wd.s .blank) = ws at *
  have e0 : evS T.G (T.run (n + 7)) (.set [] 4 (.split (.var 3) (.lit (.str (Wd.s .blank))))) (ρE t acc p s4 s5 s6) = some (.nx [.val (.str t), .val (encR acc), .val (.int (mkc acc)), .val (.str p), .val (.list (ws.map .str)), s5, s6]) := by
    simp only [ρE]
    generalize encR acc = R
    simp [hsp]
  cases q : parse 6 (ws.drop 2) with
  | none =>
    obtain ⟨j, e⟩ := f2 q
    have e : T.run (n + 7) 31 [.list (ws.map .str), .int 2, .int 5] = _ := e
    have hd : demR ws = none := by
      match ws, q with
      | [], _ => rfl
      | [_], _ => rfl
      | a :: b :: r, q =>
        have q : parse 6 r = none := q
        simp only [demR, q]; rfl
    rw [hd]
    refine ⟨fun d h => (by cases h), fun _ => ?_⟩
    unfold b_law_due_f0
    refine stN e0 (stN (ρ' := [.val (.str t), .val (encR acc), .val (.int (mkc acc)), .val (.str p), .val (.list (ws.map .str)), .val .none, .val (.int j)]) ?_ (stR ?_))
    · generalize encR acc = R
      generalize ws.map PyData.str = L at *
      simp [e]
    · generalize encR acc = R
      generalize ws.map PyData.str = L at *
      simp [isNone]
  | some pr =>
    obtain ⟨f, r⟩ := pr
    obtain ⟨j, hj, hjr, e⟩ := f1 f r q
    obtain ⟨a, b, ws', rfl⟩ : ∃ a b ws', ws = a :: b :: ws' := by
      match ws, q with
      | [], q => cases q
      | [_], q => cases q
      | a :: b :: r, q => exact ⟨a, b, r, rfl⟩
    have q : parse 6 ws' = some (f, r) := q
    have e : T.run (n + 7) 31 [.list ((a :: b :: ws').map .str), .int 2, .int 5] = _ := e
    have hlen : (((a :: b :: ws').map PyData.str).length : Int) = ((a :: b :: ws').length : Nat) := by rw [List.length_map]
    have i0 : ixD (.list ((a :: b :: ws').map PyData.str)) (.int 0) = some (.str a) := L2.atI_nat (xs := (a :: b :: ws').map PyData.str) (j := 0) (v := .str a) rfl
    have i1 : ixD (.list ((a :: b :: ws').map PyData.str)) (.int 1) = some (.str b) := L2.atI_nat (xs := (a :: b :: ws').map PyData.str) (j := 1) (v := .str b) rfl
    have hjl : (j = (a :: b :: ws').length) ↔ r = [] := by
      rw [← hjr]
      constructor
      · intro e; rw [List.drop_eq_nil_of_le (by omega)]
      · intro e
        have := List.drop_eq_nil_iff.mp e
        omega
    have hd : demR (a :: b :: ws') = if r = [] then (quant a).bind fun x => (quant b).map fun y => ⟨x, y, f⟩ else none := by simp only [demR, q]; rfl
    have nf := enc_notNone f
    have na := notin_words a
    have nb := notin_words b
    generalize (a :: b :: ws').map PyData.str = L at *
    generalize (a :: b :: ws').length = N at *
    have e1 : evS T.G (T.run (n + 7)) (.setT [] [5, 6] (.call 31 (.cons (.var 4) (.cons (.lit (.int 2)) (.cons (.lit (.int 5)) (.nil)))))) [.val (.str t), .val (encR acc), .val (.int (mkc acc)), .val (.str p), .val (.list L), s5, s6] = some (.nx [.val (.str t), .val (encR acc), .val (.int (mkc acc)), .val (.str p), .val (.list L), .val f.enc, .val (.int (j : Nat))]) := by
      generalize encR acc = R
      generalize f.enc = F at *
      simp [e]
    have t1 : evE T.G (T.run (n + 7)) (.isN false (.var 5)) [.val (.str t), .val (encR acc), .val (.int (mkc acc)), .val (.str p), .val (.list L), .val f.enc, .val (.int (j : Nat))] = some (.bool false) := by
      generalize encR acc = R
      simp [nf]
    have t2 : evE T.G (T.run (n + 7)) (.cmp .ne (.var 6) (.blt .len (.var 4))) [.val (.str t), .val (encR acc), .val (.int (mkc acc)), .val (.str p), .val (.list L), .val f.enc, .val (.int (j : Nat))] = some (.bool (!decide (r = []))) := by
      have : ((j : Int) == (N : Int)) = decide (r = []) := by
        by_cases c : r = []
        · rw [decide_eq_true c, hjl.mpr c]; simp
        · have c2 : ¬ j = N := fun z => c (hjl.mp z)
          rw [decide_eq_false c, beq_eq_false_iff_ne]
          intro z; exact c2 (by omega)
      generalize encR acc = R
      simp [blt, hlen, this]
    have t0 : ∀ ρ, evE T.G (T.run (n + 7)) (.tup (.cons (.lit (.str (Wd.s .each))) (.cons (.lit (.str (Wd.s .some))) (.nil)))) ρ = some (.tuple [.str (Wd.s .each), .str (Wd.s .some)]) := fun ρ => by simp
    have t3 : evE T.G (T.run (n + 7)) (.cmp .notin (.ix (.var 4) (.lit (.int 0))) (.tup (.cons (.lit (.str (Wd.s .each))) (.cons (.lit (.str (Wd.s .some))) (.nil))))) [.val (.str t), .val (encR acc), .val (.int (mkc acc)), .val (.str p), .val (.list L), .val f.enc, .val (.int (j : Nat))] = some (.bool (quant a).isNone) := by
      rw [evE_cmp, t0, evE_ix, evE_var, evE_lit]
      show ((ixD (.list L) (.int 0)).bind fun x => (some (PyData.tuple [.str (Wd.s .each), .str (Wd.s .some)])).bind fun y => copD .notin x y) = _
      rw [i0]
      show (cop .notin (.str a) (.tuple [.str (Wd.s .each), .str (Wd.s .some)])).map PyData.bool = _
      rw [na]; rfl
    have t4 : evE T.G (T.run (n + 7)) (.cmp .notin (.ix (.var 4) (.lit (.int 1))) (.tup (.cons (.lit (.str (Wd.s .each))) (.cons (.lit (.str (Wd.s .some))) (.nil))))) [.val (.str t), .val (encR acc), .val (.int (mkc acc)), .val (.str p), .val (.list L), .val f.enc, .val (.int (j : Nat))] = some (.bool (quant b).isNone) := by
      rw [evE_cmp, t0, evE_ix, evE_var, evE_lit]
      show ((ixD (.list L) (.int 1)).bind fun x => (some (PyData.tuple [.str (Wd.s .each), .str (Wd.s .some)])).bind fun y => copD .notin x y) = _
      rw [i1]
      show (cop .notin (.str b) (.tuple [.str (Wd.s .each), .str (Wd.s .some)])).map PyData.bool = _
      rw [nb]; rfl
    by_cases c : r = [] ∧ (quant a).isSome ∧ (quant b).isSome
    · obtain ⟨c1, c2, c3⟩ := c
      obtain ⟨x, hx⟩ := Option.isSome_iff_exists.mp c2
      obtain ⟨y, hy⟩ := Option.isSome_iff_exists.mp c3
      rw [decide_eq_true c1] at t2
      rw [hx] at t3
      rw [hy] at t4
      rw [hd, if_pos c1, hx, hy]
      refine ⟨fun d h => ?_, fun h => (by cases h)⟩
      cases h
      refine ⟨.val (.list L), .val f.enc, .val (.int (j : Nat)), ?_⟩
      have ea := quant_some hx
      have eb := quant_some hy
      have hca : catOk (acc.map Dem.enc).length 1 = true := catOk_of (by rw [List.length_map]; omega)
      unfold b_law_due_f0
      have hmk := mkc_snoc acc ⟨x, y, f⟩
      have hqt := qw_tests x y
      rw [← ea, ← eb] at hqt
      refine stN e0 (stN e1 (stN (ρ' := [.val (.str t), .val (encR acc), .val (.int (mkc acc)), .val (.str p), .val (.list L), .val f.enc, .val (.int (j : Nat))]) ?_ (stN (ρ' := [.val (.str t), .val (encR (acc ++ [⟨x, y, f⟩])), .val (.int (mkc acc)), .val (.str p), .val (.list L), .val f.enc, .val (.int (j : Nat))]) ?_ (stN ?_ rfl))))
      · rw [evS_iff, frzs_nil]
        have : evE T.G (T.run (n + 7)) (.or (.isN false (.var 5)) (.or (.cmp .ne (.var 6) (.blt .len (.var 4))) (.or (.cmp .notin (.ix (.var 4) (.lit (.int 0))) (.tup (.cons (.lit (.str (Wd.s .each))) (.cons (.lit (.str (Wd.s .some))) (.nil))))) (.cmp .notin (.ix (.var 4) (.lit (.int 1))) (.tup (.cons (.lit (.str (Wd.s .each))) (.cons (.lit (.str (Wd.s .some))) (.nil)))))))) [.val (.str t), .val (encR acc), .val (.int (mkc acc)), .val (.str p), .val (.list L), .val f.enc, .val (.int (j : Nat))] = some (.bool false) := by
          rw [evE_or, t1]
          show orK T.G _ _ _ false = _
          rw [orK_f, evE_or, t2]
          show orK T.G _ _ _ false = _
          rw [orK_f, evE_or, t3]
          show orK T.G _ _ _ false = _
          rw [orK_f, t4]
          rfl
        rw [this]; simp
      · have hde : [(⟨x, y, f⟩ : Dem)].map Dem.enc = [.tuple [.str a, .str b, f.enc]] := by rw [ea, eb]; rfl
        rw [encR, encR, List.map_append, hde]
        generalize acc.map Dem.enc = A at *
        generalize f.enc = F at *
        simp [i0, i1, bop, hca]
      · show _ = some (Out.nx [.val (.str t), .val (encR (acc ++ [⟨x, y, f⟩])), .val (.int (mkc (acc ++ [⟨x, y, f⟩]))), .val (.str p), .val (.list L), .val f.enc, .val (.int (j : Nat))])
        generalize encR (acc ++ [⟨x, y, f⟩]) = R
        generalize f.enc = F at *
        have hm : Dem.mark ⟨x, y, f⟩ = (x && !y) := rfl
        rw [hm] at hmk
        rw [hmk]
        rw [← hqt]
        cases h1 : (PyData.str a).eqv (.str (Wd.s .some)) <;> cases h2 : (PyData.str b).eqv (.str (Wd.s .each)) <;> simp [i0, i1, bop, h1, h2]
    · have hdn : demR (a :: b :: ws') = none := by
        rw [hd]
        by_cases c1 : r = []
        · rw [if_pos c1]
          cases qa : quant a with
          | none => rfl
          | some x =>
            cases qb : quant b with
            | none => rfl
            | some y => exact absurd ⟨c1, by rw [qa]; rfl, by rw [qb]; rfl⟩ c
        · exact if_neg c1
      rw [hdn]
      refine ⟨fun d h => (by cases h), fun _ => ?_⟩
      unfold b_law_due_f0
      refine stN e0 (stN e1 (stR ?_))
      rw [evS_iff, frzs_nil]
      have : evE T.G (T.run (n + 7)) (.or (.isN false (.var 5)) (.or (.cmp .ne (.var 6) (.blt .len (.var 4))) (.or (.cmp .notin (.ix (.var 4) (.lit (.int 0))) (.tup (.cons (.lit (.str (Wd.s .each))) (.cons (.lit (.str (Wd.s .some))) (.nil))))) (.cmp .notin (.ix (.var 4) (.lit (.int 1))) (.tup (.cons (.lit (.str (Wd.s .each))) (.cons (.lit (.str (Wd.s .some))) (.nil)))))))) [.val (.str t), .val (encR acc), .val (.int (mkc acc)), .val (.str p), .val (.list L), .val f.enc, .val (.int (j : Nat))] = some (.bool true) := by
        rw [evE_or, t1]
        show orK T.G _ _ _ false = _
        rw [orK_f, evE_or, t2]
        by_cases c1 : r = []
        · rw [decide_eq_true c1]
          show orK T.G _ _ _ false = _
          rw [orK_f, evE_or, t3]
          cases qa : quant a with
          | none => rfl
          | some x =>
            show orK T.G _ _ _ false = _
            rw [orK_f, t4]
            cases qb : quant b with
            | none => rfl
            | some y => exact absurd ⟨c1, by rw [qa]; rfl, by rw [qb]; rfl⟩ c
        · rw [decide_eq_false c1]; rfl
      rw [this]; simp
theorem due_loop (t : Str) : ∀ (ps : List Str) (acc : List Dem) (s3 s4 s5 s6 : Sl), (∀ p ∈ ps, p.length ≤ 1000000) → acc.length + ps.length ≤ 1000000 →
    (∀ r, partsR ps = some r → ∃ s3' s4' s5' s6', loopD T.G (T.run (n + 7)) (.nm 3) b_law_due_f0 [.val (.str t), .val (encR acc), .val (.int (mkc acc)), s3, s4, s5, s6] (ps.map .str) = some (.nx [.val (.str t), .val (encR (acc ++ r)), .val (.int (mkc (acc ++ r))), s3', s4', s5', s6'])) ∧
    (partsR ps = none → loopD T.G (T.run (n + 7)) (.nm 3) b_law_due_f0 [.val (.str t), .val (encR acc), .val (.int (mkc acc)), s3, s4, s5, s6] (ps.map .str) = some (.rt .none))
  | [], acc, s3, s4, s5, s6, _, _ => by
    refine ⟨fun r h => ?_, fun h => by cases h⟩
    cases h
    exact ⟨s3, s4, s5, s6, by rw [List.map_nil, loopD_nil, List.append_nil]⟩
  | p :: ps, acc, s3, s4, s5, s6, hp, hl => by
    rw [List.length_cons] at hl
    obtain ⟨b1, b2⟩ := due_body W n t p acc s4 s5 s6 (hp p (by simp)) (by omega)
    rw [List.map_cons, loopD_cons]
    have ea : asg (.nm 3) (PyData.str p) [.val (.str t), .val (encR acc), .val (.int (mkc acc)), s3, s4, s5, s6] = some (ρE t acc p s4 s5 s6) := rfl
    rw [ea]
    have hpr : partsR (p :: ps) = (demR (Txt.split p (Wd.s .blank))).bind fun d => (partsR ps).map fun r => d :: r := rfl
    rw [hpr]
    cases q : demR (Txt.split p (Wd.s .blank)) with
    | none =>
      refine ⟨fun r h => (by cases h), fun _ => ?_⟩
      show (evSs T.G (T.run (n + 7)) b_law_due_f0 (ρE t acc p s4 s5 s6)).bind _ = _
      rw [b2 q]; rfl
    | some d =>
      obtain ⟨s4', s5', s6', e⟩ := b1 d q
      obtain ⟨g1, g2⟩ := due_loop t ps (acc ++ [d]) (.val (.str p)) s4' s5' s6' (fun p hp' => hp p (List.mem_cons_of_mem _ hp')) (by rw [List.length_append, List.length_singleton]; omega)
      refine ⟨fun r h => ?_, fun h => ?_⟩
      · obtain ⟨r', hr', e2⟩ := Option.map_eq_some_iff.mp (show (partsR ps).map (fun r => d :: r) = some r from h)
        subst e2
        obtain ⟨a3, a4, a5, a6, e3⟩ := g1 r' hr'
        refine ⟨a3, a4, a5, a6, ?_⟩
        show (evSs T.G (T.run (n + 7)) b_law_due_f0 (ρE t acc p s4 s5 s6)).bind _ = _
        rw [e]
        rw [List.append_assoc] at e3
        exact e3
      · have h' : (partsR ps).map (fun r => d :: r) = none := h
        have h'' : partsR ps = none := by
          cases z : partsR ps with
          | none => rfl
          | some r => rw [z] at h'; cases h'
        show (evSs T.G (T.run (n + 7)) b_law_due_f0 (ρE t acc p s4 s5 s6)).bind _ = _
        rw [e]
        exact g2 h''
/-- the law's own reading -/
theorem run_due {t : Str} (ht : t.length ≤ 900000) : T.run (n + 8) 32 [.str t] = some (encO (readR t)) := by
  rw [run_succ W.due (n + 7) _ rfl]
  by_cases c : t = Wd.s .dash
  · have e : evSs T.G (T.run (n + 7)) b_law_due (startR 7 [.str t]) = some (.rt (.tuple [])) := by
      unfold b_law_due
      refine stR ?_
      simp [startR, c]
    rw [e]
    unfold readR
    rw [if_pos c]; rfl
  · have hb : (Wd.s .semi).length ≠ 0 := by decide +kernel
    have hsp : splitD (.str t) (.str (Wd.s .semi)) = some (.list ((Txt.split t (Wd.s .semi)).map .str)) := by
      have : t.length ≤ 1000000 := by omega
      simp [splitD, hb, this]
    have hps : ∀ p ∈ Txt.split t (Wd.s .semi), p.length ≤ 1000000 := fun p hp => Nat.le_trans (split_sub hb hp).1 (by omega)
    have hcnt := PyProof.Rows.split_le t (Wd.s .semi)
    obtain ⟨g1, g2⟩ := due_loop W n t (Txt.split t (Wd.s .semi)) [] .un .un .un .un hps (by simp only [List.length_nil]; omega)
    have hrd : readR t = (partsR (Txt.split t (Wd.s .semi))).bind fun r => if r.length ≤ 4 ∧ (r.filter Dem.mark).length ≤ 2 then some r else none := by
      unfold readR; rw [if_neg c]
    rw [hrd]
    have hpr : ∀ x, (loopD T.G (T.run (n + 7)) (.nm 3) b_law_due_f0 [.val (.str t), .val (encR []), .val (.int (mkc [])), .un, .un, .un, .un] ((Txt.split t (Wd.s .semi)).map .str)).bind (thenO fun ρ' => evSs T.G (T.run (n + 7)) _ ρ') = x → evSs T.G (T.run (n + 7)) b_law_due (startR 7 [.str t]) = x := fun x h => by
      unfold b_law_due
      have c' : ¬ Wd.s .dash = t := fun z => c z.symm
      refine stN (ρ' := [.val (.str t), .un, .un, .un, .un, .un, .un]) (by simp [startR, eqv_strs, c]) (stN (ρ' := [.val (.str t), .val (encR []), .un, .un, .un, .un, .un]) (by simp [encR]) (stN (ρ' := [.val (.str t), .val (encR []), .val (.int (mkc [])), .un, .un, .un, .un]) (by simp [mkc]) ?_))
      rw [evSs, evS_for, frzs_nil]
      have hi : evI T.G (T.run (n + 7)) false (.seq (.split (.var 0) (.lit (.str (Wd.s .semi))))) [.val (.str t), .val (encR []), .val (.int (mkc [])), .un, .un, .un, .un] = some ((Txt.split t (Wd.s .semi)).map .str) := by
        generalize encR [] = R
        simp [hsp, seqD]
      rw [hi]
      exact h
    cases q : partsR (Txt.split t (Wd.s .semi)) with
    | none =>
      have hx := hpr (some (.rt .none)) (by rw [g2 q]; rfl)
      rw [hx]
      rfl
    | some r =>
      obtain ⟨s3, s4, s5, s6, e⟩ := g1 r q
      rw [List.nil_append] at e
      by_cases c2 : r.length ≤ 4 ∧ (r.filter Dem.mark).length ≤ 2
      · have d1 : ¬ (4 < (r.length : Int)) := by omega
        have d2 : ¬ (2 < mkc r) := by unfold mkc; omega
        have d1' : ¬ (4 < ((r.map Dem.enc).length : Int)) := by rw [List.length_map]; exact d1
        have := hpr (some (.rt (encR r))) (by
          rw [e]
          show evSs T.G (T.run (n + 7)) _ _ = _
          refine stN (ρ' := [.val (.str t), .val (encR r), .val (.int (mkc r)), s3, s4, s5, s6]) ?_ (stR ?_)
          · rw [encR]
            generalize r.map Dem.enc = L at *
            generalize mkc r = M at *
            simp [blt, d1', d2]
          · generalize encR r = R
            simp)
        rw [this]
        show some (encR r) = some (encO (if r.length ≤ 4 ∧ (r.filter Dem.mark).length ≤ 2 then some r else none))
        rw [if_pos c2]; rfl
      · have := hpr (some (.rt .none)) (by
          rw [e]
          show evSs T.G (T.run (n + 7)) _ _ = _
          refine stR ?_
          rw [encR]
          by_cases d : r.length ≤ 4
          · have d1' : ¬ (4 < ((r.map Dem.enc).length : Int)) := by rw [List.length_map]; omega
            have d2 : 2 < mkc r := by
              unfold mkc
              have : ¬ (r.filter Dem.mark).length ≤ 2 := fun z => c2 ⟨d, z⟩
              omega
            generalize r.map Dem.enc = L at *
            generalize mkc r = M at *
            simp [blt, d1', d2]
          · have d1' : 4 < ((r.map Dem.enc).length : Int) := by rw [List.length_map]; omega
            generalize r.map Dem.enc = L at *
            generalize mkc r = M at *
            simp [blt, d1'])
        rw [this]
        show some PyData.none = some (encO (if r.length ≤ 4 ∧ (r.filter Dem.mark).length ≤ 2 then some r else none))
        rw [if_neg c2]; rfl
end
end Ev

/-! PqF: a text changed (k03). -/
namespace Ev
open PySem
/-! ### how long a text is when it is put together again -/
abbrev jl (ws : List Str) : Nat := joinLen 1 ws
theorem jl_app : ∀ (a b : List Str), jl (a ++ b) = jl a + jl b
  | [], b => by simp [jl, joinLen]
  | x :: a, b => by
    have := jl_app a b
    simp only [jl, List.cons_append, joinLen] at this ⊢
    omega
theorem jl_take (k : Nat) (ws : List Str) : jl (ws.take k) ≤ jl ws := by
  have := jl_app (ws.take k) (ws.drop k)
  rw [List.take_append_drop] at this
  omega
theorem jl_drop (k : Nat) (ws : List Str) : jl (ws.drop k) ≤ jl ws := by
  have := jl_app (ws.take k) (ws.drop k)
  rw [List.take_append_drop] at this
  omega
theorem jl_rev : ∀ ws : List Str, jl ws.reverse = jl ws
  | [] => rfl
  | x :: a => by
    rw [List.reverse_cons, jl_app, jl_rev a]
    simp only [jl, joinLen]; omega
theorem jl_len : ∀ ws : List Str, ws.length ≤ jl ws
  | [] => Nat.zero_le _
  | x :: a => by
    have := jl_len a
    simp only [jl, joinLen, List.length_cons] at this ⊢; omega
theorem jl_set : ∀ (ws : List Str) (i : Nat) (w : Str), jl (ws.set i w) ≤ jl ws + w.length + 1
  | [], i, w => by simp [jl, joinLen]
  | x :: a, 0, w => by simp only [jl, List.set_cons_zero, joinLen]; omega
  | x :: a, i + 1, w => by
    have := jl_set a i w
    simp only [jl, List.set_cons_succ, joinLen] at this ⊢; omega
theorem jl_join : ∀ {ws : List Str}, ws ≠ [] → (Str.join (Wd.s .blank) ws).length + 1 = jl ws
  | [], h => absurd rfl h
  | [x], _ => by
    rw [join_one]
    simp only [jl, joinLen]
  | x :: y :: r, _ => by
    have := jl_join (ws := y :: r) (by simp)
    have hb : (Wd.s .blank).length = 1 := rfl
    rw [join_cons2, slen, slen, hb]
    simp only [jl, joinLen] at this ⊢
    omega
theorem jl_split (t : Str) : jl (Txt.split t (Wd.s .blank)) = t.length + 1 := by
  rw [← jl_join (split_ne _ _), PySem.StrLaws.join_split]
def cutW (ws : List Str) (lo hi : Option Int) : List Str := (ws.drop (HT.sIx ws.length 0 lo)).take (HT.sIx ws.length ws.length hi - HT.sIx ws.length 0 lo)
theorem cut_map (ws : List Str) (lo hi : Option Int) : cutD (ws.map .str) lo hi = (cutW ws lo hi).map .str := by
  unfold cutD cutW
  rw [List.length_map, ← List.map_drop, ← List.map_take]
theorem jl_cut (ws : List Str) (lo hi : Option Int) : jl (cutW ws lo hi) ≤ jl ws := Nat.le_trans (jl_take _ _) (jl_drop _ _)
theorem cut_len (ws : List Str) (lo hi : Option Int) : (cutW ws lo hi).length ≤ ws.length := by
  unfold cutW
  rw [List.length_take, List.length_drop]; omega
section
variable {G : Nat → Option PyData} {run : Nat → List PyData → Option PyData}
theorem iff8 {N j : Int} {B : QSs} {ρ : Rho} (h : getV 1 ρ = some (.int N)) : evS G run (.iff [] (.cmp .eq (.bin .mod (.var 1) (.lit (.int 8))) (.lit (.int j))) B .nil) ρ = if N % 8 = j then evSs G run B ρ else some (.nx ρ) := by
  have e : evE G run (.cmp .eq (.bin .mod (.var 1) (.lit (.int 8))) (.lit (.int j))) ρ = some (.bool (decide (N % 8 = j))) := by
    simp [h, bop]
    exact Bool.beq_eq_decide_eq _ _
  rw [evS_iff, frzs_nil, e]
  by_cases c : N % 8 = j
  · rw [if_pos c, decide_eq_true c]; rfl
  · rw [if_neg c, decide_eq_false c]; rfl
end
section
variable {G : Nat → Option PyData} {run : Nat → List PyData → Option PyData}
theorem iff8l {N j : Int} {B : QSs} {ρ : Rho} (h : getV 1 ρ = some (.int N)) : evS G run (.iff [] (.cmp .lt (.bin .mod (.var 1) (.lit (.int 8))) (.lit (.int j))) B .nil) ρ = if N % 8 < j then evSs G run B ρ else some (.nx ρ) := by
  have e : evE G run (.cmp .lt (.bin .mod (.var 1) (.lit (.int 8))) (.lit (.int j))) ρ = some (.bool (decide (N % 8 < j))) := by
    simp [h, bop]
  rw [evS_iff, frzs_nil, e]
  by_cases c : N % 8 < j
  · rw [if_pos c, decide_eq_true c]; rfl
  · rw [if_neg c, decide_eq_false c]; rfl
end
def someW : List Str := [Wd.s .each, Wd.s .some, Wd.s .sem, Wd.s .dash, Wd.s .yes, Wd.s .no, Wd.s .not, Wd.s .both, Wd.s .either, "ax", "by", "xy", "yy", "za", Wd.s .a, Wd.s .nil]
theorem someW_len : ∀ w ∈ someW, w.length ≤ 6 := by decide +kernel
section
variable {T : Tab} (W : Has T 30 2 6 b_law_changed_k03) (n : Nat)
include W
theorem changed_ret {t : Str} {N : Int} {d : PyData} (h : evSs T.G (T.run n) b_law_changed_k03 [.val (.str t), .val (.int N), .un, .un, .un, .un] = some (.rt d)) : T.run (n + 1) 30 [.str t, .int N] = some d := by
  rw [run_succ W n _ rfl]
  show (evSs T.G (T.run n) b_law_changed_k03 [.val (.str t), .val (.int N), .un, .un, .un, .un]).map outD = _
  rw [h]; rfl
theorem run_changed {t : Str} (ht : t.length ≤ 900000) {N : Int} (hN : 0 ≤ N) : ∃ t' : Str, t'.length ≤ 3 * t.length + 20 ∧ T.run (n + 1) 30 [.str t, .int N] = some (.str t') := by
  -- where, which sign
  obtain ⟨a, ha0, ha1, ea⟩ : ∃ a : Int, 0 ≤ a ∧ a ≤ t.length ∧ a = N / 16 % ((t.length : Int) + 1) := ⟨_, Int.emod_nonneg _ (by omega), by have := Int.emod_lt_of_pos (N / 16) (b := (t.length : Int) + 1) (by omega); omega, rfl⟩
  obtain ⟨c, hc⟩ : ∃ c : Nat, ixD (.str " abxy;-eno0~") (.int (N / 400 % 12)) = some (.str (sg c)) := by
    have h0 : 0 ≤ N / 400 % 12 := Int.emod_nonneg _ (by decide)
    have h1 : N / 400 % 12 < 12 := Int.emod_lt_of_pos _ (by decide)
    obtain ⟨k, hk⟩ : ∃ k : Nat, N / 400 % 12 = (k : Int) := ⟨(N / 400 % 12).toNat, by omega⟩
    have hk12 : k < 12 := by omega
    rw [hk]
    have hl : (" abxy;-eno0~" : Str).cps.toList.length = 12 := by decide +kernel
    refine ⟨(" abxy;-eno0~" : Str).cps.toList[k]'(by rw [hl]; exact hk12), ?_⟩
    show (L2.atI (" abxy;-eno0~" : Str).cps.toList (k : Int)).map (fun c => PyData.str ⟨#[c]⟩) = _
    rw [L2.atI_nat (List.getElem?_eq_getElem (by rw [hl]; exact hk12))]
    rfl
  have s1 : evS T.G (T.run n) (.set [] 2 (.bin .mod (.bin .fdiv (.var 1) (.lit (.int 16))) (.bin .add (.blt .len (.var 0)) (.lit (.int 1))))) [.val (.str t), .val (.int N), .un, .un, .un, .un] = some (.nx [.val (.str t), .val (.int N), .val (.int a), .un, .un, .un]) := by
    have hp : (0 : Int) < (t.length : Int) + 1 := by omega
    simp [bop, blt, hp, ea]
  have s2 : evS T.G (T.run n) (.set [] 3 (.ix (.lit (.str " abxy;-eno0~")) (.bin .mod (.bin .fdiv (.var 1) (.lit (.int 400))) (.lit (.int 12))))) [.val (.str t), .val (.int N), .val (.int a), .un, .un, .un] = some (.nx [.val (.str t), .val (.int N), .val (.int a), .val (.str (sg c)), .un, .un]) := by
    generalize (" abxy;-eno0~" : Str) = z at *
    simp [bop, hc]
  clear ea hc
  have hl : ∀ lo hi, (L2.cutS t lo hi).length ≤ t.length := fun lo hi => L2.cutS_length t lo hi
  have hs1 : (sg c).length = 1 := rfl
  by_cases r0 : N % 8 = 0
  · have q1 : catOk (L2.cutS t none (some a)).length (sg c).length = true := catOk_of (by have := hl none (some a); omega)
    have q2 : catOk (L2.cutS t none (some a) ++ sg c).length (L2.cutS t (some a) none).length = true := catOk_of (by rw [slen]; have := hl none (some a); have := hl (some a) none; omega)
    refine ⟨L2.cutS t none (some a) ++ sg c ++ L2.cutS t (some a) none, ?_, changed_ret W n ?_⟩
    · rw [slen, slen]; have := hl none (some a); have := hl (some a) none; omega
    · unfold b_law_changed_k03
      refine stN s1 (stN s2 (stR ?_))
      rw [iff8 rfl, if_pos r0]
      refine stR ?_
      simp [bop, slD, q1, q2]
  have c0 : ∀ {B : QSs} {ρ : Rho}, getV 1 ρ = some (.int N) → evS T.G (T.run n) (.iff [] (.cmp .eq (.bin .mod (.var 1) (.lit (.int 8))) (.lit (.int 0))) B .nil) ρ = some (.nx ρ) := fun h => by rw [iff8 h, if_neg r0]
  by_cases r3 : N % 8 = 3
  · have q1 : catOk (L2.cutS t none (some a)).length (L2.cutS t (some (a + 1)) none).length = true := catOk_of (by have := hl none (some a); have := hl (some (a + 1)) none; omega)
    refine ⟨L2.cutS t none (some a) ++ L2.cutS t (some (a + 1)) none, ?_, changed_ret W n ?_⟩
    · rw [slen]; have := hl none (some a); have := hl (some (a + 1)) none; omega
    · unfold b_law_changed_k03
      refine stN s1 (stN s2 (stN (c0 rfl) (stR ?_)))
      rw [iff8 rfl, if_pos r3]
      refine stR ?_
      simp [bop, slD, q1]
  have c3 : ∀ {B : QSs} {ρ : Rho}, getV 1 ρ = some (.int N) → evS T.G (T.run n) (.iff [] (.cmp .eq (.bin .mod (.var 1) (.lit (.int 8))) (.lit (.int 3))) B .nil) ρ = some (.nx ρ) := fun h => by rw [iff8 h, if_neg r3]
  by_cases rl : N % 8 < 3
  · have q1 : catOk (L2.cutS t none (some a)).length (sg c).length = true := catOk_of (by have := hl none (some a); omega)
    have q2 : catOk (L2.cutS t none (some a) ++ sg c).length (L2.cutS t (some (a + 1)) none).length = true := catOk_of (by rw [slen]; have := hl none (some a); have := hl (some (a + 1)) none; omega)
    refine ⟨L2.cutS t none (some a) ++ sg c ++ L2.cutS t (some (a + 1)) none, ?_, changed_ret W n ?_⟩
    · rw [slen, slen]; have := hl none (some a); have := hl (some (a + 1)) none; omega
    · unfold b_law_changed_k03
      refine stN s1 (stN s2 (stN (c0 rfl) (stN (c3 rfl) (stR ?_))))
      rw [iff8l rfl, if_pos rl]
      refine stR ?_
      simp [bop, slD, q1, q2]
  have cl : ∀ {B : QSs} {ρ : Rho}, getV 1 ρ = some (.int N) → evS T.G (T.run n) (.iff [] (.cmp .lt (.bin .mod (.var 1) (.lit (.int 8))) (.lit (.int 3))) B .nil) ρ = some (.nx ρ) := fun h => by rw [iff8l h, if_neg rl]
  -- the words
  have hb : (Wd.s .blank).length ≠ 0 := by decide +kernel
  have hsp : splitD (.str t) (.str (Wd.s .blank)) = some (.list ((Txt.split t (Wd.s .blank)).map .str)) := by
    have : t.length ≤ 1000000 := by omega
    simp [splitD, hb, this]
  have hjl := jl_split t
  have hne := split_ne t (Wd.s .blank)
  generalize Txt.split t (Wd.s .blank) = ws at hsp hjl hne
  have hwl := jl_len ws
  have hwp : 0 < ws.length := List.length_pos_iff.mpr hne
  obtain ⟨b, hb0, hb1, eb⟩ : ∃ b : Int, 0 ≤ b ∧ b < ws.length ∧ b = N / 16 % (ws.length : Int) := ⟨_, Int.emod_nonneg _ (by omega), Int.emod_lt_of_pos _ (by omega), rfl⟩
  have s3 : evS T.G (T.run n) (.setO [] 4 (.split (.var 0) (.lit (.str (Wd.s .blank))))) [.val (.str t), .val (.int N), .val (.int a), .val (.str (sg c)), .un, .un] = some (.nx [.val (.str t), .val (.int N), .val (.int a), .val (.str (sg c)), .own (ws.map .str), .un]) := by
    generalize sg c = z
    simp [hsp, ownSet]
  have s4 : evS T.G (T.run n) (.set [] 2 (.bin .mod (.bin .fdiv (.var 1) (.lit (.int 16))) (.blt .len (.var 4)))) [.val (.str t), .val (.int N), .val (.int a), .val (.str (sg c)), .own (ws.map .str), .un] = some (.nx [.val (.str t), .val (.int N), .val (.int b), .val (.str (sg c)), .own (ws.map .str), .un]) := by
    have hm : ((ws.map PyData.str).length : Int) = ws.length := by rw [List.length_map]
    generalize ws.map PyData.str = L at *
    generalize sg c = z
    simp [bop, blt, hm, hwp, eb]
  have fin : ∀ (us : List Str) (s4 s5 : Sl), (s4 = .own (us.map .str) ∨ s4 = .val (.list (us.map .str))) → jl us ≤ 3 * jl ws + 8 → ∃ t' : Str, t'.length ≤ 3 * t.length + 20 ∧
      evSs T.G (T.run n) (.cons (.ret [] (.join (.lit (.str (Wd.s .blank))) (.var 4))) .nil) [.val (.str t), .val (.int N), .val (.int b), .val (.str (sg c)), s4, s5] = some (.rt (.str t')) := fun us s4 s5 h4 hj => by
    have hbl : (Wd.s .blank).length = 1 := rfl
    have hj2 : joinLen (Wd.s .blank).length us ≤ sizeLine := by rw [hbl, sizeLine_eq]; show jl us ≤ _; omega
    have e := joinD_strs (Wd.s .blank) us hj2
    refine ⟨Str.join (Wd.s .blank) us, ?_, stR ?_⟩
    · have := join_len (Wd.s .blank) us
      rw [hbl] at this
      have : (Str.join (Wd.s .blank) us).length ≤ jl us := this
      omega
    · generalize us.map PyData.str = L at *
      generalize sg c = z
      rcases h4 with rfl | rfl <;> simp [e]
  have q : ∀ {j : Int} {B : QSs} {ρ : Rho}, N % 8 ≠ j → getV 1 ρ = some (.int N) → evS T.G (T.run n) (.iff [] (.cmp .eq (.bin .mod (.var 1) (.lit (.int 8))) (.lit (.int j))) B .nil) ρ = some (.nx ρ) := fun hj h => by rw [iff8 h, if_neg hj]
  have cutL : ∀ lo hi, slD (.list (ws.map .str)) lo hi = some (.list ((cutW ws lo hi).map .str)) := fun lo hi => by
    show some (PyData.list (cutD (ws.map .str) lo hi)) = _
    rw [cut_map]
  have hmod : 0 ≤ N % 8 ∧ N % 8 < 8 := ⟨Int.emod_nonneg _ (by decide), Int.emod_lt_of_pos _ (by decide)⟩
  by_cases r4 : N % 8 = 4
  · obtain ⟨t', h1, h2⟩ := fin (cutW ws none (some b) ++ cutW ws (some (b + 1)) none) (.val (.list ((cutW ws none (some b) ++ cutW ws (some (b + 1)) none).map .str))) .un (.inr rfl) (by
      rw [jl_app]
      have := jl_cut ws none (some b); have := jl_cut ws (some (b + 1)) none; omega)
    refine ⟨t', h1, changed_ret W n ?_⟩
    unfold b_law_changed_k03
    refine stN s1 (stN s2 (stN (c0 rfl) (stN (c3 rfl) (stN (cl rfl) (stN s3 (stN s4 (stN ?_ (stN (q (by omega) rfl) (stN (q (by omega) rfl) (stN (q (by omega) rfl) h2))))))))))
    rw [iff8 rfl, if_pos r4]
    refine stN ?_ rfl
    have k1 := cutL none (some b)
    have k2 := cutL (some (b + 1)) none
    have k3 : catOk ((cutW ws none (some b)).map PyData.str).length ((cutW ws (some (b + 1)) none).map PyData.str).length = true := catOk_of (by
      rw [List.length_map, List.length_map]
      have := cut_len ws none (some b); have := cut_len ws (some (b + 1)) none; omega)
    rw [List.map_append]
    generalize (cutW ws none (some b)).map PyData.str = A at *
    generalize (cutW ws (some (b + 1)) none).map PyData.str = B at *
    generalize ws.map PyData.str = L at *
    generalize sg c = z
    simp [bop, k1, k2, k3]
  by_cases r5 : N % 8 = 5
  · obtain ⟨t', h1, h2⟩ := fin (cutW ws none (some b) ++ cutW ws (some b) (some (b + 1)) ++ cutW ws (some b) none) (.val (.list ((cutW ws none (some b) ++ cutW ws (some b) (some (b + 1)) ++ cutW ws (some b) none).map .str))) .un (.inr rfl) (by
      rw [jl_app, jl_app]
      have := jl_cut ws none (some b); have := jl_cut ws (some b) (some (b + 1)); have := jl_cut ws (some b) none; omega)
    refine ⟨t', h1, changed_ret W n ?_⟩
    unfold b_law_changed_k03
    refine stN s1 (stN s2 (stN (c0 rfl) (stN (c3 rfl) (stN (cl rfl) (stN s3 (stN s4 (stN (q (by omega) rfl) (stN ?_ (stN (q (by omega) rfl) (stN (q (by omega) rfl) h2))))))))))
    rw [iff8 rfl, if_pos r5]
    refine stN ?_ rfl
    have k1 := cutL none (some b)
    have k2 := cutL (some b) (some (b + 1))
    have k4 := cutL (some b) none
    have k3 : catOk ((cutW ws none (some b)).map PyData.str).length ((cutW ws (some b) (some (b + 1))).map PyData.str).length = true := catOk_of (by
      rw [List.length_map, List.length_map]
      have := cut_len ws none (some b); have := cut_len ws (some b) (some (b + 1)); omega)
    have k5 : catOk ((cutW ws none (some b)).map PyData.str ++ (cutW ws (some b) (some (b + 1))).map PyData.str).length ((cutW ws (some b) none).map PyData.str).length = true := catOk_of (by
      rw [List.length_append, List.length_map, List.length_map, List.length_map]
      have := cut_len ws none (some b); have := cut_len ws (some b) (some (b + 1)); have := cut_len ws (some b) none; omega)
    rw [List.map_append, List.map_append]
    generalize (cutW ws none (some b)).map PyData.str = A at *
    generalize (cutW ws (some b) (some (b + 1))).map PyData.str = B at *
    generalize (cutW ws (some b) none).map PyData.str = D at *
    generalize ws.map PyData.str = L at *
    generalize sg c = z
    rw [List.length_append] at k5
    simp [bop, k1, k2, k3, k4, k5]
  by_cases r6 : N % 8 = 6
  · obtain ⟨t', h1, h2⟩ := fin (cutW ws none (some b) ++ (cutW ws (some b) (some (b + 2))).reverse ++ cutW ws (some (b + 2)) none) (.val (.list ((cutW ws none (some b) ++ (cutW ws (some b) (some (b + 2))).reverse ++ cutW ws (some (b + 2)) none).map .str))) .un (.inr rfl) (by
      rw [jl_app, jl_app, jl_rev]
      have := jl_cut ws none (some b); have := jl_cut ws (some b) (some (b + 2)); have := jl_cut ws (some (b + 2)) none; omega)
    refine ⟨t', h1, changed_ret W n ?_⟩
    unfold b_law_changed_k03
    refine stN s1 (stN s2 (stN (c0 rfl) (stN (c3 rfl) (stN (cl rfl) (stN s3 (stN s4 (stN (q (by omega) rfl) (stN (q (by omega) rfl) (stN ?_ (stN (q (by omega) rfl) h2))))))))))
    rw [iff8 rfl, if_pos r6]
    refine stN ?_ rfl
    have k1 := cutL none (some b)
    have k2 := cutL (some b) (some (b + 2))
    have k4 := cutL (some (b + 2)) none
    have k3 : catOk ((cutW ws none (some b)).map PyData.str).length ((cutW ws (some b) (some (b + 2))).map PyData.str).length = true := catOk_of (by
      rw [List.length_map, List.length_map]
      have := cut_len ws none (some b); have := cut_len ws (some b) (some (b + 2)); omega)
    have k5 : catOk (((cutW ws none (some b)).map PyData.str).length + ((cutW ws (some b) (some (b + 2))).map PyData.str).length) ((cutW ws (some (b + 2)) none).map PyData.str).length = true := catOk_of (by
      rw [List.length_map, List.length_map, List.length_map]
      have := cut_len ws none (some b); have := cut_len ws (some b) (some (b + 2)); have := cut_len ws (some (b + 2)) none; omega)
    rw [List.map_append, List.map_append, List.map_reverse]
    generalize (cutW ws none (some b)).map PyData.str = A at *
    generalize (cutW ws (some b) (some (b + 2))).map PyData.str = B at *
    generalize (cutW ws (some (b + 2)) none).map PyData.str = D at *
    generalize ws.map PyData.str = L at *
    generalize sg c = z
    simp [bop, k1, k2, k3, k4, k5, revD]
  have r7 : N % 8 = 7 := by omega
  obtain ⟨w, hw, hx⟩ : ∃ w : Str, w.length ≤ 6 ∧ ixD (.list (someW.map .str)) (.int (N / 400 % 16)) = some (.str w) := by
    have h0 : 0 ≤ N / 400 % 16 := Int.emod_nonneg _ (by decide)
    have h1 : N / 400 % 16 < 16 := Int.emod_lt_of_pos _ (by decide)
    obtain ⟨k, hk⟩ : ∃ k : Nat, N / 400 % 16 = (k : Int) := ⟨(N / 400 % 16).toNat, by omega⟩
    have hk16 : k < someW.length := by
      have : someW.length = 16 := rfl
      omega
    refine ⟨someW[k], someW_len _ (List.getElem_mem hk16), ?_⟩
    rw [hk]
    exact L2.atI_nat (by rw [List.getElem?_map, List.getElem?_eq_getElem hk16]; rfl)
  obtain ⟨m, hm⟩ : ∃ m : Nat, b = (m : Int) := ⟨b.toNat, by omega⟩
  have hml : m < ws.length := by omega
  obtain ⟨t', h1, h2⟩ := fin (ws.set m w) (.own ((ws.set m w).map .str)) (.val (.list (someW.map .str))) (.inl rfl) (by
    have := jl_set ws m w; omega)
  refine ⟨t', h1, changed_ret W n ?_⟩
  unfold b_law_changed_k03
  refine stN s1 (stN s2 (stN (c0 rfl) (stN (c3 rfl) (stN (cl rfl) (stN s3 (stN s4 (stN (q (by omega) rfl) (stN (q (by omega) rfl) (stN (q (by omega) rfl) (stN ?_ h2))))))))))
  rw [iff8 rfl, if_pos r7]
  refine stN (ρ' := [.val (.str t), .val (.int N), .val (.int b), .val (.str (sg c)), .own (ws.map .str), .val (.list (someW.map .str))]) ?_ (stN ?_ rfl)
  · generalize ws.map PyData.str = L
    generalize sg c = z
    simp [someW]
  · have hmm : (ws.set m w).map PyData.str = (ws.map PyData.str).set m (.str w) := List.map_set
    have hix : L2.ixN (ws.map PyData.str).length b = some m := by
      rw [List.length_map, hm]
      unfold L2.ixN
      rw [if_pos (by omega), if_pos (by omega)]
      simp
    rw [hmm]
    generalize ws.map PyData.str = L at *
    generalize someW.map PyData.str = S at *
    generalize sg c = z
    simp [bop, hx, ownPutI, hix]
end
end Ev

/-! PqG: rows told are the same; many nots; texts changed again and again (k03). -/
namespace Ev
open PySem
theorem form_self : ∀ f : Form, PyData.eqv f.enc f.enc = true
  | .yes => by simp [Form.enc, wS]
  | .no => by simp [Form.enc, wS]
  | .a x => by simp [Form.enc, wS, eqv_tt]
  | .b x => by simp [Form.enc, wS, eqv_tt]
  | .to x y => by simp [Form.enc, wS, eqv_tt]
  | .not f => by
    have h1 := form_self f
    simp [Form.enc, wS, eqv_tt, h1]
  | .both f g => by
    have h1 := form_self f
    have h2 := form_self g
    simp [Form.enc, wS, eqv_tt, h1, h2]
  | .either f g => by
    have h1 := form_self f
    have h2 := form_self g
    simp [Form.enc, wS, eqv_tt, h1, h2]
theorem dem_self (d : Dem) : PyData.eqv d.enc d.enc = true := by
  have h := form_self d.form
  simp [Dem.enc, wS, eqv_tt, h]
theorem row_self (r : List Dem) : PyData.eqv (encR r) (encR r) = true := by
  rw [encR, eqv_tt]
  induction r with
  | nil => simp
  | cons d r ih => rw [List.map_cons, eqvAll_cc, dem_self, ih]; rfl
theorem encO_self (o : Option (List Dem)) : PyData.eqv (encO o) (encO o) = true := by
  cases o with
  | none => simp [encO]
  | some r => exact row_self r
theorem row_depth {r : List Dem} (h : ∀ d ∈ r, d.form.deep ≤ 5) : (encR r).depth ≤ 10 := by
  have h2 : PyData.depthAll (r.map Dem.enc) ≤ 8 := depthAll_le fun x hx => by
    obtain ⟨d, hd, rfl⟩ := List.mem_map.mp hx
    have h3 := d.form.enc_depth
    have h4 := h d hd
    simp only [Dem.enc, PyData.depth, PyData.depthAll, wS]
    omega
  simp only [encR, PyData.depth]
  omega
theorem read_depth (t : Str) : (encO (readR t)).depth ≤ 64 := by
  cases h : readR t with
  | none => simp [encO, PyData.depth]
  | some r =>
    have := row_depth (readR_text h).2.2.2
    simp only [encO]; omega
theorem ne_told (t : Str) : copD .ne (encO (readR t)) (encO (readR t)) = some (.bool false) := by
  rw [copD_ne (eqOk_le (.inl (read_depth t))), encO_self]; rfl
theorem eq_told (t : Str) : copD .eq (encO (readR t)) (encO (readR t)) = some (.bool true) := by
  rw [copD_eq (eqOk_le (.inl (read_depth t))), encO_self]
/-! ### many nots -/
def nots : Nat → Form
  | 0 => .to false true
  | k + 1 => .not (nots k)
theorem nots_deep : ∀ k, (nots k).deep = k
  | 0 => rfl
  | k + 1 => by
    have := nots_deep k
    simp only [nots, Form.deep, this]
theorem repS_front (a : Str) : ∀ n, repS a (n + 1) = a ++ repS a n
  | 0 => by
    rw [repS_succ, repS_0]
    show (⟨#[] ++ a.cps⟩ : Str) = ⟨a.cps ++ #[]⟩
    rw [Array.empty_append, Array.append_empty]
  | n + 1 => by rw [repS_succ a (n + 1), repS_front a n, Str.asc, ← repS_succ a n, repS_front a n]
theorem nots_text : ∀ k, (nots k).text = repS "not " k ++ "xy"
  | 0 => by
    rw [repS_0]
    show Str.join (Wd.s .blank) [Wd.s (nm false) ++ Wd.s (nm true)] = _
    rfl
  | k + 1 => by
    have h := text_two .not (nots k)
    show Str.join (Wd.s .blank) (Wd.s .not :: (nots k).ws) = _
    have hn : ("not " : Str) = Wd.s .not ++ Wd.s .blank := by decide +kernel
    rw [h, nots_text k, repS_front, Str.asc "not ", ← hn]
def dnot (k : Nat) : Dem := ⟨false, true, nots k⟩
theorem dnot_text (k : Nat) : (dnot k).text = "each some " ++ repS "not " k ++ "xy" := by
  have h : (dnot k).text = (qw false).s ++ Wd.s .blank ++ (qw true).s ++ Wd.s .blank ++ (nots k).text := rfl
  have hk : ("each some " : Str) = (qw false).s ++ Wd.s .blank ++ (qw true).s ++ Wd.s .blank := by decide +kernel
  rw [h, nots_text, ← hk, Str.asc]
theorem parse_nots : ∀ (k m : Nat) (ws : List Str), k ≤ m → parse k ((nots m).ws ++ ws) = none
  | 0, _, _, _ => rfl
  | k + 1, m + 1, ws, h => by
    have := parse_nots k m ws (by omega)
    show parse (k + 1) (Wd.s .not :: ((nots m).ws ++ ws)) = none
    simp [parse, leaf_not, this]
theorem read_nots (k : Nat) : readR (dnot k).text = if k ≤ 5 then some [dnot k] else none := by
  by_cases c : k ≤ 5
  · rw [if_pos c]
    have h := readR_row (r := [dnot k]) fun d hd => by
      rw [List.mem_singleton] at hd
      subst hd
      show (nots k).deep ≤ 5
      rw [nots_deep]; exact c
    have e : rowText [dnot k] = (dnot k).text := rfl
    rw [e] at h
    rw [h, if_pos ⟨by simp, by
      have := List.length_filter_le Dem.mark [dnot k]
      simp only [List.length_singleton] at this; omega⟩]
  · rw [if_neg c]
    have e : (dnot k).text = Str.join (Wd.s .semi) [(dnot k).text] := rfl
    have hd : ¬ (dnot k).text = Wd.s .dash := text_dash (dnot k) []
    have hs := split_parts (ps := [(dnot k).text]) (by simp) fun p hp => by
      rw [List.mem_singleton] at hp
      subst hp
      exact text_no59 _
    unfold readR
    rw [if_neg hd]
    rw [← e] at hs
    rw [hs, partsR, split_dem]
    have : demR (dnot k).words = none := by
      have h := parse_nots 6 k [] (by omega)
      rw [List.append_nil] at h
      show demR ((qw false).s :: (qw true).s :: (nots k).ws) = none
      simp only [demR, h]; rfl
    rw [this]; rfl
theorem not_len (k : Nat) : (dnot k).text.length = 12 + 4 * k := by
  rw [dnot_text, slen, slen, repS_len, show ("not " : Str).length = 4 from rfl]
  have h1 : ("each some " : Str).length = 10 := rfl
  have h3 : ("xy" : Str).length = 2 := rfl
  omega
/-! ### how long a row's text is -/
theorem rowText_len {r : List Dem} (hl : r.length ≤ 6) (hd : ∀ d ∈ r, d.form.deep ≤ 3) : (rowText r).length ≤ 4000 := by
  unfold rowText
  by_cases c : r = []
  · rw [if_pos c]
    have := Wd.len .dash; omega
  · rw [if_neg c]
    have h1 := join_len (Wd.s .semi) (r.map Dem.text)
    have h2 := joinLen_le (n := (Wd.s .semi).length) (b := 294) (l := r.map Dem.text) fun w hw => by
      obtain ⟨d, hd2, rfl⟩ := List.mem_map.mp hw
      have h3 := d.text_len
      have h4 := d.form.size_le
      have h5 := hd d hd2
      have : 2 ^ (d.form.deep + 1) ≤ 2 ^ 4 := Nat.pow_le_pow_right (by decide) (by omega)
      omega
    have h3 := Wd.len .semi
    rw [List.length_map] at h2
    have : r.length * (294 + (Wd.s .semi).length) ≤ 6 * 300 := Nat.mul_le_mul hl (by omega)
    omega
section
variable {T : Tab} (W : Has T 30 2 6 b_law_changed_k03) (D : Draws T) (n : Nat)
include W D
theorem change_loop (N : Int) (s0 s1 s4 s5 s7 : Sl) : ∀ (ks : List Int) (t : Str) (s6 : Sl), 3 ^ ks.length * (t.length + 10) ≤ 900000 → ∃ (t' : Str) (s6' : Sl), t'.length + 10 ≤ 3 ^ ks.length * (t.length + 10) ∧
    loopD T.G (T.run (n + 1)) (.nm 6) b_law_k03_f1 [s0, s1, .val (.int N), .val (.str t), s4, s5, s6, s7] (ks.map .int) = some (.nx [s0, s1, .val (.int N), .val (.str t'), s4, s5, s6', s7])
  | [], t, s6, h => ⟨t, s6, by simp, by rw [List.map_nil, loopD_nil]⟩
  | k :: ks, t, s6, h => by
    rw [List.length_cons, Nat.pow_succ] at h
    have h3 : 1 ≤ 3 ^ ks.length := Nat.one_le_iff_ne_zero.mpr (by simp)
    have ht : t.length ≤ 900000 := by
      have : 1 * (t.length + 10) ≤ 3 ^ ks.length * 3 * (t.length + 10) := Nat.mul_le_mul (by omega) (Nat.le_refl _)
      omega
    have e1 := run_drawn D n N k
    obtain ⟨t1, l1, e2⟩ := run_changed W n ht (drawF_nn N k)
    have hm : 3 ^ ks.length * (t1.length + 10) ≤ 3 ^ ks.length * 3 * (t.length + 10) := by
      rw [Nat.mul_assoc]
      exact Nat.mul_le_mul (Nat.le_refl _) (by omega)
    obtain ⟨t', s6', l2, e3⟩ := change_loop N s0 s1 s4 s5 s7 ks t1 (.val (.int k)) (by omega)
    refine ⟨t', s6', by rw [List.length_cons, Nat.pow_succ]; omega, ?_⟩
    rw [List.map_cons, loopD_cons]
    have ea : asg (.nm 6) (PyData.int k) [s0, s1, .val (.int N), .val (.str t), s4, s5, s6, s7] = some [s0, s1, .val (.int N), .val (.str t), s4, s5, .val (.int k), s7] := rfl
    have hb : evSs T.G (T.run (n + 1)) b_law_k03_f1 [s0, s1, .val (.int N), .val (.str t), s4, s5, .val (.int k), s7] = some (.nx [s0, s1, .val (.int N), .val (.str t1), s4, s5, .val (.int k), s7]) := by
      unfold b_law_k03_f1
      refine stN ?_ rfl
      simp [e1, e2]
    rw [ea, Option.bind_some, hb]
    exact e3
end
section
variable {G : Nat → Option PyData} {run : Nat → List PyData → Option PyData}
theorem nots_loop (s0 s1 s2 s3 s4 s7 : Sl) : ∀ (ds : List PyData) (k : Nat) (s6 : Sl), ∃ s6', loopD G run (.nm 6) b_law_k03_f0 [s0, s1, s2, s3, s4, .val (nots k).enc, s6, s7] ds = some (.nx [s0, s1, s2, s3, s4, .val (nots (k + ds.length)).enc, s6', s7])
  | [], k, s6 => ⟨s6, by rw [loopD_nil]; rfl⟩
  | d :: ds, k, s6 => by
    obtain ⟨s6', e⟩ := nots_loop s0 s1 s2 s3 s4 s7 ds (k + 1) (.val d)
    refine ⟨s6', ?_⟩
    rw [loopD_cons]
    have ea : asg (.nm 6) d [s0, s1, s2, s3, s4, .val (nots k).enc, s6, s7] = some [s0, s1, s2, s3, s4, .val (nots k).enc, .val d, s7] := rfl
    have hb : evSs G run b_law_k03_f0 [s0, s1, s2, s3, s4, .val (nots k).enc, .val d, s7] = some (.nx [s0, s1, s2, s3, s4, .val (nots (k + 1)).enc, .val d, s7]) := by
      unfold b_law_k03_f0
      refine stN ?_ rfl
      have : (nots (k + 1)).enc = .tuple [.str (Wd.s .not), (nots k).enc] := rfl
      rw [this]
      generalize (nots k).enc = F
      simp
    rw [ea, Option.bind_some, hb]
    have : k + (d :: ds).length = k + 1 + ds.length := by rw [List.length_cons]; omega
    rw [this]
    exact e
end
end Ev

namespace Ev
open PySem PySem.Spec PyProof.Rows L2
def p_is_word : FDef where
  name := "is_word"
  ps := ["thing", "words"]
  N := ["thing", "words"]
  body := b_is_word
def p_is_form_to : FDef where
  name := "is_form_to"
  ps := ["thing", "deep"]
  N := ["thing", "deep", "part"]
  body := b_is_form_to
def p_is_form : FDef where
  name := "is_form"
  ps := ["thing"]
  N := ["thing"]
  body := b_is_form
def p_is_demand : FDef where
  name := "is_demand"
  ps := ["thing"]
  N := ["thing"]
  body := b_is_demand
def p_marks_of : FDef where
  name := "marks_of"
  ps := ["row"]
  N := ["row", "n", "demand"]
  body := b_marks_of
def p_is_row : FDef where
  name := "is_row"
  ps := ["thing"]
  N := ["thing", "part"]
  body := b_is_row
def p_words_of : FDef where
  name := "words_of"
  ps := ["form"]
  N := ["form", "found", "part"]
  body := b_words_of
def p_written : FDef where
  name := "written"
  ps := ["row"]
  N := ["row", "one", "other", "form"]
  body := b_written
def p_law_cell_at : FDef where
  name := "_law_cell_at"
  ps := ["_law_script", "_law_k"]
  N := ["_law_script", "_law_k"]
  body := b_law_cell_at
def p_law_mixed : FDef where
  name := "_law_mixed"
  ps := ["_law_script", "_law_k"]
  N := ["_law_script", "_law_k", "_law_drawn_here"]
  body := b_law_mixed
def p_law_drawn : FDef where
  name := "_law_drawn"
  ps := ["_law_number", "_law_k"]
  N := ["_law_number", "_law_k", "_law_drawn_here"]
  body := b_law_drawn
def p_law_form : FDef where
  name := "_law_form"
  ps := ["_law_number", "_law_deep"]
  N := ["_law_number", "_law_deep", "_law_kind", "_law_some", "_law_one", "_law_other"]
  body := b_law_form
def p_law_demand : FDef where
  name := "_law_demand"
  ps := ["_law_number", "_law_deep"]
  N := ["_law_number", "_law_deep", "_law_one", "_law_other"]
  body := b_law_demand
def p_law_row : FDef where
  name := "_law_row"
  ps := ["_law_number", "_law_most"]
  N := ["_law_number", "_law_most", "_law_found", "_law_k", "_law_demand_here", "_law_marks", "_law_one"]
  body := b_law_row
def p_law_words : FDef where
  name := "_law_words"
  ps := ["_law_form_here"]
  N := ["_law_form_here", "_law_part"]
  body := b_law_words
def p_law_text : FDef where
  name := "_law_text"
  ps := ["_law_row_here"]
  N := ["_law_row_here", "_law_one", "_law_other", "_law_form_here"]
  body := b_law_text
def p_law_changed_k03 : FDef where
  name := "_law_changed"
  ps := ["_law_text_here", "_law_number"]
  N := ["_law_text_here", "_law_number", "_law_at", "_law_letter", "_law_pieces", "_law_some"]
  body := b_law_changed_k03
def p_law_form_in : FDef where
  name := "_law_form_in"
  ps := ["_law_words_here", "_law_at", "_law_deep"]
  N := ["_law_words_here", "_law_at", "_law_deep", "_law_word", "_law_found", "_law_k", "_law_part"]
  body := b_law_form_in
def p_law_due : FDef where
  name := "_law_due"
  ps := ["_law_text_here"]
  N := ["_law_text_here", "_law_found", "_law_marks", "_law_part", "_law_words_here", "_law_form_here", "_law_at"]
  body := b_law_due
def p_law_told : FDef where
  name := "_law_told"
  ps := ["_law_text_here"]
  N := ["_law_text_here"]
  body := b_law_told
def p_law_k03 : FDef where
  name := "law"
  ps := ["_law_script"]
  N := ["_law_script", "_law_row_here", "_law_number", "_law_text_here", "_law_many", "_law_due_here", "_law_k", "_law_found"]
  body := b_law_k03
def tfn : Nat → Option FDef
  | 1 => some p_is_word
  | 2 => some p_is_form_to
  | 3 => some p_is_form
  | 4 => some p_is_demand
  | 5 => some p_marks_of
  | 6 => some p_is_row
  | 25 => some p_words_of
  | 26 => some p_written
  | 10 => some p_law_cell_at
  | 11 => some p_law_mixed
  | 12 => some p_law_drawn
  | 13 => some p_law_form
  | 14 => some p_law_demand
  | 15 => some p_law_row
  | 27 => some p_law_words
  | 28 => some p_law_text
  | 30 => some p_law_changed_k03
  | 31 => some p_law_form_in
  | 32 => some p_law_due
  | 33 => some p_law_told
  | 24 => some p_law_k03
  | _ => none
def tgl : Nat → Option (Str × PyData)
  | 0 => some ("DEEP", .int 5)
  | 1 => some ("MOST_DEMANDS", .int 4)
  | 2 => some ("MOST_MARKS", .int 2)
  | 4 => some ("PARTS", .dict [(.str (Wd.s .not), .int 1), (.str (Wd.s .both), .int 2), (.str (Wd.s .either), .int 2)])
  | 5 => some ("NAMES", .tuple [.str (Wd.s .x), .str (Wd.s .y)])
  | 6 => some ("WORDS", .tuple [.str (Wd.s .each), .str (Wd.s .some)])
  | _ => none
def T : Tab := { fn := tfn, glb := tgl, c := 2, prim := primR, hd := fun f => Nat.beq f 33 }
def top (i : Nat) : Stmt := PySem.Challenge.pw_twonamed_k03_whole_read.main.body.getD i (.Pass ⟨0, 0, 0, 0⟩)
theorem chk0 : chkD T p_is_word (top 10) = true := by decide +kernel
theorem chk1 : chkD T p_is_form_to (top 11) = true := by decide +kernel
theorem chk2 : chkD T p_is_form (top 12) = true := by decide +kernel
theorem chk3 : chkD T p_is_demand (top 13) = true := by decide +kernel
theorem chk4 : chkD T p_marks_of (top 14) = true := by decide +kernel
theorem chk5 : chkD T p_is_row (top 15) = true := by decide +kernel
theorem chk6 : chkD T p_words_of (top 17) = true := by decide +kernel
theorem chk7 : chkD T p_written (top 18) = true := by decide +kernel
theorem chk8 : chkD T p_law_cell_at (top 23) = true := by decide +kernel
theorem chk9 : chkD T p_law_mixed (top 24) = true := by decide +kernel
theorem chk10 : chkD T p_law_drawn (top 25) = true := by decide +kernel
theorem chk11 : chkD T p_law_form (top 26) = true := by decide +kernel
theorem chk12 : chkD T p_law_demand (top 27) = true := by decide +kernel
theorem chk13 : chkD T p_law_row (top 28) = true := by decide +kernel
theorem chk14 : chkD T p_law_words (top 29) = true := by decide +kernel
theorem chk15 : chkD T p_law_text (top 30) = true := by decide +kernel
theorem chk16 : chkD T p_law_changed_k03 (top 31) = true := by decide +kernel
theorem chk17 : chkD T p_law_form_in (top 32) = true := by decide +kernel
theorem chk18 : chkD T p_law_due (top 33) = true := by decide +kernel
theorem chk20 : chkD T p_law_k03 (top 35) = true := by decide +kernel
theorem isR_T : IsR T := ⟨⟨⟨_, rfl, rfl, rfl, rfl⟩, ⟨_, rfl, rfl, rfl, rfl⟩, rfl, rfl⟩, ⟨_, rfl, rfl, rfl, rfl⟩, ⟨_, rfl, rfl, rfl, rfl⟩, ⟨_, rfl, rfl, rfl, rfl⟩, ⟨_, rfl, rfl, rfl, rfl⟩, rfl, rfl, rfl, rfl⟩
theorem wr_T : Wr T := ⟨⟨_, rfl, rfl, rfl, rfl⟩, ⟨_, rfl, rfl, rfl, rfl⟩⟩
theorem all_mk {l : PySem.W.OpenLaw} {w : World} {K : PySem.W.Frag} {h : Heap} {mg : Str → Option Value} (X : K.In h) (G : h.Ns mainGlobals mg) {fa qR qN qD f0 f1 f2 f3 f4 f5 f6 f7 f8 f9 f10 f11 f12 f13 f14 f15 f16 f17 f18 f19 f20 fI fW fF fD fR : Addr} {od0 an0 od1 an1 od2 an2 od3 an3 od4 an4 od5 an5 od6 an6 od7 an7 od8 an8 od9 an9 od10 an10 od11 an11 od12 an12 od13 an13 od14 an14 od15 an15 od16 an16 od17 an17 od18 an18 od19 an19 od20 an20 odI anI odW anW odF anF odD anD odR anR : Option Addr} {sl0 sl1 sl2 sl3 sl4 sl5 sl6 sl7 sl8 sl9 sl10 sl11 sl12 sl13 sl14 sl15 sl16 sl17 sl18 sl19 sl20 slI slW slF slD slR : Array (Option Value)} {oc0 kV0 dc0 pm0 cd0 ct0 oc1 kV1 dc1 pm1 cd1 ct1 oc2 kV2 dc2 pm2 cd2 ct2 oc3 kV3 dc3 pm3 cd3 ct3 oc4 kV4 dc4 pm4 cd4 ct4 oc5 kV5 dc5 pm5 cd5 ct5 oc6 kV6 dc6 pm6 cd6 ct6 oc7 kV7 dc7 pm7 cd7 ct7 oc8 kV8 dc8 pm8 cd8 ct8 oc9 kV9 dc9 pm9 cd9 ct9 oc10 kV10 dc10 pm10 cd10 ct10 oc11 kV11 dc11 pm11 cd11 ct11 oc12 kV12 dc12 pm12 cd12 ct12 oc13 kV13 dc13 pm13 cd13 ct13 oc14 kV14 dc14 pm14 cd14 ct14 oc15 kV15 dc15 pm15 cd15 ct15 oc16 kV16 dc16 pm16 cd16 ct16 oc17 kV17 dc17 pm17 cd17 ct17 oc18 kV18 dc18 pm18 cd18 ct18 oc19 kV19 dc19 pm19 cd19 ct19 oc20 kV20 dc20 pm20 cd20 ct20 ocI kVI dcI pmI cdI ctI ocW kVW dcW pmW cdW ctW ocF kVF dcF pmF cdF ctF ocD kVD dcD pmD cdD ctD ocR kVR dcR pmR cdR ctR : Value} {g0 g1 g2 g3 g4 g5 : Value}
    (hfa : mg "law" = some (.ref fa))
    (aR : PySem.W.nsIn K mainGlobals "Reader" = some (some (.ref qR)))
    (pgR : PySem.W.plainGet K qR Str.empty = true)
    (hdR : PySem.W.hasDictIn K qR = true)
    (poR : PySem.W.plainOver K qR = true)
    (saR : PySem.W.findIn K (.ref qR) "__setattr__" = some (some (.builtin "object.__setattr__")))
    (mkR : PySem.W.makesIn K qR = true)
    (kcR : PySem.W.keepIn K (.ref qR) = true)
    (nR_words : PySem.W.findIn K (.ref qR) "words" = some none)
    (nR_at : PySem.W.findIn K (.ref qR) "at" = some none)
    (aI : PySem.W.findIn K (.ref qR) "__init__" = some (some (.ref fI)))
    (iI : PySem.W.isFn K (.ref fI) = true)
    (aW : PySem.W.findIn K (.ref qR) "word" = some (some (.ref fW)))
    (iW : PySem.W.isFn K (.ref fW) = true)
    (aF : PySem.W.findIn K (.ref qR) "form" = some (some (.ref fF)))
    (iF : PySem.W.isFn K (.ref fF) = true)
    (aD : PySem.W.findIn K (.ref qR) "demand" = some (some (.ref fD)))
    (iD : PySem.W.isFn K (.ref fD) = true)
    (aRd : PySem.W.nsIn K mainGlobals "read" = some (some (.ref fR)))
    (lI : K.lookup fI = some ⟨ocI, odI, .func (PySem.W.fnOf "__init__" "Reader.__init__" (defArgs (inClass (top 20) 0)) (defBody (inClass (top 20) 0)) (defScope (inClass (top 20) 0)) .none kVI dcI pmI anI cdI ctI), slI⟩)
    (cI : PySem.W.codeIn K cdI "Reader.__init__" = true)
    (kI : PySem.W.keepIn K (.ref fI) = true)
    (lW : K.lookup fW = some ⟨ocW, odW, .func (PySem.W.fnOf "word" "Reader.word" (defArgs (inClass (top 20) 1)) (defBody (inClass (top 20) 1)) (defScope (inClass (top 20) 1)) .none kVW dcW pmW anW cdW ctW), slW⟩)
    (cW : PySem.W.codeIn K cdW "Reader.word" = true)
    (kW : PySem.W.keepIn K (.ref fW) = true)
    (lF : K.lookup fF = some ⟨ocF, odF, .func (PySem.W.fnOf "form" "Reader.form" (defArgs (inClass (top 20) 2)) (defBody (inClass (top 20) 2)) (defScope (inClass (top 20) 2)) .none kVF dcF pmF anF cdF ctF), slF⟩)
    (cF : PySem.W.codeIn K cdF "Reader.form" = true)
    (kF : PySem.W.keepIn K (.ref fF) = true)
    (lD : K.lookup fD = some ⟨ocD, odD, .func (PySem.W.fnOf "demand" "Reader.demand" (defArgs (inClass (top 20) 3)) (defBody (inClass (top 20) 3)) (defScope (inClass (top 20) 3)) .none kVD dcD pmD anD cdD ctD), slD⟩)
    (cD : PySem.W.codeIn K cdD "Reader.demand" = true)
    (kD : PySem.W.keepIn K (.ref fD) = true)
    (lR : K.lookup fR = some ⟨ocR, odR, .func (PySem.W.fnOf "read" "read" (defArgs (top 21)) (defBody (top 21)) (defScope (top 21)) .none kVR dcR pmR anR cdR ctR), slR⟩)
    (cR : PySem.W.codeIn K cdR "read" = true)
    (kR : PySem.W.keepIn K (.ref fR) = true)
    (aN : PySem.W.nsIn K mainGlobals "NoText" = some (some (.ref qN)))
    (aD_ : PySem.W.nsIn K mainGlobals "DemandError" = some (some (.ref qD)))
    (nV : PySem.W.nsIn K mainGlobals "ValueError" = some none)
    (xN : PySem.W.excIn K qN [.type "ValueError", .type "Exception", .type "BaseException", .type "object"] "ValueError.__new__" = true)
    (kN : PySem.W.keepIn K (.ref qN) = true)
    (bN : PySem.W.subIn K (.ref qN) (.type "BaseException") = some true)
    (tN : PySem.W.typeIn K (.ref qN) = some (.type "type"))
    (sN : PySem.W.subIn K (.ref qN) (.ref qN) = some true)
    (e1 : PySem.W.findIn K (.ref qN) "__getattribute__" = some (some (.builtin "BaseException.__getattribute__")))
    (e2 : PySem.W.findIn K (.ref qN) "__getattr__" = some none)
    (e3 : PySem.W.hasDictIn K qN = true)
    (e4 : PySem.W.findIn K (.ref qN) "__class__" = some (some (.builtin "object.__class__")))
    (e5 : PySem.W.specialIn K (.builtin "object.__class__") "__get__" = some (some (.builtin "getset_descriptor.__get__")))
    (e6 : PySem.W.takesIn K (.builtin "object.__class__") = some true)
    (e7 : PySem.W.mroIn K qN (.type "object") = some true)
    (hD_ : PySem.W.hasDictIn K qD = true)
    (tD_ : PySem.W.typeIn K (.ref qD) = some (.type "type"))
    (sD_ : PySem.W.subIn K (.ref qN) (.ref qD) = some true)
    (sV_ : PySem.W.subIn K (.ref qN) (.type "ValueError") = some true)
    (a0 : PySem.W.nsIn K mainGlobals "is_word" = some (some (.ref f0)))
    (l0 : K.lookup f0 = some ⟨oc0, od0, .func (PySem.W.fnOf "is_word" "is_word" (defArgs (top 10)) (defBody (top 10)) (defScope (top 10)) .none kV0 dc0 pm0 an0 cd0 ct0), sl0⟩)
    (c0 : PySem.W.codeIn K cd0 "is_word" = true)
    (k0 : PySem.W.keepIn K (.ref f0) = true)
    (a1 : PySem.W.nsIn K mainGlobals "is_form_to" = some (some (.ref f1)))
    (l1 : K.lookup f1 = some ⟨oc1, od1, .func (PySem.W.fnOf "is_form_to" "is_form_to" (defArgs (top 11)) (defBody (top 11)) (defScope (top 11)) .none kV1 dc1 pm1 an1 cd1 ct1), sl1⟩)
    (c1 : PySem.W.codeIn K cd1 "is_form_to" = true)
    (k1 : PySem.W.keepIn K (.ref f1) = true)
    (a2 : PySem.W.nsIn K mainGlobals "is_form" = some (some (.ref f2)))
    (l2 : K.lookup f2 = some ⟨oc2, od2, .func (PySem.W.fnOf "is_form" "is_form" (defArgs (top 12)) (defBody (top 12)) (defScope (top 12)) .none kV2 dc2 pm2 an2 cd2 ct2), sl2⟩)
    (c2 : PySem.W.codeIn K cd2 "is_form" = true)
    (k2 : PySem.W.keepIn K (.ref f2) = true)
    (a3 : PySem.W.nsIn K mainGlobals "is_demand" = some (some (.ref f3)))
    (l3 : K.lookup f3 = some ⟨oc3, od3, .func (PySem.W.fnOf "is_demand" "is_demand" (defArgs (top 13)) (defBody (top 13)) (defScope (top 13)) .none kV3 dc3 pm3 an3 cd3 ct3), sl3⟩)
    (c3 : PySem.W.codeIn K cd3 "is_demand" = true)
    (k3 : PySem.W.keepIn K (.ref f3) = true)
    (a4 : PySem.W.nsIn K mainGlobals "marks_of" = some (some (.ref f4)))
    (l4 : K.lookup f4 = some ⟨oc4, od4, .func (PySem.W.fnOf "marks_of" "marks_of" (defArgs (top 14)) (defBody (top 14)) (defScope (top 14)) .none kV4 dc4 pm4 an4 cd4 ct4), sl4⟩)
    (c4 : PySem.W.codeIn K cd4 "marks_of" = true)
    (k4 : PySem.W.keepIn K (.ref f4) = true)
    (a5 : PySem.W.nsIn K mainGlobals "is_row" = some (some (.ref f5)))
    (l5 : K.lookup f5 = some ⟨oc5, od5, .func (PySem.W.fnOf "is_row" "is_row" (defArgs (top 15)) (defBody (top 15)) (defScope (top 15)) .none kV5 dc5 pm5 an5 cd5 ct5), sl5⟩)
    (c5 : PySem.W.codeIn K cd5 "is_row" = true)
    (k5 : PySem.W.keepIn K (.ref f5) = true)
    (a6 : PySem.W.nsIn K mainGlobals "words_of" = some (some (.ref f6)))
    (l6 : K.lookup f6 = some ⟨oc6, od6, .func (PySem.W.fnOf "words_of" "words_of" (defArgs (top 17)) (defBody (top 17)) (defScope (top 17)) .none kV6 dc6 pm6 an6 cd6 ct6), sl6⟩)
    (c6 : PySem.W.codeIn K cd6 "words_of" = true)
    (k6 : PySem.W.keepIn K (.ref f6) = true)
    (a7 : PySem.W.nsIn K mainGlobals "written" = some (some (.ref f7)))
    (l7 : K.lookup f7 = some ⟨oc7, od7, .func (PySem.W.fnOf "written" "written" (defArgs (top 18)) (defBody (top 18)) (defScope (top 18)) .none kV7 dc7 pm7 an7 cd7 ct7), sl7⟩)
    (c7 : PySem.W.codeIn K cd7 "written" = true)
    (k7 : PySem.W.keepIn K (.ref f7) = true)
    (a8 : PySem.W.nsIn K mainGlobals "_law_cell_at" = some (some (.ref f8)))
    (l8 : K.lookup f8 = some ⟨oc8, od8, .func (PySem.W.fnOf "_law_cell_at" "_law_cell_at" (defArgs (top 23)) (defBody (top 23)) (defScope (top 23)) .none kV8 dc8 pm8 an8 cd8 ct8), sl8⟩)
    (c8 : PySem.W.codeIn K cd8 "_law_cell_at" = true)
    (k8 : PySem.W.keepIn K (.ref f8) = true)
    (a9 : PySem.W.nsIn K mainGlobals "_law_mixed" = some (some (.ref f9)))
    (l9 : K.lookup f9 = some ⟨oc9, od9, .func (PySem.W.fnOf "_law_mixed" "_law_mixed" (defArgs (top 24)) (defBody (top 24)) (defScope (top 24)) .none kV9 dc9 pm9 an9 cd9 ct9), sl9⟩)
    (c9 : PySem.W.codeIn K cd9 "_law_mixed" = true)
    (k9 : PySem.W.keepIn K (.ref f9) = true)
    (a10 : PySem.W.nsIn K mainGlobals "_law_drawn" = some (some (.ref f10)))
    (l10 : K.lookup f10 = some ⟨oc10, od10, .func (PySem.W.fnOf "_law_drawn" "_law_drawn" (defArgs (top 25)) (defBody (top 25)) (defScope (top 25)) .none kV10 dc10 pm10 an10 cd10 ct10), sl10⟩)
    (c10 : PySem.W.codeIn K cd10 "_law_drawn" = true)
    (k10 : PySem.W.keepIn K (.ref f10) = true)
    (a11 : PySem.W.nsIn K mainGlobals "_law_form" = some (some (.ref f11)))
    (l11 : K.lookup f11 = some ⟨oc11, od11, .func (PySem.W.fnOf "_law_form" "_law_form" (defArgs (top 26)) (defBody (top 26)) (defScope (top 26)) .none kV11 dc11 pm11 an11 cd11 ct11), sl11⟩)
    (c11 : PySem.W.codeIn K cd11 "_law_form" = true)
    (k11 : PySem.W.keepIn K (.ref f11) = true)
    (a12 : PySem.W.nsIn K mainGlobals "_law_demand" = some (some (.ref f12)))
    (l12 : K.lookup f12 = some ⟨oc12, od12, .func (PySem.W.fnOf "_law_demand" "_law_demand" (defArgs (top 27)) (defBody (top 27)) (defScope (top 27)) .none kV12 dc12 pm12 an12 cd12 ct12), sl12⟩)
    (c12 : PySem.W.codeIn K cd12 "_law_demand" = true)
    (k12 : PySem.W.keepIn K (.ref f12) = true)
    (a13 : PySem.W.nsIn K mainGlobals "_law_row" = some (some (.ref f13)))
    (l13 : K.lookup f13 = some ⟨oc13, od13, .func (PySem.W.fnOf "_law_row" "_law_row" (defArgs (top 28)) (defBody (top 28)) (defScope (top 28)) .none kV13 dc13 pm13 an13 cd13 ct13), sl13⟩)
    (c13 : PySem.W.codeIn K cd13 "_law_row" = true)
    (k13 : PySem.W.keepIn K (.ref f13) = true)
    (a14 : PySem.W.nsIn K mainGlobals "_law_words" = some (some (.ref f14)))
    (l14 : K.lookup f14 = some ⟨oc14, od14, .func (PySem.W.fnOf "_law_words" "_law_words" (defArgs (top 29)) (defBody (top 29)) (defScope (top 29)) .none kV14 dc14 pm14 an14 cd14 ct14), sl14⟩)
    (c14 : PySem.W.codeIn K cd14 "_law_words" = true)
    (k14 : PySem.W.keepIn K (.ref f14) = true)
    (a15 : PySem.W.nsIn K mainGlobals "_law_text" = some (some (.ref f15)))
    (l15 : K.lookup f15 = some ⟨oc15, od15, .func (PySem.W.fnOf "_law_text" "_law_text" (defArgs (top 30)) (defBody (top 30)) (defScope (top 30)) .none kV15 dc15 pm15 an15 cd15 ct15), sl15⟩)
    (c15 : PySem.W.codeIn K cd15 "_law_text" = true)
    (k15 : PySem.W.keepIn K (.ref f15) = true)
    (a16 : PySem.W.nsIn K mainGlobals "_law_changed" = some (some (.ref f16)))
    (l16 : K.lookup f16 = some ⟨oc16, od16, .func (PySem.W.fnOf "_law_changed" "_law_changed" (defArgs (top 31)) (defBody (top 31)) (defScope (top 31)) .none kV16 dc16 pm16 an16 cd16 ct16), sl16⟩)
    (c16 : PySem.W.codeIn K cd16 "_law_changed" = true)
    (k16 : PySem.W.keepIn K (.ref f16) = true)
    (a17 : PySem.W.nsIn K mainGlobals "_law_form_in" = some (some (.ref f17)))
    (l17 : K.lookup f17 = some ⟨oc17, od17, .func (PySem.W.fnOf "_law_form_in" "_law_form_in" (defArgs (top 32)) (defBody (top 32)) (defScope (top 32)) .none kV17 dc17 pm17 an17 cd17 ct17), sl17⟩)
    (c17 : PySem.W.codeIn K cd17 "_law_form_in" = true)
    (k17 : PySem.W.keepIn K (.ref f17) = true)
    (a18 : PySem.W.nsIn K mainGlobals "_law_due" = some (some (.ref f18)))
    (l18 : K.lookup f18 = some ⟨oc18, od18, .func (PySem.W.fnOf "_law_due" "_law_due" (defArgs (top 33)) (defBody (top 33)) (defScope (top 33)) .none kV18 dc18 pm18 an18 cd18 ct18), sl18⟩)
    (c18 : PySem.W.codeIn K cd18 "_law_due" = true)
    (k18 : PySem.W.keepIn K (.ref f18) = true)
    (a19 : PySem.W.nsIn K mainGlobals "_law_told" = some (some (.ref f19)))
    (l19 : K.lookup f19 = some ⟨oc19, od19, .func (PySem.W.fnOf "_law_told" "_law_told" (defArgs (top 34)) (defBody (top 34)) (defScope (top 34)) .none kV19 dc19 pm19 an19 cd19 ct19), sl19⟩)
    (c19 : PySem.W.codeIn K cd19 "_law_told" = true)
    (k19 : PySem.W.keepIn K (.ref f19) = true)
    (a20 : PySem.W.nsIn K mainGlobals "law" = some (some (.ref f20)))
    (l20 : K.lookup f20 = some ⟨oc20, od20, .func (PySem.W.fnOf "law" "law" (defArgs (top 35)) (defBody (top 35)) (defScope (top 35)) .none kV20 dc20 pm20 an20 cd20 ct20), sl20⟩)
    (c20 : PySem.W.codeIn K cd20 "law" = true)
    (k20 : PySem.W.keepIn K (.ref f20) = true)
    (z0 : PySem.W.nsIn K mainGlobals "len" = some none)
    (z1 : PySem.W.nsIn K mainGlobals "int" = some none)
    (z2 : PySem.W.nsIn K mainGlobals "tuple" = some none)
    (z3 : PySem.W.nsIn K mainGlobals "list" = some none)
    (z4 : PySem.W.nsIn K mainGlobals "sorted" = some none)
    (z5 : PySem.W.nsIn K mainGlobals "all" = some none)
    (z6 : PySem.W.nsIn K mainGlobals "any" = some none)
    (z7 : PySem.W.nsIn K mainGlobals "str" = some none)
    (z8 : PySem.W.nsIn K mainGlobals "isinstance" = some none)
    (z9 : PySem.W.nsIn K mainGlobals "bool" = some none)
    (z10 : PySem.W.nsIn K mainGlobals "range" = some none)
    (z11 : PySem.W.nsIn K mainGlobals "enumerate" = some none)
    (z12 : PySem.W.nsIn K mainGlobals "zip" = some none)
    (z13 : PySem.W.nsIn K mainGlobals "set" = some none)
    (y0 : PySem.W.nsIn K mainGlobals "DEEP" = some (some g0))
    (x0 : GlbAt K w g0 (.int 5))
    (y1 : PySem.W.nsIn K mainGlobals "MOST_DEMANDS" = some (some g1))
    (x1 : GlbAt K w g1 (.int 4))
    (y2 : PySem.W.nsIn K mainGlobals "MOST_MARKS" = some (some g2))
    (x2 : GlbAt K w g2 (.int 2))
    (y3 : PySem.W.nsIn K mainGlobals "PARTS" = some (some g3))
    (x3 : GlbAt K w g3 (.dict [(.str (Wd.s .not), .int 1), (.str (Wd.s .both), .int 2), (.str (Wd.s .either), .int 2)]))
    (y4 : PySem.W.nsIn K mainGlobals "NAMES" = some (some g4))
    (x4 : GlbAt K w g4 (.tuple [.str (Wd.s .x), .str (Wd.s .y)]))
    (y5 : PySem.W.nsIn K mainGlobals "WORDS" = some (some g5))
    (x5 : GlbAt K w g5 (.tuple [.str (Wd.s .each), .str (Wd.s .some)]))
    (pure_law : ∀ ns : List Int, ns.length ≤ 63 → T.run 100 24 [.list (ns.map .int)] = some (.bool true)) :
    ∃ fd : FuncData, (∀ (s : Shared) (v : Value), BindsTo s fd ⟨[v], []⟩ [("_law_script", v)]) ∧ ∀ base : Heap, K.In base → base.Ns mainGlobals mg → FnOk l.prog w K mg base CX0 200 fa fd ["_law_script"] (spLaw K) := by
  have e := hfa.symm.trans (PySem.W.mg_of X G a20)
  cases e
  have D0 := def_at (F := p_is_word) (st := top 10) (PySem.W.mg_of X G a0) l0 c0 k0 (fun us hl => match us, hl with | [_, _], _ => rfl)
  have D1 := def_at (F := p_is_form_to) (st := top 11) (PySem.W.mg_of X G a1) l1 c1 k1 (fun us hl => match us, hl with | [_, _], _ => rfl)
  have D2 := def_at (F := p_is_form) (st := top 12) (PySem.W.mg_of X G a2) l2 c2 k2 (fun us hl => match us, hl with | [_], _ => rfl)
  have D3 := def_at (F := p_is_demand) (st := top 13) (PySem.W.mg_of X G a3) l3 c3 k3 (fun us hl => match us, hl with | [_], _ => rfl)
  have D4 := def_at (F := p_marks_of) (st := top 14) (PySem.W.mg_of X G a4) l4 c4 k4 (fun us hl => match us, hl with | [_], _ => rfl)
  have D5 := def_at (F := p_is_row) (st := top 15) (PySem.W.mg_of X G a5) l5 c5 k5 (fun us hl => match us, hl with | [_], _ => rfl)
  have D6 := def_at (F := p_words_of) (st := top 17) (PySem.W.mg_of X G a6) l6 c6 k6 (fun us hl => match us, hl with | [_], _ => rfl)
  have D7 := def_at (F := p_written) (st := top 18) (PySem.W.mg_of X G a7) l7 c7 k7 (fun us hl => match us, hl with | [_], _ => rfl)
  have D8 := def_at (F := p_law_cell_at) (st := top 23) (PySem.W.mg_of X G a8) l8 c8 k8 (fun us hl => match us, hl with | [_, _], _ => rfl)
  have D9 := def_at (F := p_law_mixed) (st := top 24) (PySem.W.mg_of X G a9) l9 c9 k9 (fun us hl => match us, hl with | [_, _], _ => rfl)
  have D10 := def_at (F := p_law_drawn) (st := top 25) (PySem.W.mg_of X G a10) l10 c10 k10 (fun us hl => match us, hl with | [_, _], _ => rfl)
  have D11 := def_at (F := p_law_form) (st := top 26) (PySem.W.mg_of X G a11) l11 c11 k11 (fun us hl => match us, hl with | [_, _], _ => rfl)
  have D12 := def_at (F := p_law_demand) (st := top 27) (PySem.W.mg_of X G a12) l12 c12 k12 (fun us hl => match us, hl with | [_, _], _ => rfl)
  have D13 := def_at (F := p_law_row) (st := top 28) (PySem.W.mg_of X G a13) l13 c13 k13 (fun us hl => match us, hl with | [_, _], _ => rfl)
  have D14 := def_at (F := p_law_words) (st := top 29) (PySem.W.mg_of X G a14) l14 c14 k14 (fun us hl => match us, hl with | [_], _ => rfl)
  have D15 := def_at (F := p_law_text) (st := top 30) (PySem.W.mg_of X G a15) l15 c15 k15 (fun us hl => match us, hl with | [_], _ => rfl)
  have D16 := def_at (F := p_law_changed_k03) (st := top 31) (PySem.W.mg_of X G a16) l16 c16 k16 (fun us hl => match us, hl with | [_, _], _ => rfl)
  have D17 := def_at (F := p_law_form_in) (st := top 32) (PySem.W.mg_of X G a17) l17 c17 k17 (fun us hl => match us, hl with | [_, _, _], _ => rfl)
  have D18 := def_at (F := p_law_due) (st := top 33) (PySem.W.mg_of X G a18) l18 c18 k18 (fun us hl => match us, hl with | [_], _ => rfl)
  have D19 := def_at (F := p_law_told) (st := top 34) (PySem.W.mg_of X G a19) l19 c19 k19 (fun us hl => match us, hl with | [_], _ => rfl)
  have D20 := def_at (F := p_law_k03) (st := top 35) (PySem.W.mg_of X G a20) l20 c20 k20 (fun us hl => match us, hl with | [_], _ => rfl)
  have O : TabOk T K w mg := by
    refine ⟨by decide, fun f F hF _ => ?_, fun x hx => ?_, fun g x d hg => ?_, fun f F _ h => (by cases h)⟩
    · have hF : tfn f = some F := hF
      unfold tfn at hF
      split at hF
      · cases hF; exact ⟨_, _, _, D0, fun _ => chk0⟩
      · cases hF; exact ⟨_, _, _, D1, fun _ => chk1⟩
      · cases hF; exact ⟨_, _, _, D2, fun _ => chk2⟩
      · cases hF; exact ⟨_, _, _, D3, fun _ => chk3⟩
      · cases hF; exact ⟨_, _, _, D4, fun _ => chk4⟩
      · cases hF; exact ⟨_, _, _, D5, fun _ => chk5⟩
      · cases hF; exact ⟨_, _, _, D6, fun _ => chk6⟩
      · cases hF; exact ⟨_, _, _, D7, fun _ => chk7⟩
      · cases hF; exact ⟨_, _, _, D8, fun _ => chk8⟩
      · cases hF; exact ⟨_, _, _, D9, fun _ => chk9⟩
      · cases hF; exact ⟨_, _, _, D10, fun _ => chk10⟩
      · cases hF; exact ⟨_, _, _, D11, fun _ => chk11⟩
      · cases hF; exact ⟨_, _, _, D12, fun _ => chk12⟩
      · cases hF; exact ⟨_, _, _, D13, fun _ => chk13⟩
      · cases hF; exact ⟨_, _, _, D14, fun _ => chk14⟩
      · cases hF; exact ⟨_, _, _, D15, fun _ => chk15⟩
      · cases hF; exact ⟨_, _, _, D16, fun _ => chk16⟩
      · cases hF; exact ⟨_, _, _, D17, fun _ => chk17⟩
      · cases hF; exact ⟨_, _, _, D18, fun _ => chk18⟩
      · cases hF; exact ⟨_, _, _, D19, fun z => nomatch z⟩
      · cases hF; exact ⟨_, _, _, D20, fun _ => chk20⟩
      · cases hF
    · simp only [bNames, List.mem_cons, List.not_mem_nil, or_false] at hx
      rcases hx with rfl | rfl | rfl | rfl | rfl | rfl | rfl | rfl | rfl | rfl | rfl | rfl | rfl | rfl
      · exact PySem.W.mg_none_of X G z0
      · exact PySem.W.mg_none_of X G z1
      · exact PySem.W.mg_none_of X G z2
      · exact PySem.W.mg_none_of X G z3
      · exact PySem.W.mg_none_of X G z4
      · exact PySem.W.mg_none_of X G z5
      · exact PySem.W.mg_none_of X G z6
      · exact PySem.W.mg_none_of X G z7
      · exact PySem.W.mg_none_of X G z8
      · exact PySem.W.mg_none_of X G z9
      · exact PySem.W.mg_none_of X G z10
      · exact PySem.W.mg_none_of X G z11
      · exact PySem.W.mg_none_of X G z12
      · exact PySem.W.mg_none_of X G z13
    · have hg : tgl g = some (x, d) := hg
      unfold tgl at hg
      split at hg
      · cases hg; exact glb_at (PySem.W.mg_of X G y0) x0
      · cases hg; exact glb_at (PySem.W.mg_of X G y1) x1
      · cases hg; exact glb_at (PySem.W.mg_of X G y2) x2
      · cases hg; exact glb_at (PySem.W.mg_of X G y3) x3
      · cases hg; exact glb_at (PySem.W.mg_of X G y4) x4
      · cases hg; exact glb_at (PySem.W.mg_of X G y5) x5
      · cases hg
  have FI := fun_mk (st := (inClass (top 20) 0)) lI cI kI
  have bI := FI.binds (ps := ["self", "words"]) fun _ _ _ _ _ _ us hl => match us, hl with | [_, _], _ => rfl
  have FW := fun_mk (st := (inClass (top 20) 1)) lW cW kW
  have bW := FW.binds (ps := ["self"]) fun _ _ _ _ _ _ us hl => match us, hl with | [_], _ => rfl
  have FF := fun_mk (st := (inClass (top 20) 2)) lF cF kF
  have bF := FF.binds (ps := ["self", "deep"]) fun _ _ _ _ _ _ us hl => match us, hl with | [_, _], _ => rfl
  have FD := fun_mk (st := (inClass (top 20) 3)) lD cD kD
  have bD := FD.binds (ps := ["self"]) fun _ _ _ _ _ _ us hl => match us, hl with | [_], _ => rfl
  have FR := fun_mk (st := (top 21)) lR cR kR
  have bR := FR.binds (ps := ["text"]) fun _ _ _ _ _ _ us hl => match us, hl with | [_], _ => rfl
  have hbn := O.blt
  have RC : RCls K mg qR qN := ⟨⟨pgR, hdR, poR, saR⟩, nR_words, nR_at, PySem.W.mg_of X G aN, xN, kN, bN, tN, PySem.W.mg_none_of X G z0⟩
  have RE : RExc K mg qN qD := ⟨PySem.W.mg_of X G aD_, PySem.W.mg_none_of X G nV, ⟨e1, e2, bN, e3, e4, e5, e6, e7⟩, kit_own hD_ tD_ sD_, kit_bty (by decide +kernel) sV_, PySem.W.exm_ref bN e3 tN sN⟩
  have WG : GW T.G := ⟨rfl, rfl, rfl, rfl⟩
  have NO : NoObH T := ⟨fun _ => rfl, fun _ => rfl, fun _ => rfl, fun _ => rfl, fun _ => rfl, rfl⟩
  have TK : Told T := by
    refine ⟨rfl, rfl, ⟨_, rfl, rfl, rfl, rfl⟩, fun f F h h2 => ?_⟩
    have : f = 33 := Nat.eq_of_beq_eq_true h
    subst this
    cases h2
    exact ⟨rfl, rfl, rfl, rfl, rfl⟩
  refine ⟨PySem.W.fnOf "law" "law" (defArgs (top 35)) (defBody (top 35)) (defScope (top 35)) .none kV20 dc20 pm20 an20 cd20 ct20, fun s v => .of_eq rfl, fun base _ _ => ?_⟩
  have MW : Meth K qR "word" fW := ⟨aW, iW, kW⟩
  have MF : Meth K qR "form" fF := ⟨aF, iF, kF⟩
  have MD : Meth K qR "demand" fD := ⟨aD, iD, kD⟩
  have C00 := cok_of (P := l.prog) (w := w) (base := base) NO O (gen_zero O)
  have OW := word_ok (P := l.prog) (w := w) (base := base) RC FW (by decide +kernel) (by decide +kernel) (by decide +kernel) (by decide +kernel) rfl
  have OF := form_ok (P := l.prog) (w := w) (base := base) (fd := _) (fun k spR FR hR => form_step (T := T) (st := (inClass (top 20) 2)) RC WG hbn C00 MW bW OW FF MF bF FR hR (by decide +kernel) rfl (by decide +kernel) (by decide +kernel) (by decide +kernel) (by decide +kernel) (by decide +kernel) (by decide +kernel) (by decide +kernel) (by decide +kernel) (by decide +kernel) (by decide +kernel) (by decide +kernel) (by decide +kernel) (by decide +kernel) (by decide +kernel) (by decide +kernel) (by decide +kernel) (by decide +kernel) (by decide +kernel) (by decide +kernel) (by decide +kernel) (by decide +kernel) (by decide +kernel)) 6
  have OD := dem_ok (T := T) (st := (inClass (top 20) 3)) RC WG C00 MW bW OW MF bF OF FD (by decide +kernel) rfl (by decide +kernel) (by decide +kernel) (by decide +kernel) (by decide +kernel) (by decide +kernel) (by decide +kernel) (by decide +kernel) (by decide +kernel) (by decide +kernel) (by decide +kernel) (by decide +kernel) (by decide +kernel) (by decide +kernel) (by decide +kernel) (by decide +kernel)
  have OI := rinit_ok (P := l.prog) (w := w) (base := base) RC FI (by decide +kernel) (by decide +kernel) (by decide +kernel) rfl
  have hand : ByHand T l.prog w K mg base := by
    obtain ⟨_, _, D33⟩ := D19.fn
    refine hand_told NO TK D19.mgf (fun_mk (st := top 34) l19 c19 k19) fun n hn g => ?_
    have Cn := cok_of (P := l.prog) (w := w) (base := base) NO O g
    have OR := read_ok (T := T) (n := n) (lv := T.c * n) (st := (top 21)) RC (rrun_of isR_T wr_T hn) hbn (by show 9 ≤ 2 * n; omega) Cn (PySem.W.mg_of X G aR) ⟨mkR, aI, iI, kcR⟩ bI OI MD bD OD FR (by decide +kernel) rfl (by decide +kernel) (by decide +kernel) (by decide +kernel) (by decide +kernel) (by decide +kernel) (by decide +kernel) (by decide +kernel) (by decide +kernel) (by decide +kernel) (by decide +kernel) (by decide +kernel) (by decide +kernel) (by decide +kernel) (by decide +kernel) (by decide +kernel)
    have OT := told_ok (T := T) (n := n) (lv := T.c * n + 1) (st := top 34) RC RE hbn (fun X a b c d e f g h i r => Cn X a b c d e f g h i (r.mono (Nat.le_succ _))) (PySem.W.mg_of X G aRd) kR bR OR (fun_mk (st := top 34) l19 c19 k19) (by decide +kernel) rfl (by decide +kernel) (by decide +kernel) (by decide +kernel) (by decide +kernel) (by decide +kernel) (by decide +kernel) (by decide +kernel) (by decide +kernel) (by decide +kernel) (by decide +kernel) (by decide +kernel)
    exact OT.mono (by show 2 * n + 1 + 1 ≤ 2 * (n + 1); omega)
  exact (all_of O hand 100 D20 chk20 (f := 24) rfl).imp (spl_gen (fun _ => trivial) pure_law)

-- uses PuA PuB PuC PuT PuU PqA PqB PqC PqD PqE PqF PqG
theorem hDr : Draws T := ⟨⟨_, rfl, rfl, rfl, rfl⟩, ⟨_, rfl, rfl, rfl, rfl⟩, ⟨_, rfl, rfl, rfl, rfl⟩⟩
theorem hR : Rows T := ⟨hDr, ⟨_, rfl, rfl, rfl, rfl⟩, ⟨_, rfl, rfl, rfl, rfl⟩, ⟨_, rfl, rfl, rfl, rfl⟩⟩
theorem hLw : LWr T := ⟨⟨_, rfl, rfl, rfl, rfl⟩, ⟨_, rfl, rfl, rfl, rfl⟩⟩
theorem hIs : IsR T := ⟨⟨⟨_, rfl, rfl, rfl, rfl⟩, ⟨_, rfl, rfl, rfl, rfl⟩, rfl, rfl⟩, ⟨_, rfl, rfl, rfl, rfl⟩, ⟨_, rfl, rfl, rfl, rfl⟩, ⟨_, rfl, rfl, rfl, rfl⟩, ⟨_, rfl, rfl, rfl, rfl⟩, rfl, rfl, rfl, rfl⟩
theorem hWr : Wr T := ⟨⟨_, rfl, rfl, rfl, rfl⟩, ⟨_, rfl, rfl, rfl, rfl⟩⟩
theorem hDue : LDue T := ⟨⟨_, rfl, rfl, rfl, rfl⟩, ⟨_, rfl, rfl, rfl, rfl⟩⟩
theorem hCh : Has T 30 2 6 b_law_changed_k03 := ⟨_, rfl, rfl, rfl, rfl⟩
theorem hTold : Told T := by
  refine ⟨rfl, rfl, ⟨_, rfl, rfl, rfl, rfl⟩, fun f F h h2 => ?_⟩
  have : f = 33 := Nat.eq_of_beq_eq_true h
  subst this
  cases h2
  exact ⟨rfl, rfl, rfl, rfl, rfl⟩
theorem hlaw : Has T 24 1 8 b_law_k03 := ⟨_, rfl, rfl, rfl, rfl⟩
def dropQ : Nat → QSs → QSs
  | 0, b => b
  | n + 1, .cons _ r => dropQ n r
  | _ + 1, .nil => .nil
theorem iff9 {G : Nat → Option PyData} {run : Nat → List PyData → Option PyData} {N : Int} {B : QSs} {ρ : Rho} (h : getV 2 ρ = some (.int N)) : evS G run (.iff [] (.cmp .eq (.bin .mod (.var 2) (.lit (.int 9))) (.lit (.int 1))) B .nil) ρ = if N % 9 = 1 then evSs G run B ρ else some (.nx ρ) := by
  have e : evE G run (.cmp .eq (.bin .mod (.var 2) (.lit (.int 9))) (.lit (.int 1))) ρ = some (.bool (decide (N % 9 = 1))) := by
    simp [h, bop]
    exact Bool.beq_eq_decide_eq _ _
  rw [evS_iff, frzs_nil, e]
  by_cases c : N % 9 = 1
  · rw [if_pos c, decide_eq_true c]; rfl
  · rw [if_neg c, decide_eq_false c]; rfl
theorem told99 {t : Str} (ht : t.length ≤ 900000) : T.run 99 33 [.str t] = some (encO (readR t)) := run_told hTold (n := 85) (by omega)
theorem due99 {t : Str} (ht : t.length ≤ 900000) : T.run 99 32 [.str t] = some (encO (readR t)) := run_due hDue 91 ht
theorem text99 {r : List Dem} (hl : r.length ≤ 6) (hd : ∀ d ∈ r, d.form.deep ≤ 3) : T.run 99 28 [encR r] = some (.str (rowText r)) := run_ltextD hLw 94 3 r ⟨by omega, fun d h => by
  have h5 := hd d h
  have h6 := d.form.size_le
  have : 2 ^ (d.form.deep + 1) ≤ 2 ^ 4 := Nat.pow_le_pow_right (by decide) (by omega)
  omega, fun d h => by have := hd d h; omega⟩ hd
/-- drawn demands -/
theorem draw_dems (N : Int) (s0 s1 s3 s4 s5 s6 s7 : Sl) : ∀ ks : List Int, ∃ r : List Dem, r.length = ks.length ∧ (∀ d ∈ r, d.form.deep ≤ 2) ∧
    compD T.G (T.run 99) (.nm 6) (.call 14 (.cons (.call 12 (.cons (.var 2) (.cons (.var 6) (.nil)))) (.cons (.lit (.int 2)) (.nil)))) (.lit (.bool true)) [s0, s1, .val (.int N), s3, s4, s5, s6, s7] (ks.map .int) = some (r.map Dem.enc)
  | [] => ⟨[], rfl, fun d hd => (by cases hd), rfl⟩
  | k :: ks => by
    obtain ⟨r, h1, h2, h3⟩ := draw_dems N s0 s1 s3 s4 s5 s6 s7 ks
    obtain ⟨d, hd, ed⟩ := run_demand hR 2 94 (drawF N k) (drawF_nn N k)
    have e1 : T.run 99 12 [.int N, .int k] = _ := run_drawn hDr 98 N k
    have ed : T.run 99 14 [.int (drawF N k), .int 2] = some d.enc := ed
    refine ⟨d :: r, by simp [h1], fun x hx => ?_, ?_⟩
    · rcases List.mem_cons.mp hx with rfl | hx
      · exact hd
      · exact h2 x hx
    · rw [List.map_cons, compD_cons, h3]
      have ea : asg (.nm 6) (PyData.int k) [s0, s1, .val (.int N), s3, s4, s5, s6, s7] = some [s0, s1, .val (.int N), s3, s4, s5, .val (.int k), s7] := rfl
      rw [ea, List.map_cons]
      generalize d.enc = F at *
      generalize r.map Dem.enc = R at *
      simp [e1, ed]
theorem pure_law : ∀ ns : List Int, ns.length ≤ 63 → T.run 100 24 [.list (ns.map .int)] = some (.bool true) := by
  intro ns _
  obtain ⟨m0, hm0, e0⟩ := run_mixed hDr 97 ns 0 (Int.le_refl 0)
  obtain ⟨m1, hm1, e1⟩ := run_mixed hDr 97 ns 1 (by decide)
  obtain ⟨m2, hm2, e2⟩ := run_mixed hDr 97 ns 2 (by decide)
  obtain ⟨r, g, er⟩ := run_rowK hR 92 m0 4 4 rfl (by decide) hm0
  have e0 : T.run 99 11 [.list (ns.map .int), .int 0] = some (.int m0) := e0
  have e1 : T.run 99 11 [.list (ns.map .int), .int 1] = some (.int m1) := e1
  have e2 : T.run 99 11 [.list (ns.map .int), .int 2] = some (.int m2) := e2
  have er : T.run 99 15 [.int m0, .int 4] = some (encR r) := er
  have gl := g.len
  have hd5 : ∀ d ∈ r, d.form.deep ≤ 5 := fun d hd => by have := g.deep d hd; omega
  have et := text99 (r := r) (by omega) g.deep
  have hlen := rowText_len (r := r) (by omega) g.deep
  have hread : readR (rowText r) = some r := by rw [readR_row hd5, if_pos ⟨gl, g.marks⟩]
  rw [run_succ hlaw 99 _ rfl]
  show (evSs T.G (T.run 99) b_law_k03 [.val (.list (ns.map .int)), .un, .un, .un, .un, .un, .un, .un]).map outD = _
  generalize ns.map PyData.int = L at *
  -- behind the many nots
  have rest : ∀ (t : Str) (s4 s5 s6 : Sl), t.length ≤ 4000 → evSs T.G (T.run 99) (dropQ 5 b_law_k03) [.val (.list L), .val (encR r), .val (.int m1), .val (.str t), s4, s5, s6, .un] = some (.rt (.bool true)) := by
    intro t s4 s5 s6 ht
    generalize encR r = R at *
    obtain ⟨x, hx, ex⟩ := atI_of_lt (fun n : Nat => PyData.int (n : Nat)) (xs := [0, 1, 2, 4, 0, 1]) (i := m1 / 9 % 6) (Int.emod_nonneg _ (by decide)) (Int.emod_lt_of_pos _ (by decide))
    have hx4 : x ≤ 4 := by
      simp only [List.mem_cons, List.not_mem_nil, or_false] at hx
      omega
    have ex : ixD (.tuple [.int 0, .int 1, .int 2, .int 4, .int 0, .int 1]) (.int (m1 / 9 % 6)) = some (.int (x : Nat)) := ex
    have hi : evI T.G (T.run 99) false (.rng1 (.ix (.tup (.cons (.lit (.int 0)) (.cons (.lit (.int 1)) (.cons (.lit (.int 2)) (.cons (.lit (.int 4)) (.cons (.lit (.int 0)) (.cons (.lit (.int 1)) (.nil)))))))) (.bin .mod (.bin .fdiv (.var 2) (.lit (.int 9))) (.lit (.int 6))))) [.val (.list L), .val R, .val (.int m1), .val (.str t), s4, s5, s6, .un] = some (((List.range x).map fun i : Nat => (i : Int)).map PyData.int) := by
      rw [← rgD_eq]
      have ok : rngOk ((x : Nat) : Int) = true := rngOk_iff.mpr ⟨by omega, by omega⟩
      simp [bop, ex, ok]
    have hpow : 3 ^ ((List.range x).map fun i : Nat => (i : Int)).length * (t.length + 10) ≤ 900000 := by
      rw [List.length_map, List.length_range]
      have h1 : 3 ^ x ≤ 3 ^ 4 := Nat.pow_le_pow_right (by decide) hx4
      have h2 : 3 ^ x * (t.length + 10) ≤ 81 * 4010 := Nat.mul_le_mul h1 (by omega)
      omega
    obtain ⟨t', s6', hl', el⟩ := change_loop hCh hDr 98 m1 (.val (.list L)) (.val R) s4 s5 .un _ t s6 hpow
    have ht' : t'.length ≤ 900000 := by omega
    have et' := told99 ht'
    have ed' := due99 ht'
    have ne' := ne_told t'
    have hrow : ∀ r', readR t' = some r' → T.run 99 6 [encR r'] = some (.bool true) := fun r' h => by
      obtain ⟨_, a1, a2, a3⟩ := readR_text h
      rw [(rrun_of hIs hWr (n := 99) (by decide)).isr r' a3, decide_eq_true a1, decide_eq_true a2]; rfl
    have h8 : evS T.G (T.run 99) (.iff [] (.or (.cmp .ne (.var 7) (.call 32 (.cons (.var 3) (.nil)))) (.and (.isN true (.var 7)) (.isTr true (.call 6 (.cons (.var 7) (.nil)))))) (.cons (.ret [] (.lit (.bool false))) (.nil)) (.nil)) [.val (.list L), .val R, .val (.int m1), .val (.str t'), s4, s5, s6', .val (encO (readR t'))] = some (.nx [.val (.list L), .val R, .val (.int m1), .val (.str t'), s4, s5, s6', .val (encO (readR t'))]) := by
      cases q : readR t' with
      | none =>
        rw [q] at ed' ne'
        simp only [encO] at *
        simp [ed', ne', isNone]
      | some r' =>
        have hr' := hrow r' q
        rw [q] at ed' ne'
        have hn : isNone (encR r') = false := rfl
        simp only [encO] at *
        generalize encR r' = R' at *
        simp [ed', ne', hn, hr']
    -- the drawn demands
    obtain ⟨ds, dl, dd, ec⟩ := draw_dems m2 (.val (.list L)) (.val R) (.val (.str t')) s4 s5 .un (.val (encO (readR t'))) ((List.range (m2 % 7).toNat).map fun i : Nat => (i : Int))
    have hm7 : 0 ≤ m2 % 7 ∧ m2 % 7 < 7 := ⟨Int.emod_nonneg _ (by decide), Int.emod_lt_of_pos _ (by decide)⟩
    have dl6 : ds.length ≤ 6 := by
      rw [dl, List.length_map, List.length_range]; omega
    have dd3 : ∀ d ∈ ds, d.form.deep ≤ 3 := fun d hd => by have := dd d hd; omega
    have ex2 := text99 dl6 dd3
    have hl2 := rowText_len dl6 dd3
    have et2 := told99 (t := rowText ds) (by omega)
    have ed2 := due99 (t := rowText ds) (by omega)
    have eq2 := eq_told (rowText ds)
    generalize rowText ds = t2 at *
    generalize encO (readR t2) = O2 at *
    generalize encO (readR t') = O1 at *
    have hrg : rgD (m2 % 7) = ((List.range (m2 % 7).toNat).map fun i : Nat => (i : Int)).map PyData.int := by
      rw [← rgD_eq]
      congr 1
      omega
    have ok7 : rngOk (m2 % 7) = true := rngOk_iff.mpr ⟨by omega, by omega⟩
    rw [← hrg] at ec
    show evSs T.G (T.run 99) (.cons _ _) _ = _
    rw [evSs, evS_for, frzs_nil, hi]
    show ((loopD T.G (T.run (98 + 1)) (.nm 6) b_law_k03_f1 [.val (.list L), .val R, .val (.int m1), .val (.str t), s4, s5, s6, .un] (((List.range x).map fun i : Nat => (i : Int)).map PyData.int))).bind _ = _
    rw [el]
    show evSs T.G (T.run 99) _ [.val (.list L), .val R, .val (.int m1), .val (.str t'), s4, s5, s6', .un] = _
    refine stN (ρ' := [.val (.list L), .val R, .val (.int m1), .val (.str t'), s4, s5, s6', .val O1]) ?_ (stN h8 (stN (ρ' := [.val (.list L), .val R, .val (.int m2), .val (.str t'), s4, s5, s6', .val O1]) ?_ (stN (ρ' := [.val (.list L), .val R, .val (.int m2), .val (.str t2), s4, s5, s6', .val O1]) ?_ (stR ?_))))
    · simp [et']
    · simp [e2]
    · have ex2' : T.run 99 28 [.tuple (ds.map Dem.enc)] = some (.str t2) := ex2
      generalize ds.map Dem.enc = D at *
      simp [bop, ok7, ec, blt, ex2']
    · simp [et2, ed2, eq2]
  have main : evSs T.G (T.run 99) b_law_k03 [.val (.list L), .un, .un, .un, .un, .un, .un, .un] = some (.rt (.bool true)) := by
    have h4 : T.run 99 33 [.str (rowText r)] = some (encR r) := by
      rw [told99 (by omega), hread]; rfl
    have hne : copD .ne (encR r) (encR r) = some (.bool false) := by
      have := ne_told (rowText r)
      rw [hread] at this
      exact this
    unfold b_law_k03
    refine stN (ρ' := [.val (.list L), .val (encR r), .un, .un, .un, .un, .un, .un]) ?_ (stN (ρ' := [.val (.list L), .val (encR r), .val (.int m1), .un, .un, .un, .un, .un]) ?_ (stN (ρ' := [.val (.list L), .val (encR r), .val (.int m1), .val (.str (rowText r)), .un, .un, .un, .un]) ?_ (stN (ρ' := [.val (.list L), .val (encR r), .val (.int m1), .val (.str (rowText r)), .un, .un, .un, .un]) ?_ ?_)))
    · generalize encR r = R at *
      simp [e0, er]
    · generalize encR r = R at *
      simp [e1]
    · generalize encR r = R at *
      simp [et]
    · generalize encR r = R at *
      simp [h4, hne]
    by_cases c : m1 % 9 = 1
    · obtain ⟨k, hk, hk2⟩ : ∃ k : Nat, m1 / 9 % 151 = (k : Int) ∧ k ≤ 150 := ⟨(m1 / 9 % 151).toNat, by have := Int.emod_nonneg (m1 / 9) (b := 151) (by decide); omega, by
        have := Int.emod_lt_of_pos (m1 / 9) (b := 151) (by decide); omega⟩
      obtain ⟨s6, el⟩ := nots_loop (G := T.G) (run := T.run 99) (.val (.list L)) (.val (encR r)) (.val (.int m1)) (.val (.str (dnot k).text)) (.val (.int (k : Nat))) .un (rgD (k : Nat)) 0 .un
      have hrl : (rgD (k : Nat)).length = k := by simp [rgD]
      rw [hrl, Nat.zero_add] at el
      have hln := not_len k
      have h5 := told99 (t := (dnot k).text) (by omega)
      rw [read_nots] at h5
      have htx := dnot_text k
      have h0 : ¬ ((k : Int) < 0) := by omega
      have q1 : catOk ("each some " : Str).length (repS "not " k).length = true := catOk_of (by
        rw [repS_len, show ("not " : Str).length = 4 from rfl, show ("each some " : Str).length = 10 from rfl]; omega)
      have q2 : catOk ("each some " ++ repS "not " k).length ("xy" : Str).length = true := catOk_of (by
        rw [slen, repS_len, show ("not " : Str).length = 4 from rfl, show ("each some " : Str).length = 10 from rfl, show ("xy" : Str).length = 2 from rfl]; omega)
      have hmul : bop .mul (.str "not ") (.int (k : Nat)) = some (.str (repS "not " k)) := by
        have a1 : (decide ((0 : Int) ≤ (k : Nat)) && decide (((k : Nat) : Int) ≤ 1000) && decide (("not " : Str).length ≤ 1000)) = true := by
          rw [decide_eq_true (by omega), decide_eq_true (by omega), show ("not " : Str).length = 4 from rfl]; rfl
        show (if (decide ((0 : Int) ≤ (k : Nat)) && decide (((k : Nat) : Int) ≤ 1000) && decide (("not " : Str).length ≤ 1000)) = true then some (PyData.str (repS "not " ((k : Nat) : Int).toNat)) else none) = _
        rw [if_pos a1]; rfl
      have hadd : ∀ x y : Str, catOk x.length y.length = true → bop .add (.str x) (.str y) = some (.str (x ++ y)) := fun x y h => by
        show (if catOk x.length y.length = true then some (PyData.str (x ++ y)) else none) = _
        rw [if_pos h]
      have b1 := hadd _ _ q1
      have b2 := hadd _ _ q2
      rw [← htx] at b2
      have enc0 : (nots 0).enc = .tuple [.str (Wd.s .to), .str (Wd.s .x), .str (Wd.s .y)] := rfl
      have hdn : encR [dnot k] = .tuple [.tuple [.str (Wd.s .each), .str (Wd.s .some), (nots k).enc]] := rfl
      generalize hTX : (dnot k).text = tx at *
      have okk : rngOk ((k : Nat) : Int) = true := rngOk_iff.mpr ⟨by omega, by omega⟩
      refine stN (ρ' := [.val (.list L), .val (encR r), .val (.int m1), .val (.str tx), .val (.int (k : Nat)), .val (nots k).enc, s6, .un]) ?_ (rest tx (.val (.int (k : Nat))) (.val (nots k).enc) s6 (by omega))
      rw [iff9 rfl, if_pos c]
      refine stN (ρ' := [.val (.list L), .val (encR r), .val (.int m1), .val (.str (rowText r)), .val (.int (k : Nat)), .un, .un, .un]) ?_ (stN (ρ' := [.val (.list L), .val (encR r), .val (.int m1), .val (.str tx), .val (.int (k : Nat)), .un, .un, .un]) ?_ (stN (ρ' := [.val (.list L), .val (encR r), .val (.int m1), .val (.str tx), .val (.int (k : Nat)), .val (nots 0).enc, .un, .un]) ?_ (stN (ρ' := [.val (.list L), .val (encR r), .val (.int m1), .val (.str tx), .val (.int (k : Nat)), .val (nots k).enc, s6, .un]) ?_ (stN ?_ rfl))))
      · generalize encR r = R at *
        simp [bop, hk]
      · generalize encR r = R at *
        have hev : evE T.G (T.run 99) (.bin .add (.bin .add (.lit (.str "each some ")) (.bin .mul (.lit (.str "not ")) (.var 4))) (.lit (.str "xy"))) [.val (.list L), .val R, .val (.int m1), .val (.str (rowText r)), .val (.int (k : Nat)), .un, .un, .un] = some (.str tx) := by
          rw [evE_bin, evE_bin, evE_bin, evE_lit, evE_lit, evE_lit, evE_var]
          show ap2 (bop .add) (ap2 (bop .add) (some (.str "each some ")) (ap2 (bop .mul) (some (.str "not ")) (some (.int (k : Nat))))) (some (.str "xy")) = _
          rw [ap2_some, hmul, ap2_some, b1, ap2_some, b2]
        rw [evS_set, frzs_nil, hev]
        rfl
      · generalize encR r = R at *
        rw [enc0]
        simp
      · rw [evS_for, frzs_nil]
        have hi : evI T.G (T.run 99) false (.rng1 (.var 4)) [.val (.list L), .val (encR r), .val (.int m1), .val (.str tx), .val (.int (k : Nat)), .val (nots 0).enc, .un, .un] = some (rgD (k : Nat)) := by
          generalize encR r = R at *
          generalize (nots 0).enc = F at *
          simp [okk]
        rw [hi]
        exact el
      · by_cases k5 : k ≤ 5
        · rw [if_pos k5] at h5
          have hdp : (encR [dnot k]).depth ≤ 64 := by
            have := row_depth (r := [dnot k]) fun d hd => by
              rw [List.mem_singleton] at hd
              subst hd
              show (nots k).deep ≤ 5
              rw [nots_deep]; exact k5
            omega
          have hne5 : copD .ne (encR [dnot k]) (encR [dnot k]) = some (.bool false) := by
            rw [copD_ne (eqOk_le (.inl hdp)), row_self]; rfl
          have h5 : T.run 99 33 [.str tx] = some (encR [dnot k]) := h5
          have i1 : ixD (.list [.none, encR [dnot k]]) (.int 1) = some (encR [dnot k]) := rfl
          have kle : ((k : Nat) : Int) ≤ 5 := by omega
          rw [hdn] at *
          generalize encR r = R at *
          generalize (nots k).enc = F at *
          simp [h5, kle, i1, hne5]
        · rw [if_neg k5] at h5
          have h5 : T.run 99 33 [.str tx] = some .none := h5
          have kle : ¬ (((k : Nat) : Int) ≤ 5) := by omega
          generalize encR r = R at *
          generalize (nots k).enc = F at *
          have i0 : ixD (.list [.none, .tuple [.tuple [.str (Wd.s .each), .str (Wd.s .some), F]]]) (.int 0) = some .none := rfl
          have hnn : copD .ne .none .none = some (.bool false) := by
            rw [copD_ne (eqOk_none_r _), eqv_nn]; rfl
          simp [h5, kle, i0, hnn]
    · refine stN (ρ' := [.val (.list L), .val (encR r), .val (.int m1), .val (.str (rowText r)), .un, .un, .un, .un]) ?_ (rest (rowText r) .un .un .un hlen)
      rw [iff9 rfl, if_neg c]
  rw [main]; rfl

end Ev
open PySem PySem.W PyProof.Rows
set_option maxRecDepth 100000 in
set_option maxHeartbeats 0 in
theorem PySem.Challenge.cw_twonamed_k03_whole_read_holds : PySem.Challenge.rw_twonamed_k03_whole_read.Holds := by
  w_on; o_law; k_head; (case hw => w_witness2)
  k_fill
  refine Ev.walk (l := PySem.Challenge.rw_twonamed_k03_whole_read) rfl rfl (fun w h Y => PySem.W.kIn_of Y) ?F
  case F =>
    intro w mg fa h KX G hmg
    refine' Ev.all_mk KX G hmg ?aR ?pgR ?hdR ?poR ?saR ?mkR ?kcR ?nR_words ?nR_at ?aI ?iI ?aW ?iW ?aF ?iF ?aD ?iD ?aRd ?lI ?cI ?kI ?lW ?cW ?kW ?lF ?cF ?kF ?lD ?cD ?kD ?lR ?cR ?kR ?aN ?aD_ ?nV ?xN ?kN ?bN ?tN ?sN ?e1 ?e2 ?e3 ?e4 ?e5 ?e6 ?e7 ?hD_ ?tD_ ?sD_ ?sV_ ?a0 ?l0 ?c0 ?k0 ?a1 ?l1 ?c1 ?k1 ?a2 ?l2 ?c2 ?k2 ?a3 ?l3 ?c3 ?k3 ?a4 ?l4 ?c4 ?k4 ?a5 ?l5 ?c5 ?k5 ?a6 ?l6 ?c6 ?k6 ?a7 ?l7 ?c7 ?k7 ?a8 ?l8 ?c8 ?k8 ?a9 ?l9 ?c9 ?k9 ?a10 ?l10 ?c10 ?k10 ?a11 ?l11 ?c11 ?k11 ?a12 ?l12 ?c12 ?k12 ?a13 ?l13 ?c13 ?k13 ?a14 ?l14 ?c14 ?k14 ?a15 ?l15 ?c15 ?k15 ?a16 ?l16 ?c16 ?k16 ?a17 ?l17 ?c17 ?k17 ?a18 ?l18 ?c18 ?k18 ?a19 ?l19 ?c19 ?k19 ?a20 ?l20 ?c20 ?k20 ?z0 ?z1 ?z2 ?z3 ?z4 ?z5 ?z6 ?z7 ?z8 ?z9 ?z10 ?z11 ?z12 ?z13 ?y0 ?x0 ?y1 ?x1 ?y2 ?x2 ?y3 ?x3 ?y4 ?x4 ?y5 ?x5 Ev.pure_law
    (case aR => k_is)
    (case pgR => k_is)
    (case hdR => k_is)
    (case poR => k_is)
    (case saR => k_is)
    (case mkR => k_is)
    (case kcR => k_is)
    (case nR_words => k_is)
    (case nR_at => k_is)
    (case aI => k_is)
    (case iI => k_is)
    (case aW => k_is)
    (case iW => k_is)
    (case aF => k_is)
    (case iF => k_is)
    (case aD => k_is)
    (case iD => k_is)
    (case aRd => k_is)
    (case lI => k_is)
    (case cI => k_is)
    (case kI => k_is)
    (case lW => k_is)
    (case cW => k_is)
    (case kW => k_is)
    (case lF => k_is)
    (case cF => k_is)
    (case kF => k_is)
    (case lD => k_is)
    (case cD => k_is)
    (case kD => k_is)
    (case lR => k_is)
    (case cR => k_is)
    (case kR => k_is)
    (case aN => k_is)
    (case aD_ => k_is)
    (case nV => k_is)
    (case xN => k_exc)
    (case kN => k_is)
    (case bN => k_is)
    (case tN => k_is)
    (case sN => k_is)
    (case e1 => k_is)
    (case e2 => k_is)
    (case e3 => k_is)
    (case e4 => k_is)
    (case e5 => k_is)
    (case e6 => k_is)
    (case e7 => k_is)
    (case hD_ => k_is)
    (case tD_ => k_is)
    (case sD_ => k_is)
    (case sV_ => k_is)
    (case a0 => k_is)
    (case l0 => k_is)
    (case c0 => k_is)
    (case k0 => k_is)
    (case a1 => k_is)
    (case l1 => k_is)
    (case c1 => k_is)
    (case k1 => k_is)
    (case a2 => k_is)
    (case l2 => k_is)
    (case c2 => k_is)
    (case k2 => k_is)
    (case a3 => k_is)
    (case l3 => k_is)
    (case c3 => k_is)
    (case k3 => k_is)
    (case a4 => k_is)
    (case l4 => k_is)
    (case c4 => k_is)
    (case k4 => k_is)
    (case a5 => k_is)
    (case l5 => k_is)
    (case c5 => k_is)
    (case k5 => k_is)
    (case a6 => k_is)
    (case l6 => k_is)
    (case c6 => k_is)
    (case k6 => k_is)
    (case a7 => k_is)
    (case l7 => k_is)
    (case c7 => k_is)
    (case k7 => k_is)
    (case a8 => k_is)
    (case l8 => k_is)
    (case c8 => k_is)
    (case k8 => k_is)
    (case a9 => k_is)
    (case l9 => k_is)
    (case c9 => k_is)
    (case k9 => k_is)
    (case a10 => k_is)
    (case l10 => k_is)
    (case c10 => k_is)
    (case k10 => k_is)
    (case a11 => k_is)
    (case l11 => k_is)
    (case c11 => k_is)
    (case k11 => k_is)
    (case a12 => k_is)
    (case l12 => k_is)
    (case c12 => k_is)
    (case k12 => k_is)
    (case a13 => k_is)
    (case l13 => k_is)
    (case c13 => k_is)
    (case k13 => k_is)
    (case a14 => k_is)
    (case l14 => k_is)
    (case c14 => k_is)
    (case k14 => k_is)
    (case a15 => k_is)
    (case l15 => k_is)
    (case c15 => k_is)
    (case k15 => k_is)
    (case a16 => k_is)
    (case l16 => k_is)
    (case c16 => k_is)
    (case k16 => k_is)
    (case a17 => k_is)
    (case l17 => k_is)
    (case c17 => k_is)
    (case k17 => k_is)
    (case a18 => k_is)
    (case l18 => k_is)
    (case c18 => k_is)
    (case k18 => k_is)
    (case a19 => k_is)
    (case l19 => k_is)
    (case c19 => k_is)
    (case k19 => k_is)
    (case a20 => k_is)
    (case l20 => k_is)
    (case c20 => k_is)
    (case k20 => k_is)
    (case z0 => k_is)
    (case z1 => k_is)
    (case z2 => k_is)
    (case z3 => k_is)
    (case z4 => k_is)
    (case z5 => k_is)
    (case z6 => k_is)
    (case z7 => k_is)
    (case z8 => k_is)
    (case z9 => k_is)
    (case z10 => k_is)
    (case z11 => k_is)
    (case z12 => k_is)
    (case z13 => k_is)
    (case y0 => k_is)
    (case x0 => exact Ev.GlbAt.int)
    (case y1 => k_is)
    (case x1 => exact Ev.GlbAt.int)
    (case y2 => k_is)
    (case x2 => exact Ev.GlbAt.int)
    (case y3 => k_is)
    (case x3 => (refine' Ev.GlbAt.dct ?gh ?gd ?go; (case gh => k_is); (case gd => rfl); (case go => exact ⟨⟨_, rfl⟩, rfl, ⟨_, rfl⟩, ⟨_, rfl⟩, rfl, ⟨_, rfl⟩, ⟨_, rfl⟩, rfl, ⟨_, rfl⟩, trivial⟩)))
    (case y4 => k_is)
    (case x4 => (refine' Ev.GlbAt.strs2 ?gh ?gc ?gd ?g1 ?g2; (case gh => k_is); (case gc => rfl); (case gd => rfl); (case g1 => decide +kernel); (case g2 => decide +kernel)))
    (case y5 => k_is)
    (case x5 => (refine' Ev.GlbAt.strs2 ?gh ?gc ?gd ?g1 ?g2; (case gh => k_is); (case gc => rfl); (case gd => rfl); (case g1 => decide +kernel); (case g2 => decide +kernel)))
