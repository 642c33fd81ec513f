import PyProof.Rows.All
import Wide.All
import OpenK.AllK
import Wide.FinOn
import KE.KStateDown
import KE.KDictKeyed
import KE.SortData
import HandS.ForMost
import HandS.Flow
import HandS.Wide
import HandS.Zip
import HandS.IsInst
import HandS.SortOrd
import HandS.WordsExc
import HandS.Defaults
import HandS.TupAny
import HandS.StrMore
import HandS.Text
import HandS.Style
import HandS.Deep
import HandS.Star
import HandS.TupSets
import HandS.Strs
import KE.GoesMore
import HandS.Conv
import KE.GoesZip
import KE.KDictZip
import KE.DataCmp
import PySem.Challenge.RW_sourcelabels_k66_whole_paths_forced_by_s
import HandS.Head0
import HandS.Head1
import HandS.Head2
import HandS.HeadEnd
import HandS.HeadHook1
import HandS.HeadHook2
set_option Elab.async false
set_option linter.all false
set_option maxRecDepth 100000
set_option maxHeartbeats 4000000
/-! The deep layer: values as trees, slots that hold frozen values or own objects. -/
namespace Wk
open PySem PySem.Spec PyProof.Rows L2

/-- a test that nothing unfolds -/
noncomputable def iteC {α : Type} (c : Prop) (a b : α) : α := @ite α c (Classical.propDecidable c) a b
theorem iteC_pos {α : Type} {c : Prop} {a b : α} (h : c) : iteC c a b = a := if_pos h
theorem iteC_neg {α : Type} {c : Prop} {a b : α} (h : ¬ c) : iteC c a b = b := if_neg h
abbrev D := PyData
abbrev Stt := L2.St
/-- own objects -/
inductive OD where
  | lst (ds : List D)
  | dct (kvs : List (D × D))
/-- what a slot holds -/
inductive SV where
  | un
  | val (d : D)
  | own (t : Option Nat) (o : OD)
abbrev Sl := List SV
/-- what an expression gives -/
inductive RV where
  | val (d : D)
  | tmp (o : OD)
  | sl (i : Nat)

/-- a script, as a value -/
def scrK (ns : List Int) : List (D × D) := ns.map fun n => (.int n, .none)
mutual
/-- no script in it -/
def nd : D → Bool
  | .none => true
  | .bool _ => true
  | .int _ => true
  | .str _ => true
  | .list ds => ndAll ds
  | .tuple ds => ndAll ds
  | .dict _ => false
def ndAll : List D → Bool
  | [] => true
  | d :: ds => nd d && ndAll ds
end
mutual
inductive Rp (K : PySem.W.Frag) (H : Hp) : V → D → Prop
  | non : Rp K H .non .none
  | bl (b : Bool) : Rp K H (.bl b) (.bool b)
  | int (i : Int) : Rp K H (.int i) (.int i)
  | str (x : Str) : Rp K H (.str x) (.str x)
  | lst {a : Addr} {xs : List V} {ds : List D} : H a = some (.lst xs) → RpAll K H xs ds → Rp K H (.ref a) (.list ds)
  | tup {a : Addr} {xs : List V} {ds : List D} : SqT K H a xs → RpAll K H xs ds → Rp K H (.ref a) (.tuple ds)
  | scr {a : Addr} {ns : List Int} : SqL K H a (ns.map V.int) → Rp K H (.ref a) (.dict (scrK ns))
inductive RpAll (K : PySem.W.Frag) (H : Hp) : List V → List D → Prop
  | nil : RpAll K H [] []
  | cons {v : V} {vs : List V} {d : D} {ds : List D} : Rp K H v d → RpAll K H vs ds → RpAll K H (v :: vs) (d :: ds)
end

section
variable {K : PySem.W.Frag} {H H' : Hp}
theorem Same.sql (e : Same H H') {a : Addr} {xs : List V} (h : SqL K H a xs) : SqL K H' a xs := by
  rcases h with (h | ⟨o, h⟩) | h
  · exact .inl (.inl (e _ _ h))
  · exact .inl (.inr ⟨o, e _ _ h⟩)
  · exact .inr h
theorem Same.sqt (e : Same H H') {a : Addr} {xs : List V} (h : SqT K H a xs) : SqT K H' a xs := by
  rcases h with (h | ⟨o, h⟩) | h
  · exact .inl (.inl (e _ _ h))
  · exact .inl (.inr ⟨o, e _ _ h⟩)
  · exact .inr h
mutual
theorem Rp.mono (e : Same H H') : ∀ (d : D) (v : V), Rp K H v d → Rp K H' v d
  | .none, _, h => by cases h; exact .non
  | .bool b, _, h => by cases h; exact .bl b
  | .int i, _, h => by cases h; exact .int i
  | .str x, _, h => by cases h; exact .str x
  | .list ds, _, h => by
    cases h with
    | lst hs ha => exact .lst (e _ _ hs) (RpAll.mono e ds _ ha)
  | .tuple ds, _, h => by
    cases h with
    | tup hs ha => exact .tup (Same.sqt e hs) (RpAll.mono e ds _ ha)
  | .dict _, _, h => by
    cases h with
    | scr hs => exact .scr (Same.sql e hs)
theorem RpAll.mono (e : Same H H') : ∀ (ds : List D) (vs : List V), RpAll K H vs ds → RpAll K H' vs ds
  | [], _, h => by cases h; exact .nil
  | d :: ds, _, h => by
    cases h with
    | cons h1 h2 => exact .cons (Rp.mono e d _ h1) (RpAll.mono e ds _ h2)
end
mutual
theorem nd_of_lay : ∀ d : D, d.canLay0 = true → nd d = true
  | .none, _ => by simp only [nd]
  | .bool _, _ => by simp only [nd]
  | .int _, _ => by simp only [nd]
  | .str _, _ => by simp only [nd]
  | .list ds, h => by simp only [nd]; exact ndAll_of_lay ds (by simpa only [PyData.canLay0] using h)
  | .tuple ds, h => by simp only [nd]; exact ndAll_of_lay ds (by simpa only [PyData.canLay0] using h)
  | .dict _, h => by simp [PyData.canLay0] at h
theorem ndAll_of_lay : ∀ ds : List D, PyData.canLayAll0 ds = true → ndAll ds = true
  | [], _ => by simp only [ndAll]
  | d :: ds, h => by
    simp only [PyData.canLayAll0, Bool.and_eq_true] at h
    simp only [ndAll, nd_of_lay d h.1, ndAll_of_lay ds h.2, Bool.and_self]
end
mutual
theorem nd_of_alike : ∀ d : D, PySem.W.alike d d = true → nd d = true
  | .none, _ => by simp only [nd]
  | .bool _, _ => by simp only [nd]
  | .int _, _ => by simp only [nd]
  | .str _, _ => by simp only [nd]
  | .list ds, h => by simp only [nd]; exact ndAll_of_alike ds (by simpa only [PySem.W.alike] using h)
  | .tuple ds, h => by simp only [nd]; exact ndAll_of_alike ds (by simpa only [PySem.W.alike] using h)
  | .dict _, h => by simp [PySem.W.alike] at h
theorem ndAll_of_alike : ∀ ds : List D, PySem.W.alikeAll ds ds = true → ndAll ds = true
  | [], _ => by simp only [ndAll]
  | d :: ds, h => by
    simp only [PySem.W.alikeAll, Bool.and_eq_true] at h
    simp only [ndAll, nd_of_alike d h.1, ndAll_of_alike ds h.2, Bool.and_self]
end
mutual
theorem Rp.dp : ∀ (d : D) (v : V), nd d = true → Rp K H v d → Dp K H v d
  | .none, _, _, h => by cases h; exact .non
  | .bool b, _, _, h => by cases h; exact .bl b
  | .int i, _, _, h => by cases h; exact .int i
  | .str x, _, _, h => by cases h; exact .str x
  | .list ds, _, n, h => by
    simp only [nd] at n
    cases h with
    | lst hs ha => exact .lst (SqL.of hs) (RpAll.dp ds _ n ha)
  | .tuple ds, _, n, h => by
    simp only [nd] at n
    cases h with
    | tup hs ha => exact .tup hs (RpAll.dp ds _ n ha)
  | .dict _, _, n, _ => by simp [nd] at n
theorem RpAll.dp : ∀ (ds : List D) (vs : List V), ndAll ds = true → RpAll K H vs ds → DpAll K H vs ds
  | [], _, _, h => by cases h; exact .nil
  | d :: ds, _, n, h => by
    simp only [ndAll, Bool.and_eq_true] at n
    cases h with
    | cons h1 h2 => exact .cons (Rp.dp d _ n.1 h1) (RpAll.dp ds _ n.2 h2)
end
theorem Rp.dpt {ds : List D} {v : V} (h : Rp K H v (.tuple ds)) (n : SeqAt.shaped (.list ds) = true) : Dp K H v (.tuple ds) := by
  have := nd_of_lay _ (Bool.and_eq_true_iff.mp n).1
  simp only [nd] at this
  exact Rp.dp _ _ (by simp only [nd]; exact this) h
theorem Rp.dps {d : D} {v : V} (h : Rp K H v d) (n : SeqAt.shaped d = true) : Dp K H v d := Rp.dp d v (nd_of_lay d (Bool.and_eq_true_iff.mp n).1) h
theorem RpAll.length : ∀ {vs : List V} {ds : List D}, RpAll K H vs ds → vs.length = ds.length
  | _, _, .nil => rfl
  | _, _, .cons _ h => congrArg (· + 1) h.length
theorem RpAll.get : ∀ {vs : List V} {ds : List D} {i : Nat} {d : D}, RpAll K H vs ds → ds[i]? = some d → ∃ v, vs[i]? = some v ∧ Rp K H v d
  | _, _, _, _, .nil, e => by simp at e
  | _, _, 0, _, .cons r _, e => by simp at e; subst e; exact ⟨_, rfl, r⟩
  | _, _, i + 1, d, .cons _ t, e => by
    obtain ⟨u, h1, h2⟩ := RpAll.get (i := i) (d := d) t (by simpa using e)
    exact ⟨u, by simpa using h1, h2⟩
theorem RpAll.append : ∀ {vs us : List V} {ds es : List D}, RpAll K H vs ds → RpAll K H us es → RpAll K H (vs ++ us) (ds ++ es)
  | _, _, _, _, .nil, s => s
  | _, _, _, _, .cons r t, s => .cons r (t.append s)
theorem RpAll.take : ∀ {vs : List V} {ds : List D} (n : Nat), RpAll K H vs ds → RpAll K H (vs.take n) (ds.take n)
  | _, _, 0, _ => .nil
  | _, _, _ + 1, .nil => .nil
  | _, _, n + 1, .cons r t => .cons r (t.take n)
theorem RpAll.drop : ∀ {vs : List V} {ds : List D} (n : Nat), RpAll K H vs ds → RpAll K H (vs.drop n) (ds.drop n)
  | _, _, 0, r => r
  | _, _, _ + 1, .nil => .nil
  | _, _, n + 1, .cons _ t => t.drop n
theorem RpAll.set {v : V} {d : D} (r : Rp K H v d) : ∀ {vs : List V} {ds : List D} (i : Nat), RpAll K H vs ds → RpAll K H (vs.set i v) (ds.set i d)
  | _, _, _, .nil => .nil
  | _, _, 0, .cons _ t => .cons r t
  | _, _, i + 1, .cons q t => .cons q (t.set r i)
theorem RpAll.erase : ∀ {vs : List V} {ds : List D} (i : Nat), RpAll K H vs ds → RpAll K H (vs.eraseIdx i) (ds.eraseIdx i)
  | _, _, _, .nil => .nil
  | _, _, 0, .cons _ t => t
  | _, _, i + 1, .cons q t => .cons q (t.erase i)
theorem RpAll.dropLast : ∀ {vs : List V} {ds : List D}, RpAll K H vs ds → RpAll K H vs.dropLast ds.dropLast
  | _, _, .nil => .nil
  | _, _, .cons _ .nil => .nil
  | _, _, .cons r (.cons r' t) => .cons r (RpAll.dropLast (.cons r' t))
theorem RpAll.ints : ∀ (ns : List Int), RpAll K H (ns.map V.int) (ns.map PyData.int)
  | [] => .nil
  | n :: ns => .cons (.int n) (RpAll.ints ns)
end

/-! ### own objects -/
/-- a key as the library's dicts see it -/
def keyD : D → Option NestedKey
  | .none => some .none
  | .bool b => some (.num (if b = true then 1 else 0))
  | .int i => some (.num i)
  | .str x => some (.text x)
  | .tuple ds => (keyDs ds).map .tup
  | .list _ => none
  | .dict _ => none
where keyDs : List D → Option (List NestedKey)
  | [] => some []
  | d :: ds => match keyD d, keyDs ds with
    | some k, some ks => some (k :: ks)
    | _, _ => none
/-- a table's entries as they are tracked, and as they stand in the dict -/
abbrev KX : List (NestedKey × Addr × V) → List (NestedKey × Addr × Value) → Prop := Paired fun p q => p.1 = q.1 ∧ p.2.1 = q.2.1 ∧ L2.RelV p.2.2 q.2.2
/-- a dict object by its entries -/
def dctO (w : World) (a : Addr) (xs : List (NestedKey × Addr × V)) : HO := .ext fun h => (a == sysModules) = false ∧ xs.length ≤ sizeLine ∧ ∃ us, KX xs us ∧ (us.map (·.1)).Nodup ∧
  ∃ o es ep, h.get? a = some o ∧ o.ExactDict ∧ o.data = .dict es ep ∧ es.toList = us.map fun x => ⟨x.1.hash w, .ref x.2.1, x.2.2⟩
/-- entries and what they are -/
inductive Ents (K : PySem.W.Frag) (F : Hp) : List (NestedKey × Addr × V) → List (D × D) → Prop
  | nil : Ents K F [] []
  | cons {xs : List (NestedKey × Addr × V)} {kd vd : D} {kvs : List (D × D)} {k : NestedKey} {ka : Addr} {vv : V} : keyD kd = some k → k.depth ≤ 8 → Rp K F (.ref ka) kd → Rp K F vv vd → Ents K F xs kvs → Ents K F ((k, ka, vv) :: xs) ((kd, vd) :: kvs)
theorem Ents.mono {K : PySem.W.Frag} {F F' : Hp} (e : Same F F') {xs : List (NestedKey × Addr × V)} {kvs : List (D × D)} (h : Ents K F xs kvs) : Ents K F' xs kvs := by
  induction h with
  | nil => exact .nil
  | cons h1 h2 h3 h4 _ ih => exact .cons h1 h2 (h3.mono e) (h4.mono e) ih

def RpO (K : PySem.W.Frag) (w : World) (F H : Hp) (a : Addr) : OD → Prop
  | .lst ds => ∃ vs, H a = some (.lst vs) ∧ RpAll K F vs ds
  | .dct kvs => ∃ xs, H a = some (dctO w a xs) ∧ Ents K F xs kvs
theorem RpO.there {K : PySem.W.Frag} {w : World} {F H : Hp} {a : Addr} : ∀ {o : OD}, RpO K w F H a o → H a ≠ none
  | .lst _, ⟨_, e, _⟩ => by rw [e]; exact fun z => nomatch z
  | .dct _, ⟨_, e, _⟩ => by rw [e]; exact fun z => nomatch z
theorem RpO.mono {K : PySem.W.Frag} {w : World} {F F' H H' : Hp} {a : Addr} (e : Same F F') (k : ∀ u, H a = some u → H' a = some u) : ∀ {o : OD}, RpO K w F H a o → RpO K w F' H' a o
  | .lst _, ⟨vs, h, r⟩ => ⟨vs, k _ h, r.mono e⟩
  | .dct _, ⟨es, h, r⟩ => ⟨es, k _ h, r.mono e⟩

/-! ### states -/
def SlR (K : PySem.W.Frag) (w : World) (as : List V) (F H : Hp) (x : Option V) : SV → Prop
  | .un => True
  | .val d => ∃ v, x = some v ∧ Rp K F v d
  | .own t o => ∃ a, x = some (.ref a) ∧ F a = none ∧ RpO K w F H a o ∧ ∀ j, t = some j → as[j]? = some (.ref a)
def slot (ρ : Sl) (i : Nat) : SV := ρ.getD i .un
def place (σ : Stt) (i : Nat) : Option V := σ.getD i none
structure Rep (K : PySem.W.Frag) (w : World) (as : List V) (F H : Hp) (σ : Stt) (ρ : Sl) : Prop where
  len : ρ.length = σ.length
  sl : ∀ i, SlR K w as F H (place σ i) (slot ρ i)
  ne : ∀ i j a t o t' o', slot ρ i = .own t o → slot ρ j = .own t' o' → place σ i = some (.ref a) → place σ j = some (.ref a) → i = j
  sub : Same F H
def Own (σ : Stt) (ρ : Sl) (b : Addr) : Prop := ∃ i t o, slot ρ i = .own t o ∧ place σ i = some (.ref b)
def OwnP (σ : Stt) (ρ : Sl) (b : Addr) : Prop := ∃ i j o, slot ρ i = .own (some j) o ∧ place σ i = some (.ref b)
theorem OwnP.own {σ : Stt} {ρ : Sl} {b : Addr} (h : OwnP σ ρ b) : Own σ ρ b := let ⟨i, j, o, h1, h2⟩ := h; ⟨i, _, o, h1, h2⟩
structure Step (F H : Hp) (σ : Stt) (ρ : Sl) (F' H' : Hp) (σ' : Stt) (ρ' : Sl) : Prop where
  mono : Same F F'
  new : ∀ b o, F' b = some o → F b = some o ∨ H b = none ∨ (Own σ ρ b ∧ ¬ OwnP σ ρ b)
  keep : ∀ b o, H b = some o → ¬ Own σ ρ b → H' b = some o
  there : ∀ b, H' b = none → H b = none
  own : ∀ b, Own σ' ρ' b → Own σ ρ b ∨ H b = none
  tag : ∀ b, OwnP σ' ρ' b → OwnP σ ρ b
  tag' : ∀ b, Own σ' ρ' b → OwnP σ ρ b → OwnP σ' ρ' b ∨ H b = none
section
variable {K : PySem.W.Frag} {w : World} {as : List V} {F H F1 H1 F2 H2 F' H' : Hp} {σ σ1 σ2 σ' : Stt} {ρ ρ1 ρ2 ρ' : Sl}
theorem Step.refl : Step F H σ ρ F H σ ρ := ⟨fun _ _ h => h, fun _ _ h => .inl h, fun _ _ h _ => h, fun _ h => h, fun _ h => .inl h, fun _ h => h, fun _ _ h => .inl h⟩
theorem Step.trans (a : Step F H σ ρ F1 H1 σ1 ρ1) (b : Step F1 H1 σ1 ρ1 F2 H2 σ2 ρ2) : Step F H σ ρ F2 H2 σ2 ρ2 where
  mono := a.mono.trans b.mono
  new := fun c o h => by
    rcases b.new c o h with h | h | ⟨h, h'⟩
    · exact a.new c o h
    · exact .inr (.inl (a.there c h))
    · rcases a.own c h with q | q
      · by_cases z : OwnP σ ρ c
        · rcases a.tag' c h z with y | y
          · exact absurd y h'
          · exact .inr (.inl y)
        · exact .inr (.inr ⟨q, z⟩)
      · exact .inr (.inl q)
  keep := fun c o h n => b.keep c o (a.keep c o h n) fun z => by
    rcases a.own c z with q | q
    · exact n q
    · rw [h] at q; cases q
  there := fun c h => a.there c (b.there c h)
  own := fun c h => by
    rcases b.own c h with q | q
    · exact a.own c q
    · exact .inr (a.there c q)
  tag := fun c h => a.tag c (b.tag c h)
  tag' := fun c h q => by
    rcases b.own c h with z | z
    · rcases a.tag' c z q with y | y
      · rcases b.tag' c h y with x | x
        · exact .inl x
        · exact .inr (a.there c x)
      · exact .inr y
    · exact .inr (a.there c z)
/-- an own object is there, and not frozen -/
theorem Rep.own_at (R : Rep K w as F H σ ρ) {i : Nat} {t : Option Nat} {o : OD} (h : slot ρ i = .own t o) : ∃ a, place σ i = some (.ref a) ∧ F a = none ∧ RpO K w F H a o ∧ ∀ j, t = some j → as[j]? = some (.ref a) := by
  have q := R.sl i
  rw [h] at q
  exact q
theorem Rep.val_at (R : Rep K w as F H σ ρ) {i : Nat} {d : D} (h : slot ρ i = .val d) : ∃ v, place σ i = some v ∧ Rp K F v d := by
  have q := R.sl i
  rw [h] at q
  exact q
theorem Rep.own_there (R : Rep K w as F H σ ρ) {b : Addr} (h : Own σ ρ b) : H b ≠ none ∧ F b = none := by
  obtain ⟨i, t, o, h1, h2⟩ := h
  obtain ⟨a, e, f, r, _⟩ := R.own_at h1
  rw [h2] at e
  cases e
  exact ⟨r.there, f⟩
theorem place_get {i : Nat} {v : V} (h : place σ i = some v) : σ[i]? = some (some v) := by
  unfold place at h
  rw [List.getD_eq_getElem?_getD] at h
  cases e : σ[i]? with
  | none => rw [e] at h; cases h
  | some x =>
    rw [e] at h
    have h' : x = some v := h
    rw [h']
theorem slot_lt {i : Nat} {s : SV} (h : slot ρ i = s) (n : s ≠ .un) : i < ρ.length := by
  unfold slot at h
  rw [List.getD_eq_getElem?_getD] at h
  rcases Nat.lt_or_ge i ρ.length with q | q
  · exact q
  · rw [List.getElem?_eq_none q] at h
    exact absurd h.symm n
theorem slot_set_same {i : Nat} {s : SV} (h : i < ρ.length) : slot (ρ.set i s) i = s := by
  unfold slot
  rw [List.getD_eq_getElem?_getD, List.getElem?_set_self h]
  rfl
theorem slot_set_ne {i j : Nat} {s : SV} (h : i ≠ j) : slot (ρ.set i s) j = slot ρ j := by
  unfold slot
  rw [List.getD_eq_getElem?_getD, List.getElem?_set_ne h, List.getD_eq_getElem?_getD]
theorem place_set_same {i : Nat} {s : Option V} (h : i < σ.length) : place (σ.set i s) i = s := by
  unfold place
  rw [List.getD_eq_getElem?_getD, List.getElem?_set_self h]
  rfl
theorem place_set_ne {i j : Nat} {s : Option V} (h : i ≠ j) : place (σ.set i s) j = place σ j := by
  unfold place
  rw [List.getD_eq_getElem?_getD, List.getElem?_set_ne h, List.getD_eq_getElem?_getD]
theorem slot_big {i : Nat} {s : SV} (h : ρ.length ≤ i) : ρ.set i s = ρ := List.set_eq_of_length_le h

/-- what was there and is not own stays what it is -/
theorem SlR.mono {x : Option V} (e : Same F F') (k : ∀ a, x = some (.ref a) → (∀ o, H a = some o → H' a = some o) ∧ (F a = none → F' a = none)) : ∀ {s : SV}, SlR K w as F H x s → SlR K w as F' H' x s
  | .un, _ => trivial
  | .val _, ⟨v, h, r⟩ => ⟨v, h, r.mono e⟩
  | .own _ _, ⟨a, h, f, r, g⟩ => ⟨a, h, (k a h).2 f, r.mono e (k a h).1, g⟩

/-- new objects come, some of them frozen; nothing that was changes -/
theorem Rep.grow (R : Rep K w as F H σ ρ) (e : Same F F') (n : ∀ b o, F' b = some o → F b = some o ∨ H b = none) (k : Same H H') (t : ∀ b, H' b = none → H b = none) (s : Same F' H') : Rep K w as F' H' σ ρ ∧ Step F H σ ρ F' H' σ ρ := by
  have fr : ∀ b, Own σ ρ b → F' b = none := fun b h => by
    obtain ⟨h1, h2⟩ := R.own_there h
    cases q : F' b with
    | none => rfl
    | some o =>
      rcases n b o q with z | z
      · rw [h2] at z; cases z
      · exact absurd z h1
  refine ⟨⟨R.len, fun i => ?_, R.ne, s⟩, ⟨e, fun b o h => (n b o h).elim .inl fun z => .inr (.inl z), fun b o h _ => k b o h, t, fun _ h => .inl h, fun _ h => h, fun _ _ h => .inl h⟩⟩
  have q := R.sl i
  cases z : slot ρ i with
  | un => trivial
  | val d => rw [z] at q; obtain ⟨v, h, r⟩ := q; exact ⟨v, h, r.mono e⟩
  | own t o =>
    rw [z] at q
    obtain ⟨a, h, f, r, g⟩ := q
    exact ⟨a, h, fr a ⟨i, t, o, z, h⟩, r.mono e fun u hu => k a u hu, g⟩
theorem upd_same_of (h : H a = none) (o : HO) : Same H (upd H a o) := fun b u q => by
  rw [upd_ne (ne_of_none q h)]
  exact q
theorem upd_none {a b : Addr} {o : HO} (h : upd H a o b = none) : H b = none := by
  by_cases e : b = a
  · subst e; rw [upd_same] at h; cases h
  · rw [upd_ne e] at h; exact h
/-- a new tracked object that is not frozen -/
theorem Rep.tmp (R : Rep K w as F H σ ρ) {a : Addr} (h : H a = none) (o : HO) : F a = none ∧ Rep K w as F (upd H a o) σ ρ ∧ Step F H σ ρ F (upd H a o) σ ρ := by
  have f : F a = none := R.sub.free h
  exact ⟨f, R.grow (fun _ _ q => q) (fun _ _ q => .inl q) (upd_same_of h o) (fun _ => upd_none) (R.sub.trans (upd_same_of h o))⟩
/-- .. that is frozen -/
theorem Rep.cold (R : Rep K w as F H σ ρ) {a : Addr} (h : H a = none) (o : HO) : Rep K w as (upd F a o) (upd H a o) σ ρ ∧ Step F H σ ρ (upd F a o) (upd H a o) σ ρ := by
  have f : F a = none := R.sub.free h
  refine R.grow (upd_same_of f o) (fun b u q => ?_) (upd_same_of h o) (fun _ => upd_none) fun b u q => ?_
  · by_cases e : b = a
    · subst e; exact .inr h
    · rw [upd_ne e] at q; exact .inl q
  · by_cases e : b = a
    · subst e; rw [upd_same] at q ⊢; exact q
    · rw [upd_ne e] at q ⊢; exact R.sub b u q
end
end Wk
set_option Elab.async false
set_option linter.all false
set_option maxRecDepth 100000
set_option maxHeartbeats 4000000
namespace Wk
open PySem PySem.Spec PyProof.Rows L2
section
variable {K : PySem.W.Frag} {w : World} {as : List V} {F H F1 H1 F2 H2 F' H' : Hp} {σ σ1 σ2 σ' : Stt} {ρ ρ1 ρ2 ρ' : Sl}

theorem slot_set {i j : Nat} {s : SV} (h : i < ρ.length) : slot (ρ.set i s) j = if i = j then s else slot ρ j := by
  by_cases e : i = j
  · subst e; rw [if_pos rfl, slot_set_same h]
  · rw [if_neg e, slot_set_ne e]
theorem place_set {i j : Nat} {s : Option V} (h : i < σ.length) : place (σ.set i s) j = if i = j then s else place σ j := by
  by_cases e : i = j
  · subst e; rw [if_pos rfl, place_set_same h]
  · rw [if_neg e, place_set_ne e]

/-- an own object is changed -/
theorem Rep.mut (R : Rep K w as F H σ ρ) {i : Nat} {t : Option Nat} {o o' : OD} {a : Addr} {u : HO} (h : slot ρ i = .own t o) (ha : place σ i = some (.ref a)) (hn : RpO K w F (upd H a u) a o') :
    Rep K w as F (upd H a u) σ (ρ.set i (.own t o')) ∧ Step F H σ ρ F (upd H a u) σ (ρ.set i (.own t o')) := by
  have hi : i < ρ.length := slot_lt h (fun z => nomatch z)
  obtain ⟨a', e, f, r, g⟩ := R.own_at h
  rw [ha] at e; cases e
  have sub : Same F (upd H a u) := fun b x q => by
    rw [upd_ne (ne_of_none q f)]
    exact R.sub b x q
  have own' : ∀ b, Own σ (ρ.set i (.own t o')) b → Own σ ρ b := fun b ⟨j, t', o2, q1, q2⟩ => by
    by_cases ej : i = j
    · subst ej; exact ⟨i, t, o, h, q2⟩
    · rw [slot_set_ne ej] at q1; exact ⟨j, t', o2, q1, q2⟩
  have ownb : ∀ b, Own σ ρ b → Own σ (ρ.set i (.own t o')) b := fun b ⟨j, t', o2, q1, q2⟩ => by
    by_cases ej : i = j
    · subst ej; exact ⟨i, t, o', slot_set_same hi, q2⟩
    · exact ⟨j, t', o2, by rw [slot_set_ne ej]; exact q1, q2⟩
  have ownP' : ∀ b, OwnP σ (ρ.set i (.own t o')) b → OwnP σ ρ b := fun b ⟨j, k, o2, q1, q2⟩ => by
    by_cases ej : i = j
    · subst ej; rw [slot_set_same hi] at q1; cases q1; exact ⟨i, k, o, h, q2⟩
    · rw [slot_set_ne ej] at q1; exact ⟨j, k, o2, q1, q2⟩
  have ownPb : ∀ b, OwnP σ ρ b → OwnP σ (ρ.set i (.own t o')) b := fun b ⟨j, k, o2, q1, q2⟩ => by
    by_cases ej : i = j
    · subst ej; rw [h] at q1; cases q1; exact ⟨i, k, o', slot_set_same hi, q2⟩
    · exact ⟨j, k, o2, by rw [slot_set_ne ej]; exact q1, q2⟩
  refine ⟨⟨by rw [List.length_set]; exact R.len, fun j => ?_, fun j k b t1 o1 t2 o2 h1 h2 h3 h4 => ?_, sub⟩,
    ⟨fun _ _ q => q, fun _ _ q => .inl q, fun b x q n => ?_, fun _ => upd_none, fun b q => .inl (own' b q), ownP', fun b _ q => .inl (ownPb b q)⟩⟩
  · by_cases ej : i = j
    · subst ej; rw [slot_set_same hi]; exact ⟨a, ha, f, hn, g⟩
    · rw [slot_set_ne ej]
      have q := R.sl j
      cases z : slot ρ j with
      | un => trivial
      | val d => rw [z] at q; exact q
      | own t' o2 =>
        rw [z] at q
        obtain ⟨b, q1, q2, q3, q4⟩ := q
        refine ⟨b, q1, q2, q3.mono (fun _ _ q => q) fun x hx => ?_, q4⟩
        rw [upd_ne]
        · exact hx
        · intro e; subst e; exact ej (R.ne _ _ _ _ _ _ _ h z ha q1)
  · have z1 : ∃ t1' o1', slot ρ j = .own t1' o1' := by
      by_cases ej : i = j
      · subst ej; exact ⟨t, o, h⟩
      · rw [slot_set_ne ej] at h1; exact ⟨_, _, h1⟩
    have z2 : ∃ t1' o1', slot ρ k = .own t1' o1' := by
      by_cases ej : i = k
      · subst ej; exact ⟨t, o, h⟩
      · rw [slot_set_ne ej] at h2; exact ⟨_, _, h2⟩
    obtain ⟨_, _, z1⟩ := z1
    obtain ⟨_, _, z2⟩ := z2
    exact R.ne _ _ _ _ _ _ _ z1 z2 h3 h4
  · rw [upd_ne]
    · exact q
    · intro e; subst e; exact n ⟨i, t, o, h, ha⟩

/-- an own list of this frame is frozen -/
theorem Rep.freeze (R : Rep K w as F H σ ρ) {i : Nat} {ds : List D} (h : slot ρ i = .own none (.lst ds)) :
    ∃ a F', place σ i = some (.ref a) ∧ Rp K F' (.ref a) (.list ds) ∧ Rep K w as F' H σ (ρ.set i (.val (.list ds))) ∧ Step F H σ ρ F' H σ (ρ.set i (.val (.list ds))) := by
  have hi : i < ρ.length := slot_lt h (fun z => nomatch z)
  obtain ⟨a, ha, f, ⟨vs, hv, r⟩, g⟩ := R.own_at h
  have mono : Same F (upd F a (.lst vs)) := upd_same_of f _
  have rp : Rp K (upd F a (.lst vs)) (.ref a) (.list ds) := .lst upd_same (r.mono mono)
  have nP : ¬ OwnP σ ρ a := fun ⟨j, k, o, q1, q2⟩ => by
    have e := R.ne _ _ _ _ _ _ _ h q1 ha q2
    subst e; rw [h] at q1; cases q1
  have own' : ∀ b, Own σ (ρ.set i (.val (.list ds))) b → Own σ ρ b ∧ b ≠ a := fun b ⟨j, t', o2, q1, q2⟩ => by
    by_cases ej : i = j
    · subst ej; rw [slot_set_same hi] at q1; cases q1
    · rw [slot_set_ne ej] at q1
      exact ⟨⟨j, t', o2, q1, q2⟩, fun e => by subst e; exact ej (R.ne _ _ _ _ _ _ _ h q1 ha q2)⟩
  refine ⟨a, upd F a (.lst vs), ha, rp, ⟨by rw [List.length_set]; exact R.len, fun j => ?_, fun j k b t1 o1 t2 o2 h1 h2 h3 h4 => ?_, fun b x q => ?_⟩,
    ⟨mono, fun b x q => ?_, fun _ _ q _ => q, fun _ q => q, fun b q => .inl (own' b q).1, fun b ⟨j, k, o2, q1, q2⟩ => ?_, fun b q ⟨j, k, o2, q1, q2⟩ => .inl ⟨j, k, o2, ?_, q2⟩⟩⟩
  · by_cases ej : i = j
    · subst ej; rw [slot_set_same hi]; exact ⟨.ref a, ha, rp⟩
    · rw [slot_set_ne ej]
      have q := R.sl j
      cases z : slot ρ j with
      | un => trivial
      | val d => rw [z] at q; obtain ⟨v, q1, q2⟩ := q; exact ⟨v, q1, q2.mono mono⟩
      | own t' o2 =>
        rw [z] at q
        obtain ⟨b, q1, q2, q3, q4⟩ := q
        refine ⟨b, q1, ?_, q3.mono mono fun _ q => q, q4⟩
        rw [upd_ne]
        · exact q2
        · intro e; subst e; exact ej (R.ne _ _ _ _ _ _ _ h z ha q1)
  · by_cases ej : i = j
    · subst ej; rw [slot_set_same hi] at h1; cases h1
    · by_cases ek : i = k
      · subst ek; rw [slot_set_same hi] at h2; cases h2
      · rw [slot_set_ne ej] at h1; rw [slot_set_ne ek] at h2; exact R.ne _ _ _ _ _ _ _ h1 h2 h3 h4
  · by_cases e : b = a
    · subst e; rw [upd_same] at q; cases q; exact hv
    · rw [upd_ne e] at q; exact R.sub b x q
  · by_cases e : b = a
    · subst e; exact .inr (.inr ⟨⟨i, _, _, h, ha⟩, nP⟩)
    · rw [upd_ne e] at q; exact .inl q
  · by_cases ej : i = j
    · subst ej; rw [slot_set_same hi] at q1; cases q1
    · rw [slot_set_ne ej] at q1; exact ⟨j, k, o2, q1, q2⟩
  · have ej : i ≠ j := fun e => by subst e; rw [h] at q1; cases q1
    rw [slot_set_ne ej]; exact q1

/-- a slot is written: what comes there is a value, or a new own object -/
theorem Rep.put (R : Rep K w as F H σ ρ) {i : Nat} {v : V} {s : SV} (hi : i < ρ.length) (hs : SlR K w as F H (some v) s)
    (hn : ∀ t o b, s = .own t o → v = .ref b → t = none ∧ ¬ Own σ ρ b) : Rep K w as F H (σ.set i (some v)) (ρ.set i s) := by
  have hi' : i < σ.length := by rw [← R.len]; exact hi
  refine ⟨by rw [List.length_set, List.length_set]; exact R.len, fun j => ?_, fun j k b t1 o1 t2 o2 h1 h2 h3 h4 => ?_, R.sub⟩
  · by_cases ej : i = j
    · subst ej; rw [slot_set_same hi, place_set_same hi']; exact hs
    · rw [slot_set_ne ej, place_set_ne ej]; exact R.sl j
  · by_cases ej : i = j
    · by_cases ek : i = k
      · rw [← ej, ← ek]
      · subst ej
        rw [slot_set_same hi] at h1; rw [place_set_same hi'] at h3; rw [slot_set_ne ek] at h2; rw [place_set_ne ek] at h4
        cases h3
        exact absurd ⟨k, t2, o2, h2, h4⟩ (hn t1 o1 b h1 rfl).2
    · by_cases ek : i = k
      · subst ek
        rw [slot_set_same hi] at h2; rw [place_set_same hi'] at h4; rw [slot_set_ne ej] at h1; rw [place_set_ne ej] at h3
        cases h4
        exact absurd ⟨j, t1, o1, h1, h3⟩ (hn t2 o2 b h2 rfl).2
      · rw [slot_set_ne ej] at h1; rw [slot_set_ne ek] at h2; rw [place_set_ne ej] at h3; rw [place_set_ne ek] at h4
        exact R.ne _ _ _ _ _ _ _ h1 h2 h3 h4
/-- .. as a step from an earlier state: own objects that come are new since then -/
theorem Step.put (S : Step F H σ ρ F' H' σ1 ρ1) (R : Rep K w as F' H' σ1 ρ1) {i : Nat} {v : V} {s : SV} (hi : i < ρ1.length)
    (hn : ∀ t o b, s = .own t o → v = .ref b → t = none ∧ H b = none) : Step F H σ ρ F' H' (σ1.set i (some v)) (ρ1.set i s) := by
  have hi' : i < σ1.length := by rw [← R.len]; exact hi
  have ow : ∀ b, Own (σ1.set i (some v)) (ρ1.set i s) b → (Own σ1 ρ1 b ∨ H b = none) := fun b ⟨j, t, o, q1, q2⟩ => by
    by_cases ej : i = j
    · subst ej; rw [slot_set_same hi] at q1; rw [place_set_same hi'] at q2; cases q2; exact .inr (hn t o b q1 rfl).2
    · rw [slot_set_ne ej] at q1; rw [place_set_ne ej] at q2; exact .inl ⟨j, t, o, q1, q2⟩
  refine ⟨S.mono, S.new, S.keep, S.there, fun b q => ?_, fun b ⟨j, k, o, q1, q2⟩ => ?_, fun b q z => ?_⟩
  · rcases ow b q with y | y
    · exact S.own b y
    · exact .inr y
  · by_cases ej : i = j
    · subst ej; rw [slot_set_same hi] at q1; rw [place_set_same hi'] at q2; cases q2
      exact absurd (hn _ _ b q1 rfl).1 (fun z => nomatch z)
    · rw [slot_set_ne ej] at q1; rw [place_set_ne ej] at q2; exact S.tag b ⟨j, k, o, q1, q2⟩
  · obtain ⟨j, t, o, q1, q2⟩ := q
    by_cases ej : i = j
    · subst ej; rw [slot_set_same hi] at q1; rw [place_set_same hi'] at q2; cases q2
      exact .inr (hn t o b q1 rfl).2
    · rw [slot_set_ne ej] at q1; rw [place_set_ne ej] at q2
      rcases S.tag' b ⟨j, t, o, q1, q2⟩ z with ⟨j', k, o', y1, y2⟩ | y
      · by_cases ej' : i = j'
        · -- the slot that is overwritten held b with a tag: then j = j' ..
          subst ej'
          exact absurd (R.ne _ _ _ _ _ _ _ y1 q1 y2 q2) ej
        · exact .inl ⟨j', k, o', by rw [slot_set_ne ej']; exact y1, by rw [place_set_ne ej']; exact y2⟩
      · exact .inr y

/-! ### what an expression gives -/
def RepR (K : PySem.W.Frag) (w : World) (H0 F H : Hp) (σ : Stt) (ρ : Sl) (v : V) : RV → Prop
  | .val d => Rp K F v d
  | .tmp o => ∃ a, v = .ref a ∧ H0 a = none ∧ F a = none ∧ RpO K w F H a o ∧ ¬ Own σ ρ a
  | .sl i => place σ i = some v
/-- what is read there -/
def rd (ρ : Sl) : RV → Option D
  | .val d => some d
  | .tmp (.lst ds) => some (.list ds)
  | .tmp _ => none
  | .sl i => match slot ρ i with
    | .own _ (.lst ds) => some (.list ds)
    | .val d => some d
    | _ => none
/-- a value of it, an own list frozen -/
def cold (r : RV) (ρ : Sl) : Option (D × Sl) := match r with
  | .val d => some (d, ρ)
  | .tmp (.lst ds) => some (.list ds, ρ)
  | .tmp _ => none
  | .sl i => match slot ρ i with
    | .own none (.lst ds) => some (.list ds, ρ.set i (.val (.list ds)))
    | .val d => some (d, ρ)
    | _ => none
theorem Rp.up {v : V} {d : D} (h : Rp K F v d) (e : Same F F') : Rp K F' v d := Rp.mono e d v h
theorem RpAll.up {v : List V} {d : List D} (h : RpAll K F v d) (e : Same F F') : RpAll K F' v d := RpAll.mono e d v h
/-- a value that is read: frozen, or a list whose items are -/
def RdV (K : PySem.W.Frag) (F H : Hp) (v : V) (d : D) : Prop := Rp K F v d ∨ ∃ a vs ds, v = .ref a ∧ d = .list ds ∧ H a = some (.lst vs) ∧ RpAll K F vs ds
theorem RdV.rp {v : V} {d : D} (h : RdV K F H v d) (e : Same F H) : Rp K H v d := by
  rcases h with h | ⟨a, vs, ds, rfl, rfl, q1, q2⟩
  · exact h.up e
  · exact .lst q1 (q2.up e)
theorem RdV.list {v : V} {ds : List D} (h : RdV K F H v (.list ds)) (e : Same F H) : ∃ a vs, v = .ref a ∧ H a = some (.lst vs) ∧ RpAll K F vs ds := by
  rcases h with h | ⟨a, vs, ds', rfl, e', q1, q2⟩
  · cases h with
    | lst q1 q2 => exact ⟨_, _, rfl, e _ _ q1, q2⟩
  · cases e'; exact ⟨a, vs, rfl, q1, q2⟩
theorem RdV.tuple {v : V} {ds : List D} (h : RdV K F H v (.tuple ds)) (e : Same F H) : ∃ a vs, v = .ref a ∧ SqT K F a vs ∧ RpAll K F vs ds := by
  rcases h with h | ⟨a, vs, ds', rfl, e', q1, q2⟩
  · cases h with
    | tup q1 q2 => exact ⟨_, _, rfl, q1, q2⟩
  · cases e'
theorem RdV.scr {v : V} {kvs : List (D × D)} (h : RdV K F H v (.dict kvs)) (e : Same F H) : ∃ a ns, v = .ref a ∧ kvs = scrK ns ∧ SqL K H a (ns.map V.int) := by
  rcases h with h | ⟨a, vs, ds', rfl, e', q1, q2⟩
  · cases h with
    | scr q1 => exact ⟨_, _, rfl, rfl, Same.sql e q1⟩
  · cases e'
theorem RepR.read {r : RV} {v : V} {d : D} {H0 : Hp} (R : Rep K w as F H σ ρ) (h : RepR K w H0 F H σ ρ v r) (e : rd ρ r = some d) : RdV K F H v d := by
  cases r with
  | val d' => cases e; exact .inl h
  | tmp o =>
    cases o with
    | lst ds =>
      cases e
      obtain ⟨a, rfl, _, _, ⟨vs, q1, q2⟩, _⟩ := h
      exact .inr ⟨a, vs, ds, rfl, rfl, q1, q2⟩
    | _ => cases e
  | sl i =>
    have hp : place σ i = some v := h
    unfold rd at e
    cases hs : slot ρ i with
    | un => simp only [hs] at e; cases e
    | val d' =>
      simp only [hs] at e
      cases e
      obtain ⟨v', q1, q2⟩ := R.val_at hs
      rw [hp] at q1; cases q1
      exact .inl q2
    | own t o =>
      simp only [hs] at e
      cases o with
      | lst ds =>
        cases e
        obtain ⟨a, q1, q2, ⟨vs, q3, q4⟩, _⟩ := R.own_at hs
        rw [hp] at q1; cases q1
        exact .inr ⟨a, vs, ds, rfl, rfl, q3, q4⟩
      | _ => cases e
theorem RepR.step {r : RV} {v : V} {H0 : Hp} (h : RepR K w H0 F H σ ρ v r) (S : Step F H σ ρ F' H' σ ρ') : RepR K w H0 F' H' σ ρ' v r := by
  cases r with
  | val d => exact Rp.up h S.mono
  | sl i => exact h
  | tmp o =>
    obtain ⟨a, rfl, h0, hf, q, n⟩ := h
    refine ⟨a, rfl, h0, ?_, q.mono S.mono fun u hu => S.keep a u hu n, fun z => ?_⟩
    · cases e : F' a with
      | none => rfl
      | some u =>
        rcases S.new a u e with y | y | y
        · rw [hf] at y; cases y
        · exact absurd y q.there
        · exact absurd y.1 n
    · rcases S.own a z with y | y
      · exact n y
      · exact q.there y
theorem RepR.low {r : RV} {v : V} {H0 H1 : Hp} (h : RepR K w H1 F H σ ρ v r) (t : ∀ b, H1 b = none → H0 b = none) : RepR K w H0 F H σ ρ v r := by
  cases r with
  | val d => exact h
  | sl i => exact h
  | tmp o =>
    obtain ⟨a, rfl, h0, q⟩ := h
    exact ⟨a, rfl, t a h0, q⟩
/-- an object that is new since H0 and not own is frozen -/
theorem Rep.chill {F0 H0 : Hp} {σ0 : Stt} {ρ0 : Sl} (S : Step F0 H0 σ0 ρ0 F H σ ρ) (R : Rep K w as F H σ ρ) {a : Addr} {u : HO} (h0 : H0 a = none) (f : F a = none) (hu : H a = some u) (n : ¬ Own σ ρ a) :
    Rep K w as (upd F a u) H σ ρ ∧ Step F0 H0 σ0 ρ0 (upd F a u) H σ ρ := by
  have mono : Same F (upd F a u) := upd_same_of f _
  refine ⟨⟨R.len, fun i => ?_, R.ne, fun b x q => ?_⟩, ⟨S.mono.trans mono, fun b x q => ?_, S.keep, S.there, S.own, S.tag, S.tag'⟩⟩
  · have q := R.sl i
    cases z : slot ρ i with
    | un => trivial
    | val d => rw [z] at q; obtain ⟨v, q1, q2⟩ := q; exact ⟨v, q1, q2.mono mono⟩
    | own t o =>
      rw [z] at q
      obtain ⟨b, q1, q2, q3, q4⟩ := q
      refine ⟨b, q1, ?_, q3.mono mono fun _ q => q, q4⟩
      rw [upd_ne]
      · exact q2
      · intro e; subst e; exact n ⟨i, t, o, z, q1⟩
  · by_cases e : b = a
    · subst e; rw [upd_same] at q; cases q; exact hu
    · rw [upd_ne e] at q; exact R.sub b x q
  · by_cases e : b = a
    · subst e; exact .inr (.inl h0)
    · rw [upd_ne e] at q; exact S.new b x q
theorem RepR.cold {r : RV} {v : V} {d : D} {F0 H0 : Hp} {σ0 : Stt} {ρ0 : Sl} (S : Step F0 H0 σ0 ρ0 F H σ ρ) (R : Rep K w as F H σ ρ) (h : RepR K w H0 F H σ ρ v r) (e : Wk.cold r ρ = some (d, ρ')) :
    ∃ F', Rep K w as F' H σ ρ' ∧ Step F0 H0 σ0 ρ0 F' H σ ρ' ∧ Rp K F' v d ∧ Same F F' := by
  cases r with
  | val d' => cases e; exact ⟨F, R, S, h, Same.refl _⟩
  | tmp o =>
    cases o with
    | lst ds =>
      cases e
      obtain ⟨a, rfl, h0, hf, ⟨vs, q1, q2⟩, n⟩ := h
      obtain ⟨R', S'⟩ := Rep.chill S R h0 hf q1 n
      exact ⟨_, R', S', .lst upd_same (q2.up (upd_same_of hf _)), upd_same_of hf _⟩
    | _ => cases e
  | sl i =>
    have hp : place σ i = some v := h
    unfold Wk.cold at e
    cases hs : slot ρ i with
    | un => simp only [hs] at e; cases e
    | val d' =>
      simp only [hs] at e
      cases e
      obtain ⟨v', q1, q2⟩ := R.val_at hs
      rw [hp] at q1; cases q1
      exact ⟨F, R, S, q2, Same.refl _⟩
    | own t o =>
      simp only [hs] at e
      cases t with
      | some k => cases o <;> cases e
      | none =>
        cases o with
        | lst ds =>
          cases e
          obtain ⟨a, F', q1, q2, q3, q4⟩ := R.freeze hs
          rw [hp] at q1; cases q1
          exact ⟨F', q3, S.trans q4, q2, q4.mono⟩
        | _ => cases e
/-- the value of an operation: atoms, new tuples (frozen at once), new lists -/
def NewV (K : PySem.W.Frag) (w : World) (F H H' : Hp) (v : V) : RV → Prop
  | .val d => (H' = H ∧ Rp K F v d) ∨ ∃ a u, v = .ref a ∧ H a = none ∧ H' = upd H a u ∧ Rp K (upd F a u) v d
  | .tmp o => ∃ a u, v = .ref a ∧ H a = none ∧ H' = upd H a u ∧ RpO K w F (upd H a u) a o
  | .sl _ => False
theorem NewV.fin {r : RV} {v : V} (R : Rep K w as F H σ ρ) (h : NewV K w F H H' v r) : ∃ F', Step F H σ ρ F' H' σ ρ ∧ Rep K w as F' H' σ ρ ∧ RepR K w H F' H' σ ρ v r := by
  cases r with
  | val d =>
    rcases h with ⟨rfl, h⟩ | ⟨a, u, rfl, ha, rfl, h⟩
    · exact ⟨F, .refl, R, h⟩
    · obtain ⟨R', S'⟩ := R.cold ha u
      exact ⟨_, S', R', h⟩
  | tmp o =>
    obtain ⟨a, u, rfl, ha, rfl, h⟩ := h
    obtain ⟨f, R', S'⟩ := R.tmp ha u
    exact ⟨F, S', R', a, rfl, ha, f, h, fun z => (R.own_there z).1 ha⟩
  | sl i => exact h.elim

/-! ### the judgements -/
def tE (K : PySem.W.Frag) (w : World) (m : Sl → Option (RV × Sl)) : TE := fun σ H Q => ∃ as F ρ r ρ', Rep K w as F H σ ρ ∧ m ρ = some (r, ρ') ∧
  ∀ v F' H', Step F H σ ρ F' H' σ ρ' → Rep K w as F' H' σ ρ' → RepR K w H F' H' σ ρ' v r → Q v H'
def tT' (K : PySem.W.Frag) (w : World) (m : Sl → Option (Bool × Sl)) : TT := fun σ H Q => ∃ as F ρ b ρ', Rep K w as F H σ ρ ∧ m ρ = some (b, ρ') ∧
  ∀ F' H', Step F H σ ρ F' H' σ ρ' → Rep K w as F' H' σ ρ' → Q b H'
/-- a row of arguments: values, or names of own objects -/
def RepAs (K : PySem.W.Frag) (F : Hp) (σ : Stt) (ρ : Sl) : List V → List RV → Prop
  | [], [] => True
  | v :: vs, r :: rs => (match r with
    | .val d => Rp K F v d
    | .sl i => place σ i = some v
    | .tmp _ => False) ∧ RepAs K F σ ρ vs rs
  | _, _ => False
def tA' (K : PySem.W.Frag) (w : World) (m : Sl → Option (List RV × Sl)) : TA := fun σ H Q => ∃ as F ρ rs ρ', Rep K w as F H σ ρ ∧ m ρ = some (rs, ρ') ∧
  ∀ vs F' H', Step F H σ ρ F' H' σ ρ' → Rep K w as F' H' σ ρ' → RepAs K F' σ ρ' vs rs → Q vs H'
inductive Fl where
  | nx (ρ : Sl)
  | rt (r : RV) (ρ : Sl)
  | bk (ρ : Sl)
  | ct (ρ : Sl)
def FlR (K : PySem.W.Frag) (w : World) (as : List V) (F H : Hp) (σ : Stt) (ρ : Sl) (Dn : Ends) : Fl → Prop
  | .nx ρ' => ∀ σ' F' H', Step F H σ ρ F' H' σ' ρ' → Rep K w as F' H' σ' ρ' → Dn.nx σ' H'
  | .bk ρ' => ∀ σ' F' H', Step F H σ ρ F' H' σ' ρ' → Rep K w as F' H' σ' ρ' → Dn.bk σ' H'
  | .ct ρ' => ∀ σ' F' H', Step F H σ ρ F' H' σ' ρ' → Rep K w as F' H' σ' ρ' → Dn.ct σ' H'
  | .rt r ρ' => ∀ v σ' F' H', Step F H σ ρ F' H' σ' ρ' → Rep K w as F' H' σ' ρ' → RepR K w H F' H' σ' ρ' v r → Dn.rt v H'
def tS' (K : PySem.W.Frag) (w : World) (m : Sl → Option Fl) : TS := fun Dn σ H => ∃ as F ρ f, Rep K w as F H σ ρ ∧ m ρ = some f ∧ FlR K w as F H σ ρ Dn f
structure EvE (X : Cx) (e : Expr) (m : Sl → Option (RV × Sl)) : Prop where
  pe : PE X e (tE X.K X.w m)
structure EvT (X : Cx) (e : Expr) (m : Sl → Option (Bool × Sl)) : Prop where
  pt : PT X e (tT' X.K X.w m)
structure EvA (X : Cx) (es : List Expr) (m : Sl → Option (List RV × Sl)) : Prop where
  pa : PA X es (tA' X.K X.w m)
structure EvS (X : Cx) (s : Stmt) (m : Sl → Option Fl) : Prop where
  ps : PS X s (tS' X.K X.w m)
structure EvSs (X : Cx) (s : List Stmt) (m : Sl → Option Fl) : Prop where
  ps : PSs X s (tS' X.K X.w m)

/-! ### simple expressions -/
section
variable {X : Cx}
theorem _root_.L2.PE.imp {e : Expr} {t t' : TE} (h : PE X e t) (i : ∀ σ H Q, t' σ H Q → t σ H Q) : PE X e t' := ⟨fun pins s σ H Q I q => h.run pins s σ H Q I (i _ _ _ q)⟩
theorem _root_.L2.PT.imp {e : Expr} {t t' : TT} (h : PT X e t) (i : ∀ σ H Q, t' σ H Q → t σ H Q) : PT X e t' := ⟨fun pins s σ H Q I q => h.run pins s σ H Q I (i _ _ _ q)⟩
theorem _root_.L2.PA.imp {e : List Expr} {t t' : TA} (h : PA X e t) (i : ∀ σ H Q, t' σ H Q → t σ H Q) : PA X e t' := ⟨fun pos pins s σ H Q I q => h.run pos pins s σ H Q I (i _ _ _ q)⟩
theorem _root_.L2.PS.imp {e : Stmt} {t t' : TS} (h : PS X e t) (i : ∀ D σ H, t' D σ H → t D σ H) : PS X e t' := ⟨fun pins s σ H D I q => h.run pins s σ H D I (i _ _ _ q)⟩
theorem _root_.L2.PSs.imp {e : List Stmt} {t t' : TS} (h : PSs X e t) (i : ∀ D σ H, t' D σ H → t D σ H) : PSs X e t' := ⟨fun pins s σ H D I q => h.run pins s σ H D I (i _ _ _ q)⟩

def mVar (i : Nat) : Sl → Option (RV × Sl) := fun ρ => match slot ρ i with
  | .un => none
  | .val d => some (.val d, ρ)
  | .own _ _ => some (.sl i, ρ)
theorem ev_var {i : Nat} {x : Str} {pos : Pos} (h : PE X (.Name x pos) (tVar i)) : EvE X (.Name x pos) (mVar i) := by
  refine ⟨h.imp fun σ H Q ⟨as, F, ρ, r, ρ', R, e, k⟩ => ?_⟩
  unfold mVar at e
  cases z : slot ρ i with
  | un => rw [z] at e; cases e
  | val d =>
    rw [z] at e; cases e
    obtain ⟨v, hp, hr⟩ := R.val_at z
    exact ⟨v, place_get hp, k v F H .refl R hr⟩
  | own t o =>
    rw [z] at e; cases e
    obtain ⟨a, hp, _⟩ := R.own_at z
    exact ⟨.ref a, place_get hp, k _ F H .refl R hp⟩
def mC (d : D) : Sl → Option (RV × Sl) := fun ρ => some (.val d, ρ)
theorem ev_C {e : Expr} {v : V} {d : D} (h : PE X e (tC v)) (r : ∀ F, Rp X.K F v d) : EvE X e (mC d) := by
  refine ⟨h.imp fun σ H Q ⟨as, F, ρ, r', ρ', R, e, k⟩ => ?_⟩
  cases e
  exact k v F H .refl R (r F)
theorem ev_int {i j pos} : EvE X (.Constant (.int i) j pos) (mC (.int i)) := ev_C pe_int fun _ => .int i
theorem ev_str {x j pos} : EvE X (.Constant (.str x) j pos) (mC (.str x)) := ev_C pe_str fun _ => .str x
theorem ev_bl {b j pos} : EvE X (.Constant (.bool b) j pos) (mC (.bool b)) := ev_C pe_bl fun _ => .bl b
theorem ev_non {j pos} : EvE X (.Constant .none j pos) (mC .none) := ev_C pe_non fun _ => .non

/-! ### operations by values -/
def OpD (K : PySem.W.Frag) (w : World) (r : R2) (f : D → D → Option RV) : Prop := ∀ (x y : V) (d e : D) (F H : Hp) (Q : VK) (rv : RV), Same F H → RdV K F H x d → RdV K F H y e → f d e = some rv →
  (∀ v H', NewV K w F H H' v rv → Q v H') → r x y H Q
def m2 (f : D → D → Option RV) (ma mb : Sl → Option (RV × Sl)) : Sl → Option (RV × Sl) := fun ρ =>
  match ma ρ with
  | none => none
  | some (ra, ρ1) => match mb ρ1 with
    | none => none
    | some (rb, ρ2) => match rd ρ2 ra with
      | none => none
      | some x => match rd ρ2 rb with
        | none => none
        | some y => match f x y with
          | none => none
          | some r => some (r, ρ2)
theorem tOp_imp {r : R2} {f : D → D → Option RV} {ma mb : Sl → Option (RV × Sl)} (ho : OpD K w r f) {σ : Stt} {H : Hp} {Q : VK} (h : tE K w (m2 f ma mb) σ H Q) : tOp r (tE K w ma) (tE K w mb) σ H Q := by
  obtain ⟨as, F, ρ, r', ρ', R, e, k⟩ := h
  unfold m2 at e
  split at e
  · cases e
  · rename_i ra ρ1 ea
    split at e
    · cases e
    · rename_i rb ρ2 eb
      split at e
      · cases e
      · rename_i x ex
        split at e
        · cases e
        · rename_i y ey
          split at e
          · cases e
          · rename_i rr er
            cases e
            refine ⟨as, F, ρ, ra, ρ1, R, ea, fun v F1 H1 S1 R1 q1 => ⟨as, F1, ρ1, rb, _, R1, eb, fun u F2 H2 S2 R2 q2 => ?_⟩⟩
            have q1' := q1.step S2
            refine ho v u x y F2 H2 Q _ R2.sub (q1'.read R2 ex) (q2.read R2 ey) er fun z H3 nz => ?_
            obtain ⟨F3, S3, R3, q3⟩ := nz.fin R2
            exact k z F3 H3 (S1.trans (S2.trans S3)) R3 (q3.low fun b hb => S1.there b (S2.there b hb))
theorem ev_bin {op : Operator} {a b : Expr} {pos : Pos} {r : R2} {f : D → D → Option RV} {ma mb : Sl → Option (RV × Sl)} (hr : OpR X (binaryOp op) r) (ho : OpD X.K X.w r f) (ha : EvE X a ma) (hb : EvE X b mb) : EvE X (.BinOp a op b pos) (m2 f ma mb) :=
  ⟨(pe_op hr ha.pe hb.pe).imp fun _ _ _ h => tOp_imp ho h⟩
theorem ev_cmp {op : CmpOp} {a b : Expr} {pos : Pos} {r : R2} {f : D → D → Option RV} {ma mb : Sl → Option (RV × Sl)} (hr : OpR X (compareOp op) r) (ho : OpD X.K X.w r f) (ha : EvE X a ma) (hb : EvE X b mb) (hm : behindInMarks op b = false) : EvE X (.Compare a [op] [b] pos) (m2 f ma mb) :=
  ⟨(pe_cmpR hr ha.pe hb.pe hm).imp fun _ _ _ h => tOp_imp ho h⟩
theorem ev_sub {a b : Expr} {pos : Pos} {r : R2} {f : D → D → Option RV} {ma mb : Sl → Option (RV × Sl)} (hr : IxR X r) (ho : OpD X.K X.w r f) (ha : EvE X a ma) (hb : EvE X b mb) (hs : PlainIx b) : EvE X (.Subscript a b pos) (m2 f ma mb) :=
  ⟨(pe_ix hr ha.pe hb.pe hs).imp fun _ _ _ h => tOp_imp ho h⟩
end
end
end Wk
set_option Elab.async false
set_option linter.all false
set_option maxRecDepth 100000
set_option maxHeartbeats 4000000
namespace Wk
open PySem PySem.Spec PyProof.Rows L2
section
variable {K : PySem.W.Frag} {w : World} {as : List V} {F H F1 H1 F2 H2 F' H' : Hp} {σ σ1 σ2 σ' : Stt} {ρ ρ1 ρ2 ρ' : Sl} {X : Cx}

/-! ### argument rows -/
def mNil : Sl → Option (List RV × Sl) := fun ρ => some ([], ρ)
def mCons (m : Sl → Option (RV × Sl)) (ms : Sl → Option (List RV × Sl)) : Sl → Option (List RV × Sl) := fun ρ =>
  match m ρ with
  | none => none
  | some (.sl i, ρ1) => match ms ρ1 with
    | none => none
    | some (rs, ρ2) => some (.sl i :: rs, ρ2)
  | some (r, ρ1) => match cold r ρ1 with
    | none => none
    | some (d, ρ1') => match ms ρ1' with
      | none => none
      | some (rs, ρ2) => some (.val d :: rs, ρ2)
theorem ea_nil : EvA X [] mNil := ⟨pa_nil.imp fun σ H Q ⟨as, F, ρ, rs, ρ', R, e, k⟩ => by
  cases e
  exact k [] F H .refl R trivial⟩
theorem ea_cons {e : Expr} {es : List Expr} {m : Sl → Option (RV × Sl)} {ms : Sl → Option (List RV × Sl)} (h : EvE X e m) (hs : EvA X es ms) (hst : starEach (e :: es) X.env = (false, eval e X.env) :: starEach es X.env := by rfl) : EvA X (e :: es) (mCons m ms) := by
  refine ⟨(pa_cons h.pe hs.pa hst).imp fun σ H Q ⟨as, F, ρ, rs, ρ', R, e, k⟩ => ?_⟩
  unfold mCons at e
  cases q : m ρ with
  | none => rw [q] at e; cases e
  | some p =>
    obtain ⟨r, ρ1⟩ := p
    rw [q] at e
    by_cases hr : ∃ i, r = .sl i
    · obtain ⟨i, rfl⟩ := hr
      dsimp only at e
      cases q2 : ms ρ1 with
      | none => rw [q2] at e; cases e
      | some p2 =>
        obtain ⟨rs', ρ2⟩ := p2
        rw [q2] at e
        cases e
        refine ⟨as, F, ρ, _, _, R, q, fun v F1 H1 S1 R1 y1 => ⟨as, F1, _, rs', _, R1, q2, fun vs F2 H2 S2 R2 y2 => ?_⟩⟩
        exact k (v :: vs) F2 H2 (S1.trans S2) R2 ⟨y1, y2⟩
    · have e' : (match cold r ρ1 with
        | none => none
        | some (d, ρ1') => match ms ρ1' with
          | none => none
          | some (rs, ρ2) => some (RV.val d :: rs, ρ2)) = some (rs, ρ') := by
        cases r with
        | sl i => exact absurd ⟨i, rfl⟩ hr
        | val d => exact e
        | tmp o => exact e
      cases q1 : cold r ρ1 with
      | none => rw [q1] at e'; cases e'
      | some p1 =>
        obtain ⟨d, ρ1'⟩ := p1
        rw [q1] at e'
        dsimp only at e'
        cases q2 : ms ρ1' with
        | none => rw [q2] at e'; cases e'
        | some p2 =>
          obtain ⟨rs', ρ2⟩ := p2
          rw [q2] at e'
          cases e'
          refine ⟨as, F, ρ, _, _, R, q, fun v F1 H1 S1 R1 y1 => ?_⟩
          obtain ⟨F1', R1', S1', y1', _⟩ := y1.cold S1 R1 q1
          refine ⟨as, F1', _, rs', _, R1', q2, fun vs F2 H2 S2 R2 y2 => ?_⟩
          exact k (v :: vs) F2 H2 (S1'.trans S2) R2 ⟨y1'.up S2.mono, y2⟩
/-- what the arguments are as they are read -/
def rdAll (ρ : Sl) : List RV → Option (List D)
  | [] => some []
  | r :: rs => match rd ρ r, rdAll ρ rs with
    | some d, some ds => some (d :: ds)
    | _, _ => none
inductive RdVs (K : PySem.W.Frag) (F H : Hp) : List V → List D → Prop
  | nil : RdVs K F H [] []
  | cons {v : V} {vs : List V} {d : D} {ds : List D} : RdV K F H v d → RdVs K F H vs ds → RdVs K F H (v :: vs) (d :: ds)
theorem RepAs.reads (R : Rep K w as F H σ ρ) : ∀ {rs : List RV} {vs : List V} {ds : List D}, RepAs K F σ ρ vs rs → rdAll ρ rs = some ds → RdVs K F H vs ds
  | [], [], ds, _, e => by cases e; exact .nil
  | [], _ :: _, _, h, _ => h.elim
  | _ :: _, [], _, h, _ => h.elim
  | r :: rs, v :: vs, ds, h, e => by
    obtain ⟨h1, h2⟩ := h
    unfold rdAll at e
    cases q1 : rd ρ r with
    | none => rw [q1] at e; cases e
    | some d =>
      cases q2 : rdAll ρ rs with
      | none => rw [q1, q2] at e; cases e
      | some ds' =>
        rw [q1, q2] at e
        cases e
        refine .cons ?_ (RepAs.reads R h2 q2)
        cases r with
        | val d' => cases q1; exact .inl h1
        | sl i => exact RepR.read (H0 := H) (v := v) R (show RepR K w H F H σ ρ v (.sl i) from h1) q1
        | tmp o => exact h1.elim

/-! ### calls of built-ins by values -/
def CallD (K : PySem.W.Frag) (w : World) (r : List V → Hp → VK → Prop) (f : List D → Option RV) : Prop := ∀ (vs : List V) (ds : List D) (F H : Hp) (Q : VK) (rv : RV), Same F H → RdVs K F H vs ds → f ds = some rv →
  (∀ v H', NewV K w F H H' v rv → Q v H') → r vs H Q
def mCall (f : List D → Option RV) (ma : Sl → Option (List RV × Sl)) : Sl → Option (RV × Sl) := fun ρ =>
  match ma ρ with
  | none => none
  | some (rs, ρ1) => match rdAll ρ1 rs with
    | none => none
    | some ds => match f ds with
      | none => none
      | some r => some (r, ρ1)
theorem tCB_imp {r : List V → Hp → VK → Prop} {f : List D → Option RV} {ma : Sl → Option (List RV × Sl)} (ho : CallD K w r f) {σ : Stt} {H : Hp} {Q : VK} (h : tE K w (mCall f ma) σ H Q) : tCB r (tA' K w ma) σ H Q := by
  obtain ⟨as, F, ρ, r', ρ', R, e, k⟩ := h
  unfold mCall at e
  cases q : ma ρ with
  | none => rw [q] at e; cases e
  | some p =>
    obtain ⟨rs, ρ1⟩ := p
    rw [q] at e
    dsimp only at e
    cases q1 : rdAll ρ1 rs with
    | none => rw [q1] at e; cases e
    | some ds =>
      rw [q1] at e
      dsimp only at e
      cases q2 : f ds with
      | none => rw [q2] at e; cases e
      | some rr =>
        rw [q2] at e
        cases e
        refine ⟨as, F, ρ, rs, _, R, q, fun vs F1 H1 S1 R1 y1 => ho vs ds F1 H1 Q _ R1.sub (y1.reads R1 q1) q2 fun v H2 nz => ?_⟩
        obtain ⟨F2, S2, R2, y2⟩ := nz.fin R1
        exact k v F2 H2 (S1.trans S2) R2 (y2.low S1.there)
theorem ev_callB {x : Str} {p pos : Pos} {e : Expr} {es : List Expr} {id : String} {r : List V → Hp → VK → Prop} {f : List D → Option RV} {ma : Sl → Option (List RV × Sl)} (hc : CallR X (.builtin id) r) (ho : CallD X.K X.w r f)
    (hg : Gl X x) (hm : X.mg x = none) (hv : bootBuiltins x = some (.builtin id)) (ha : EvA X (e :: es) ma) (hn : x ≠ "__name__" := by decide) (hdb : (x == ("__debug__" : Str)) = false := by decide)
    (he : starEach (e :: es) X.env = (false, eval e X.env) :: starEach es X.env := by rfl) (hpl : (backTo pos (starEach es X.env)).any (·.1) = false := by rfl) : EvE X (.Call (.Name x p) (e :: es) [] pos) (mCall f ma) :=
  ⟨(pe_callB hc hg hm hv ha.pa hn hdb he hpl).imp fun _ _ _ h => tCB_imp ho h⟩
theorem ev_callTy {x : Str} {p pos : Pos} {e : Expr} {es : List Expr} {T : String} {r : List V → Hp → VK → Prop} {f : List D → Option RV} {ma : Sl → Option (List RV × Sl)} (hc : CallR X (.type T) r) (ho : CallD X.K X.w r f)
    (hg : Gl X x) (hm : X.mg x = none) (hv : bootBuiltins x = some (.type T)) (ha : EvA X (e :: es) ma) (hn : x ≠ "__name__" := by decide) (hdb : (x == ("__debug__" : Str)) = false := by decide)
    (he : starEach (e :: es) X.env = (false, eval e X.env) :: starEach es X.env := by rfl) (hpl : (backTo pos (starEach es X.env)).any (·.1) = false := by rfl) : EvE X (.Call (.Name x p) (e :: es) [] pos) (mCall f ma) :=
  ⟨(pe_callTy hc hg hm hv ha.pa hn hdb he hpl).imp fun _ _ _ h => tCB_imp ho h⟩

/-! ### statements -/
def mNext : Sl → Option Fl := fun ρ => some (.nx ρ)
def mSeq (m1 m2 : Sl → Option Fl) : Sl → Option Fl := fun ρ => match m1 ρ with
  | none => none
  | some (.nx ρ1) => m2 ρ1
  | some f => some f
theorem FlR.nxt {Dn : Ends} {u : TS} {f : Fl} : (∀ ρ1, f ≠ .nx ρ1) → FlR K w as F H σ ρ Dn f → FlR K w as F H σ ρ { Dn with nx := u Dn } f := by
  intro n h
  cases f with
  | nx ρ1 => exact absurd rfl (n ρ1)
  | rt r ρ1 => exact h
  | bk ρ1 => exact h
  | ct ρ1 => exact h
theorem FlR.from (S : Step F H σ ρ F1 H1 σ1 ρ1) {Dn : Ends} : ∀ {f : Fl}, FlR K w as F H σ ρ Dn f → FlR K w as F1 H1 σ1 ρ1 Dn f
  | .nx _, h => fun σ' F' H' S' R' => h σ' F' H' (S.trans S') R'
  | .bk _, h => fun σ' F' H' S' R' => h σ' F' H' (S.trans S') R'
  | .ct _, h => fun σ' F' H' S' R' => h σ' F' H' (S.trans S') R'
  | .rt _ _, h => fun v σ' F' H' S' R' q => h v σ' F' H' (S.trans S') R' (q.low S.there)
theorem es_nil : EvSs X [] mNext := ⟨pss_nil.imp fun D σ H ⟨as, F, ρ, f, R, e, k⟩ => by
  cases e
  exact k σ F H .refl R⟩
theorem es_cons {st : Stmt} {rest : List Stmt} {m1 m2 : Sl → Option Fl} (h1 : EvS X st m1) (h2 : EvSs X rest m2) : EvSs X (st :: rest) (mSeq m1 m2) := by
  refine ⟨(pss_cons h1.ps h2.ps).imp fun Dn σ H ⟨as, F, ρ, f, R, e, k⟩ => ?_⟩
  unfold mSeq at e
  cases q : m1 ρ with
  | none => rw [q] at e; cases e
  | some f1 =>
    refine ⟨as, F, ρ, f1, R, q, ?_⟩
    rw [q] at e
    cases f1 with
    | nx ρ1 => exact fun σ1 F1 H1 S1 R1 => ⟨as, F1, ρ1, f, R1, e, k.from S1⟩
    | rt r ρ1 => cases e; exact k
    | bk ρ1 => cases e; exact k
    | ct ρ1 => cases e; exact k
theorem es_one {st : Stmt} {m : Sl → Option Fl} (h : EvS X st m) : EvSs X [st] m := ⟨pss_one h.ps⟩

def mRet (m : Sl → Option (RV × Sl)) : Sl → Option Fl := fun ρ => match m ρ with
  | none => none
  | some (r, ρ1) => some (.rt r ρ1)
theorem es_ret {e : Expr} {pos : Pos} {m : Sl → Option (RV × Sl)} (h : EvE X e m) : EvS X (.Return (some e) pos) (mRet m) := by
  refine ⟨(ps_ret h.pe).imp fun Dn σ H ⟨as, F, ρ, f, R, e, k⟩ => ?_⟩
  unfold mRet at e
  cases q : m ρ with
  | none => rw [q] at e; cases e
  | some p =>
    obtain ⟨r, ρ1⟩ := p
    rw [q] at e
    cases e
    exact ⟨as, F, ρ, r, ρ1, R, q, fun v F1 H1 S1 R1 y => k v σ F1 H1 S1 R1 y⟩
def mDrop (m : Sl → Option (RV × Sl)) : Sl → Option Fl := fun ρ => match m ρ with
  | none => none
  | some (_, ρ1) => some (.nx ρ1)
theorem es_expr {e : Expr} {pos : Pos} {m : Sl → Option (RV × Sl)} (h : EvE X e m) (hs : swapsWith e none pos.line X.env = pure false := by rfl) : EvS X (.Expr e pos) (mDrop m) := by
  refine ⟨(ps_expr h.pe hs).imp fun Dn σ H ⟨as, F, ρ, f, R, e, k⟩ => ?_⟩
  unfold mDrop at e
  cases q : m ρ with
  | none => rw [q] at e; cases e
  | some p =>
    obtain ⟨r, ρ1⟩ := p
    rw [q] at e
    cases e
    exact ⟨as, F, ρ, r, ρ1, R, q, fun v F1 H1 S1 R1 y => k σ F1 H1 S1 R1⟩
def mIf (c : Sl → Option (Bool × Sl)) (a b : Sl → Option Fl) : Sl → Option Fl := fun ρ => match c ρ with
  | none => none
  | some (true, ρ1) => a ρ1
  | some (false, ρ1) => b ρ1
theorem es_if {c : Expr} {a b : List Stmt} {pos : Pos} {mc : Sl → Option (Bool × Sl)} {ma mb : Sl → Option Fl} (hc : EvT X c mc) (ha : EvSs X a ma) (hb : EvSs X b mb) : EvS X (.If c a b pos) (mIf mc ma mb) := by
  refine ⟨(ps_if hc.pt ha.ps hb.ps).imp fun Dn σ H ⟨as, F, ρ, f, R, e, k⟩ => ?_⟩
  unfold mIf at e
  cases q : mc ρ with
  | none => rw [q] at e; cases e
  | some p =>
    obtain ⟨t, ρ1⟩ := p
    rw [q] at e
    refine ⟨as, F, ρ, t, ρ1, R, q, fun F1 H1 S1 R1 => ?_⟩
    cases t with
    | true => exact iteT ⟨as, F1, ρ1, f, R1, e, k.from S1⟩
    | false => exact iteF ⟨as, F1, ρ1, f, R1, e, k.from S1⟩
/-- what comes into a slot -/
def putR (i : Nat) (r : RV) (ρ : Sl) : Option Sl := if i < ρ.length then (match r with
  | .val d => some (ρ.set i (.val d))
  | .tmp o => some (ρ.set i (.own none o))
  | .sl j => match cold (.sl j) ρ with
    | none => none
    | some (d, ρ1) => some (ρ1.set i (.val d))) else none
theorem cold_len {r : RV} {d : D} (e : cold r ρ = some (d, ρ')) : ρ'.length = ρ.length := by
  cases r with
  | val d' => cases e; rfl
  | tmp o => cases o with
    | lst ds => cases e; rfl
    | _ => cases e
  | sl i =>
    unfold cold at e
    dsimp only at e
    split at e
    · cases e; rw [List.length_set]
    · cases e; rfl
    · cases e
theorem RepR.put {r : RV} {v : V} {i : Nat} {F0 H0 : Hp} {σ0 : Stt} {ρ0 : Sl} (S : Step F0 H0 σ0 ρ0 F H σ ρ) (R : Rep K w as F H σ ρ) (h : RepR K w H0 F H σ ρ v r) (e : putR i r ρ = some ρ') :
    ∃ F', Step F0 H0 σ0 ρ0 F' H (σ.set i (some v)) ρ' ∧ Rep K w as F' H (σ.set i (some v)) ρ' := by
  unfold putR at e
  split at e
  case isFalse => cases e
  rename_i hi
  have base : ∀ {F1 : Hp} {ρ1 : Sl} {d : D}, Rep K w as F1 H σ ρ1 → Step F0 H0 σ0 ρ0 F1 H σ ρ1 → i < ρ1.length → Rp K F1 v d → Step F0 H0 σ0 ρ0 F1 H (σ.set i (some v)) (ρ1.set i (.val d)) ∧ Rep K w as F1 H (σ.set i (some v)) (ρ1.set i (.val d)) :=
    fun R1 S1 h1 q => ⟨S1.put R1 h1 (fun _ _ _ z => nomatch z), R1.put h1 ⟨v, rfl, q⟩ (fun _ _ _ z => nomatch z)⟩
  cases r with
  | val d => cases e; exact ⟨F, base R S hi h⟩
  | tmp o =>
    cases e
    obtain ⟨a, rfl, h0, hf, q, n⟩ := h
    refine ⟨F, S.put R hi (fun t o b e1 e2 => ?_), R.put hi ⟨a, rfl, hf, q, fun j z => nomatch z⟩ (fun t o b e1 e2 => ?_)⟩
    · cases e1; cases e2; exact ⟨rfl, h0⟩
    · cases e1; cases e2; exact ⟨rfl, n⟩
  | sl j =>
    dsimp only at e
    cases q : Wk.cold (.sl j) ρ with
    | none => rw [q] at e; cases e
    | some p =>
      obtain ⟨d, ρ1⟩ := p
      rw [q] at e
      cases e
      obtain ⟨F1, R1, S1, y, _⟩ := h.cold S R q
      exact ⟨F1, base R1 S1 (by rw [cold_len q]; exact hi) y⟩
def mSet (i : Nat) (m : Sl → Option (RV × Sl)) : Sl → Option Fl := fun ρ => match m ρ with
  | none => none
  | some (r, ρ1) => match putR i r ρ1 with
    | none => none
    | some ρ2 => some (.nx ρ2)
theorem tSet_imp {i : Nat} {m : Sl → Option (RV × Sl)} {Dn : Ends} {σ : Stt} {H : Hp} (h : tS' K w (mSet i m) Dn σ H) : tAsg (tE K w m) (gName i) Dn σ H := by
  obtain ⟨as, F, ρ, f, R, e, k⟩ := h
  unfold mSet at e
  cases q : m ρ with
  | none => rw [q] at e; cases e
  | some p =>
    obtain ⟨r, ρ1⟩ := p
    rw [q] at e
    dsimp only at e
    cases q1 : putR i r ρ1 with
    | none => rw [q1] at e; cases e
    | some ρ2 =>
      rw [q1] at e
      cases e
      refine ⟨as, F, ρ, r, ρ1, R, q, fun v F1 H1 S1 R1 y => ?_⟩
      obtain ⟨F2, S2, R2⟩ := y.put S1 R1 q1
      exact k _ F2 H1 S2 R2
theorem es_set {i : Nat} {x : Str} {e : Expr} {pos pos' : Pos} {m : Sl → Option (RV × Sl)} (hN : X.N.Nodup) (hi : X.N[i]? = some x) (hx : Loc X.env.scope x) (he : EvE X e m) (hs : swapsWith e (some (.Name x pos')) pos.line X.env = pure false := by rfl)
    (hf : X.fn x = true ∨ X.env.scope.names.lookup x = some .local := by first | exact .inl rfl | exact .inr rfl | assumption) : EvS X (.Assign [.Name x pos'] e pos) (mSet i m) :=
  ⟨(ps_set hN hi hx he.pe hs hf).imp fun _ _ _ h => tSet_imp h⟩
def mBreak : Sl → Option Fl := fun ρ => some (.bk ρ)
def mCont : Sl → Option Fl := fun ρ => some (.ct ρ)
theorem es_pass {pos : Pos} : EvS X (.Pass pos) mNext := ⟨ps_pass.imp fun D σ H ⟨as, F, ρ, f, R, e, k⟩ => by
  cases e
  exact k σ F H .refl R⟩
theorem es_break {pos : Pos} : EvS X (.Break pos) mBreak := ⟨ps_break.imp fun D σ H ⟨as, F, ρ, f, R, e, k⟩ => by
  cases e
  exact k σ F H .refl R⟩
theorem es_cont {pos : Pos} : EvS X (.Continue pos) mCont := ⟨ps_continue.imp fun D σ H ⟨as, F, ρ, f, R, e, k⟩ => by
  cases e
  exact k σ F H .refl R⟩
/-- a statement that is not to be reached -/
def mNever : Sl → Option Fl := fun _ => none
theorem es_never {st : Stmt} : EvS X st mNever := ⟨ps_never.imp fun D σ H ⟨_, _, _, _, _, e, _⟩ => nomatch e⟩

/-! ### tests -/
def mB (m : Sl → Option (RV × Sl)) : Sl → Option (Bool × Sl) := fun ρ => match m ρ with
  | some (.val (.bool b), ρ1) => some (b, ρ1)
  | _ => none
theorem et_val {e : Expr} {m : Sl → Option (RV × Sl)} (h : EvE X e m) (he : ∀ whole, isTrue e X.env whole = (do let v ← whole; standAt e.pos; holding [v] (truthy v)) := by intro _; rfl) :
    EvT X e (mB m) := by
  refine ⟨(pt_val h.pe he).imp fun σ H Q ⟨as, F, ρ, b, ρ', R, e, k⟩ => ?_⟩
  unfold mB at e
  cases q : m ρ with
  | none => rw [q] at e; cases e
  | some p =>
    obtain ⟨r, ρ1⟩ := p
    rw [q] at e
    cases r with
    | val d =>
      cases d with
      | bool c =>
        cases e
        refine ⟨as, F, ρ, _, _, R, q, fun v F1 H1 S1 R1 y => ?_⟩
        cases y
        exact ⟨_, rfl, k F1 H1 S1 R1⟩
      | _ => cases e
    | _ => cases e
def mTAnd (a b : Sl → Option (Bool × Sl)) : Sl → Option (Bool × Sl) := fun ρ => match a ρ with
  | none => none
  | some (true, ρ1) => b ρ1
  | some (false, ρ1) => some (false, ρ1)
def mTOr (a b : Sl → Option (Bool × Sl)) : Sl → Option (Bool × Sl) := fun ρ => match a ρ with
  | none => none
  | some (true, ρ1) => some (true, ρ1)
  | some (false, ρ1) => b ρ1
def mTNot (a : Sl → Option (Bool × Sl)) : Sl → Option (Bool × Sl) := fun ρ => match a ρ with
  | none => none
  | some (b, ρ1) => some (!b, ρ1)
structure EvW (X : Cx) (e : Expr) (m : Sl → Option (Bool × Sl)) : Prop where
  pw : PW X e (tT' X.K X.w m)
theorem _root_.L2.PW.imp {e : Expr} {t t' : TT} (h : PW X e t) (i : ∀ σ H Q, t' σ H Q → t σ H Q) : PW X e t' := ⟨fun wh pins s σ H Q I q => h.run wh pins s σ H Q I (i _ _ _ q)⟩
theorem EvW.t {e : Expr} {m : Sl → Option (Bool × Sl)} (h : EvW X e m) : EvT X e m := ⟨h.pw.pt⟩
theorem ew_and1 {a : Expr} {pos : Pos} {m : Sl → Option (Bool × Sl)} (h : EvT X a m) : EvW X (.BoolOp .And [a] pos) m := ⟨pw_and1 h.pt⟩
theorem ew_or1 {a : Expr} {pos : Pos} {m : Sl → Option (Bool × Sl)} (h : EvT X a m) : EvW X (.BoolOp .Or [a] pos) m := ⟨pw_or1 h.pt⟩
theorem ew_and {a b : Expr} {rest : List Expr} {pos : Pos} {ma mb : Sl → Option (Bool × Sl)} (ha : EvT X a ma) (hb : EvW X (.BoolOp .And (b :: rest) pos) mb) : EvW X (.BoolOp .And (a :: b :: rest) pos) (mTAnd ma mb) := by
  refine ⟨(pw_and ha.pt hb.pw).imp fun σ H Q ⟨as, F, ρ, t, ρ', R, e, k⟩ => ?_⟩
  unfold mTAnd at e
  cases q : ma ρ with
  | none => rw [q] at e; cases e
  | some p =>
    obtain ⟨c, ρ1⟩ := p
    rw [q] at e
    refine ⟨as, F, ρ, c, ρ1, R, q, fun F1 H1 S1 R1 => ?_⟩
    cases c with
    | true => exact iteT ⟨as, F1, ρ1, t, ρ', R1, e, fun F2 H2 S2 R2 => k F2 H2 (S1.trans S2) R2⟩
    | false => cases e; exact iteF (k F1 H1 S1 R1)
theorem ew_or {a b : Expr} {rest : List Expr} {pos : Pos} {ma mb : Sl → Option (Bool × Sl)} (ha : EvT X a ma) (hb : EvW X (.BoolOp .Or (b :: rest) pos) mb) : EvW X (.BoolOp .Or (a :: b :: rest) pos) (mTOr ma mb) := by
  refine ⟨(pw_or ha.pt hb.pw).imp fun σ H Q ⟨as, F, ρ, t, ρ', R, e, k⟩ => ?_⟩
  unfold mTOr at e
  cases q : ma ρ with
  | none => rw [q] at e; cases e
  | some p =>
    obtain ⟨c, ρ1⟩ := p
    rw [q] at e
    refine ⟨as, F, ρ, c, ρ1, R, q, fun F1 H1 S1 R1 => ?_⟩
    cases c with
    | true => cases e; exact iteT (k F1 H1 S1 R1)
    | false => exact iteF ⟨as, F1, ρ1, t, ρ', R1, e, fun F2 H2 S2 R2 => k F2 H2 (S1.trans S2) R2⟩
theorem et_not {a : Expr} {pos : Pos} {ma : Sl → Option (Bool × Sl)} (ha : EvT X a ma) : EvT X (.UnaryOp .Not a pos) (mTNot ma) := by
  refine ⟨(pt_not ha.pt).imp fun σ H Q ⟨as, F, ρ, t, ρ', R, e, k⟩ => ?_⟩
  unfold mTNot at e
  cases q : ma ρ with
  | none => rw [q] at e; cases e
  | some p =>
    obtain ⟨c, ρ1⟩ := p
    rw [q] at e
    cases e
    exact ⟨as, F, ρ, c, _, R, q, fun F1 H1 S1 R1 => k F1 H1 S1 R1⟩
end
end Wk
set_option Elab.async false
set_option linter.all false
set_option maxRecDepth 100000
set_option maxHeartbeats 4000000
namespace Wk
open PySem PySem.Spec PyProof.Rows L2
/-! ### calls of own defs -/
section
variable {K : PySem.W.Frag} {w : World} {as : List V} {F H F1 H1 F2 H2 F' H' : Hp} {σ σ1 σ2 σ' : Stt} {ρ ρ1 ρ2 ρ' : Sl} {X : Cx}
/-- the slots at a def's entry -/
def startN (n : Nat) (vs : List V) : Stt := vs.map some ++ List.replicate (n - vs.length) none
def pad (n : Nat) (args : Sl) : Sl := args ++ List.replicate (n - args.length) .un
theorem start_eq (N : List Str) (vs : List V) : start N vs = startN N.length vs := rfl
/-- a def's promise: its body's plain function -/
def spF (K : PySem.W.Frag) (w : World) (np n : Nat) (m : Sl → Option Fl) : Sp := fun vs H Q _ => vs.length = np ∧ tS' K w m { nx := fun _ H' => Q .non H', rt := Q } (startN n vs) H
/-- by value, or by name (an own object that may change) -/
def frz : List Bool → List RV → Sl → Option (List RV × Sl)
  | [], [], ρ => some ([], ρ)
  | false :: ms, r :: rs, ρ => match cold r ρ with
    | none => none
    | some (d, ρ1) => match frz ms rs ρ1 with
      | none => none
      | some (rs', ρ2) => some (.val d :: rs', ρ2)
  | true :: ms, r :: rs, ρ => match frz ms rs ρ with
      | none => none
      | some (rs', ρ2) => some (r :: rs', ρ2)
  | _, _, _ => none
def args (ρ : Sl) : Nat → List RV → Option Sl
  | _, [] => some []
  | j, .val d :: rs => match args ρ (j + 1) rs with
    | none => none
    | some l => some (.val d :: l)
  | j, .sl i :: rs => match slot ρ i with
    | .own _ o => match args ρ (j + 1) rs with
      | none => none
      | some l => some (.own (some j) o :: l)
    | _ => none
  | _, .tmp _ :: _ => none
/-- the names by which own objects are handed on -/
def names : List RV → List Nat
  | [] => []
  | .sl i :: rs => i :: names rs
  | _ :: rs => names rs
/-- the own objects as the callee left them -/
def back (ρf : Sl) : Nat → List RV → Sl → Option Sl
  | _, [], ρ => some ρ
  | j, .sl i :: rs, ρ => match slot ρ i with
    | .own t _ => match slot ρf j with
      | .own (some k) o => if k = j then back ρf (j + 1) rs (ρ.set i (.own t o)) else none
      | _ => none
    | _ => none
  | j, _ :: rs, ρ => back ρf (j + 1) rs ρ
/-- what is handed back -/
def ret (ρf : Sl) : RV → Option RV
  | .val d => some (.val d)
  | .tmp o => some (.tmp o)
  | .sl i => match slot ρf i with
    | .val d => some (.val d)
    | .own none o => some (.tmp o)
    | _ => none
def mFn (n : Nat) (m : Sl → Option Fl) (ms : List Bool) (ma : Sl → Option (List RV × Sl)) : Sl → Option (RV × Sl) := fun ρ =>
  match ma ρ with
  | none => none
  | some (rs, ρ1) => match frz ms rs ρ1 with
    | none => none
    | some (rs2, ρ2) => match args ρ2 0 rs2 with
      | none => none
      | some l => match m (pad n l) with
        | some (.nx ρf) => if (names rs2).Nodup then (match back ρf 0 rs2 ρ2 with
          | none => none
          | some ρ3 => some (.val .none, ρ3)) else none
        | some (.rt r ρf) => if (names rs2).Nodup then (match ret ρf r with
          | none => none
          | some r' => match back ρf 0 rs2 ρ2 with
            | none => none
            | some ρ3 => some (r', ρ3)) else none
        | _ => none
theorem RepAs.up : ∀ {rs : List RV} {vs : List V}, RepAs K F σ ρ vs rs → Same F F' → RepAs K F' σ ρ' vs rs
  | [], [], _, _ => trivial
  | [], _ :: _, h, _ => h.elim
  | _ :: _, [], h, _ => h.elim
  | r :: rs, v :: vs, ⟨h1, h2⟩, e => ⟨by
      cases r with
      | val d => exact Rp.up h1 e
      | sl i => exact h1
      | tmp o => exact h1, h2.up e⟩
theorem frz_ok {F0 H0 : Hp} {σ0 : Stt} {ρ0 : Sl} : ∀ {ms : List Bool} {rs rs2 : List RV} {vs : List V} {F : Hp} {ρ ρ2 : Sl}, Step F0 H0 σ0 ρ0 F H σ ρ → Rep K w as F H σ ρ → RepAs K F σ ρ vs rs → frz ms rs ρ = some (rs2, ρ2) →
    ∃ F', Step F0 H0 σ0 ρ0 F' H σ ρ2 ∧ Rep K w as F' H σ ρ2 ∧ RepAs K F' σ ρ2 vs rs2 ∧ Same F F'
  | [], [], _, vs, F, ρ, _, S, R, h, e => by cases e; exact ⟨F, S, R, h, Same.refl _⟩
  | [], _ :: _, _, _, _, _, _, _, _, _, e => by cases e
  | true :: _, [], _, _, _, _, _, _, _, _, e => by cases e
  | false :: _, [], _, _, _, _, _, _, _, _, e => by cases e
  | _, _ :: _, _, [], _, _, _, _, _, h, _ => h.elim
  | false :: ms, r :: rs, _, v :: vs, F, ρ, _, S, R, h, e => by
    unfold frz at e
    cases q : Wk.cold r ρ with
    | none => rw [q] at e; cases e
    | some p =>
      obtain ⟨d, ρ1⟩ := p
      rw [q] at e
      dsimp only at e
      cases q2 : frz ms rs ρ1 with
      | none => rw [q2] at e; cases e
      | some p2 =>
        obtain ⟨rs', ρ2'⟩ := p2
        rw [q2] at e
        cases e
        obtain ⟨h1, h2⟩ := h
        have hr : RepR K w H0 F H σ ρ v r := by
          cases r with
          | val d' => exact h1
          | sl i => exact h1
          | tmp o => exact h1.elim
        obtain ⟨F1, R1, S1, y1, m1⟩ := hr.cold S R q
        obtain ⟨F2, S2, R2, y2, m2⟩ := frz_ok S1 R1 (h2.up m1) q2
        exact ⟨F2, S2, R2, ⟨y1.up m2, y2⟩, m1.trans m2⟩
  | true :: ms, r :: rs, _, v :: vs, F, ρ, _, S, R, h, e => by
    unfold frz at e
    cases q2 : frz ms rs ρ with
    | none => rw [q2] at e; cases e
    | some p2 =>
      obtain ⟨rs', ρ2'⟩ := p2
      rw [q2] at e
      cases e
      obtain ⟨h1, h2⟩ := h
      obtain ⟨F2, S2, R2, y2, m2⟩ := frz_ok S R h2 q2
      refine ⟨F2, S2, R2, ⟨?_, y2⟩, m2⟩
      cases r with
      | val d => exact Rp.up h1 m2
      | sl i => exact h1
      | tmp o => exact h1

theorem RepAs.len : ∀ {rs : List RV} {vs : List V}, RepAs K F σ ρ vs rs → vs.length = rs.length
  | [], [], _ => rfl
  | [], _ :: _, h => h.elim
  | _ :: _, [], h => h.elim
  | _ :: _, _ :: _, ⟨_, h⟩ => congrArg (· + 1) h.len
theorem RepAs.at_val : ∀ {rs : List RV} {vs : List V} {j : Nat} {d : D}, RepAs K F σ ρ vs rs → rs[j]? = some (.val d) → ∃ v, vs[j]? = some v ∧ Rp K F v d
  | [], _, _, _, _, e => by simp at e
  | _ :: _, [], _, _, h, _ => h.elim
  | r :: rs, v :: vs, 0, d, ⟨h, _⟩, e => by
    have e' : r = .val d := by simpa using e
    subst e'
    exact ⟨v, rfl, h⟩
  | r :: rs, v :: vs, j + 1, d, ⟨_, h⟩, e => by
    obtain ⟨u, h1, h2⟩ := RepAs.at_val (j := j) (d := d) h (by simpa using e)
    exact ⟨u, by simpa using h1, h2⟩
theorem RepAs.at_sl : ∀ {rs : List RV} {vs : List V} {j i : Nat}, RepAs K F σ ρ vs rs → rs[j]? = some (.sl i) → ∃ v, vs[j]? = some v ∧ place σ i = some v
  | [], _, _, _, _, e => by simp at e
  | _ :: _, [], _, _, h, _ => h.elim
  | r :: rs, v :: vs, 0, i, ⟨h, _⟩, e => by
    have e' : r = .sl i := by simpa using e
    subst e'
    exact ⟨v, rfl, h⟩
  | r :: rs, v :: vs, j + 1, i, ⟨_, h⟩, e => by
    obtain ⟨u, h1, h2⟩ := RepAs.at_sl (j := j) (i := i) h (by simpa using e)
    exact ⟨u, by simpa using h1, h2⟩
theorem args_len : ∀ {rs : List RV} {j : Nat} {l : Sl}, args ρ j rs = some l → l.length = rs.length
  | [], _, _, e => by cases e; rfl
  | .val d :: rs, j, l, e => by
    unfold args at e
    cases q : args ρ (j + 1) rs with
    | none => rw [q] at e; cases e
    | some l' => rw [q] at e; cases e; exact congrArg (· + 1) (args_len q)
  | .sl i :: rs, j, l, e => by
    unfold args at e
    cases z : slot ρ i with
    | un => simp only [z] at e; cases e
    | val d => simp only [z] at e; cases e
    | own t o =>
      simp only [z] at e
      cases q : args ρ (j + 1) rs with
      | none => rw [q] at e; cases e
      | some l' => rw [q] at e; cases e; exact congrArg (· + 1) (args_len q)
  | .tmp _ :: _, _, _, e => by cases e
theorem args_at : ∀ {rs : List RV} {j0 j : Nat} {l : Sl} {s : SV}, args ρ j0 rs = some l → l[j]? = some s → (∃ d, rs[j]? = some (.val d) ∧ s = .val d) ∨ ∃ i t o, rs[j]? = some (.sl i) ∧ slot ρ i = .own t o ∧ s = .own (some (j0 + j)) o
  | [], _, _, _, _, e, h => by cases e; simp at h
  | .tmp _ :: _, _, _, _, _, e, _ => by cases e
  | .val d :: rs, j0, j, l, s, e, h => by
    unfold args at e
    cases q : args ρ (j0 + 1) rs with
    | none => rw [q] at e; cases e
    | some l' =>
      rw [q] at e; cases e
      cases j with
      | zero => exact .inl ⟨d, rfl, by simpa using h.symm⟩
      | succ j =>
        have h' : l'[j]? = some s := by simpa using h
        rcases args_at q h' with ⟨d', y1, y2⟩ | ⟨i, t, o, y1, y2, y3⟩
        · exact .inl ⟨d', by simpa using y1, y2⟩
        · exact .inr ⟨i, t, o, by simpa using y1, y2, by rw [y3]; congr 2; omega⟩
  | .sl i :: rs, j0, j, l, s, e, h => by
    unfold args at e
    cases z : slot ρ i with
    | un => simp only [z] at e; cases e
    | val d => simp only [z] at e; cases e
    | own t o =>
      simp only [z] at e
      cases q : args ρ (j0 + 1) rs with
      | none => rw [q] at e; cases e
      | some l' =>
        rw [q] at e; cases e
        cases j with
        | zero => exact .inr ⟨i, t, o, rfl, z, by simpa using h.symm⟩
        | succ j =>
          have h' : l'[j]? = some s := by simpa using h
          rcases args_at q h' with ⟨d', y1, y2⟩ | ⟨i, t, o, y1, y2, y3⟩
          · exact .inl ⟨d', by simpa using y1, y2⟩
          · exact .inr ⟨i, t, o, by simpa using y1, y2, by rw [y3]; congr 2; omega⟩
theorem names_mem : ∀ {rs : List RV} {j i : Nat}, rs[j]? = some (.sl i) → i ∈ names rs
  | [], _, _, e => by simp at e
  | r :: rs, 0, i, e => by
    have e' : r = .sl i := by simpa using e
    subst e'
    exact List.mem_cons_self
  | r :: rs, j + 1, i, e => by
    have q := names_mem (rs := rs) (j := j) (i := i) (by simpa using e)
    cases r with
    | sl k => exact List.mem_cons_of_mem _ q
    | val d => exact q
    | tmp o => exact q
theorem mem_names : ∀ {rs : List RV} {i : Nat}, i ∈ names rs → ∃ j : Nat, rs[j]? = some (RV.sl i)
  | [], _, h => nomatch h
  | .sl k :: rs, i, h => by
    rcases List.mem_cons.mp h with e | h
    · exact ⟨0, by rw [e]; rfl⟩
    · obtain ⟨j, q⟩ := mem_names h
      exact ⟨j + 1, by simpa using q⟩
  | .val d :: rs, i, h => by
    obtain ⟨j, q⟩ := mem_names (rs := rs) h
    exact ⟨j + 1, by simpa using q⟩
  | .tmp d :: rs, i, h => by
    obtain ⟨j, q⟩ := mem_names (rs := rs) h
    exact ⟨j + 1, by simpa using q⟩
theorem names_inj : ∀ {rs : List RV} {j k i : Nat}, (names rs).Nodup → rs[j]? = some (.sl i) → rs[k]? = some (.sl i) → j = k
  | [], _, _, _, _, e, _ => by simp at e
  | r :: rs, 0, 0, _, _, _, _ => rfl
  | r :: rs, j + 1, k + 1, i, n, e1, e2 => by
    have n' : (names rs).Nodup := by
      cases r with
      | sl k => exact (List.nodup_cons.mp n).2
      | val d => exact n
      | tmp o => exact n
    rw [names_inj (rs := rs) (j := j) (k := k) n' (by simpa using e1) (by simpa using e2)]
  | r :: rs, 0, k + 1, i, n, e1, e2 => by
    have e' : r = .sl i := by simpa using e1
    subst e'
    exact absurd (names_mem (rs := rs) (by simpa using e2)) (List.nodup_cons.mp n).1
  | r :: rs, j + 1, 0, i, n, e1, e2 => by
    have e' : r = .sl i := by simpa using e2
    subst e'
    exact absurd (names_mem (rs := rs) (by simpa using e1)) (List.nodup_cons.mp n).1
theorem back_spec {ρf : Sl} : ∀ {rs : List RV} {j0 : Nat} {ρ ρ3 : Sl}, back ρf j0 rs ρ = some ρ3 → (names rs).Nodup → ρ3.length = ρ.length ∧ (∀ i, i ∉ names rs → slot ρ3 i = slot ρ i) ∧
    ∀ j i, rs[j]? = some (.sl i) → ∃ t o o', slot ρ i = .own t o ∧ slot ρf (j0 + j) = .own (some (j0 + j)) o' ∧ slot ρ3 i = .own t o'
  | [], _, _, _, e, _ => by cases e; exact ⟨rfl, fun _ _ => rfl, fun j i h => by simp at h⟩
  | .val d :: rs, j0, ρ, ρ3, e, n => by
    obtain ⟨h1, h2, h3⟩ := back_spec (rs := rs) (j0 := j0 + 1) (ρ := ρ) e n
    refine ⟨h1, h2, fun j i h => ?_⟩
    cases j with
    | zero => simp at h
    | succ j =>
      obtain ⟨t, o, o', y1, y2, y3⟩ := h3 j i (by simpa using h)
      exact ⟨t, o, o', y1, by rw [show j0 + (j + 1) = j0 + 1 + j by omega]; exact y2, y3⟩
  | .tmp d :: rs, j0, ρ, ρ3, e, n => by
    obtain ⟨h1, h2, h3⟩ := back_spec (rs := rs) (j0 := j0 + 1) (ρ := ρ) e n
    refine ⟨h1, h2, fun j i h => ?_⟩
    cases j with
    | zero => simp at h
    | succ j =>
      obtain ⟨t, o, o', y1, y2, y3⟩ := h3 j i (by simpa using h)
      exact ⟨t, o, o', y1, by rw [show j0 + (j + 1) = j0 + 1 + j by omega]; exact y2, y3⟩
  | .sl k :: rs, j0, ρ, ρ3, e, n => by
    obtain ⟨n1, n2⟩ := List.nodup_cons.mp n
    unfold back at e
    cases z : slot ρ k with
    | un => simp only [z] at e; cases e
    | val d => simp only [z] at e; cases e
    | own t o =>
      simp only [z] at e
      cases z2 : slot ρf j0 with
      | un => simp only [z2] at e; cases e
      | val d => simp only [z2] at e; cases e
      | own t2 o' =>
        simp only [z2] at e
        cases t2 with
        | none => cases e
        | some k2 =>
          dsimp only at e
          split at e
          case isFalse => cases e
          rename_i ek
          subst ek
          have hk : k < ρ.length := slot_lt z (fun z => nomatch z)
          obtain ⟨h1, h2, h3⟩ := back_spec (rs := rs) e n2
          refine ⟨by rw [h1, List.length_set], fun i hi => ?_, fun j i h => ?_⟩
          · have hi' : i ≠ k ∧ i ∉ names rs := ⟨fun e => hi (by rw [e]; exact List.mem_cons_self), fun q => hi (List.mem_cons_of_mem _ q)⟩
            rw [h2 i hi'.2, slot_set_ne (Ne.symm hi'.1)]
          · cases j with
            | zero =>
              have e' : k = i := by simpa using h
              subst e'
              exact ⟨t, o, o', z, z2, by rw [h2 _ n1, slot_set_same hk]⟩
            | succ j =>
              have h' : rs[j]? = some (.sl i) := by simpa using h
              obtain ⟨t', o1, o1', y1, y2, y3⟩ := h3 j i h'
              have ne : k ≠ i := fun e => n1 (by rw [e]; exact names_mem h')
              rw [slot_set_ne ne] at y1
              exact ⟨t', o1, o1', y1, by rw [show k2 + (j + 1) = k2 + 1 + j by omega]; exact y2, y3⟩
theorem slot_pad {n : Nat} {l : Sl} {j : Nat} {s : SV} (h : slot (pad n l) j = s) (hs : s ≠ .un) : l[j]? = some s := by
  unfold slot pad at h
  rw [List.getD_eq_getElem?_getD] at h
  rcases Nat.lt_or_ge j l.length with q | q
  · rw [List.getElem?_append_left q] at h
    rw [List.getElem?_eq_getElem q] at h ⊢
    have h' : l[j] = s := h
    rw [h']
  · rw [List.getElem?_append_right q, List.getElem?_replicate] at h
    split at h
    · exact absurd h.symm hs
    · exact absurd h.symm hs
theorem place_start {n : Nat} {vs : List V} {j : Nat} {v : V} (h : vs[j]? = some v) : place (startN n vs) j = some v := by
  unfold place startN
  rw [List.getD_eq_getElem?_getD]
  have q : j < (vs.map some).length := by rw [List.length_map]; exact (List.getElem?_eq_some_iff.mp h).1
  rw [List.getElem?_append_left q, List.getElem?_map, h]
  rfl
theorem start_place {n : Nat} {vs : List V} {j : Nat} {v : V} (h : place (startN n vs) j = some v) : vs[j]? = some v := by
  unfold place startN at h
  rw [List.getD_eq_getElem?_getD] at h
  rcases Nat.lt_or_ge j vs.length with q | q
  · rw [List.getElem?_append_left (by rw [List.length_map]; exact q), List.getElem?_map, List.getElem?_eq_getElem q] at h
    rw [List.getElem?_eq_getElem q]
    exact h
  · rw [List.getElem?_append_right (by rw [List.length_map]; exact q), List.getElem?_replicate] at h
    split at h
    · cases h
    · cases h
section
variable {rs2 : List RV} {vs : List V} {l : Sl} {n : Nat}
/-- the callee's own objects: the caller's that are handed on, all of them tagged -/
theorem own_entry (R : Rep K w as F H σ ρ) (h : RepAs K F σ ρ vs rs2) (e : args ρ 0 rs2 = some l) {j : Nat} {t : Option Nat} {o : OD} {b : Addr} (h1 : slot (pad n l) j = .own t o) (h2 : place (startN n vs) j = some (.ref b)) :
    ∃ (i : Nat) (t' : Option Nat), rs2[j]? = some (RV.sl i) ∧ slot ρ i = .own t' o ∧ place σ i = some (.ref b) ∧ t = some j := by
  have q := slot_pad h1 (fun z => nomatch z)
  rcases args_at e q with ⟨d, _, y⟩ | ⟨i, t', o', y1, y2, y3⟩
  · cases y
  · cases y3
    obtain ⟨v, z1, z2⟩ := h.at_sl y1
    have z3 := start_place h2
    rw [z1] at z3
    cases z3
    exact ⟨i, t', y1, y2, z2, by rw [Nat.zero_add]⟩
theorem entry (R : Rep K w as F H σ ρ) (h : RepAs K F σ ρ vs rs2) (e : args ρ 0 rs2 = some l) (nd : (names rs2).Nodup) : Rep K w vs F H (startN n vs) (pad n l) := by
  have hl := args_len e
  have hv := h.len
  refine ⟨by unfold pad startN; simp only [List.length_append, List.length_map, List.length_replicate]; omega, fun j => ?_, fun j k a t o t' o' h1 h2 h3 h4 => ?_, R.sub⟩
  · cases z : slot (pad n l) j with
    | un => trivial
    | val d =>
      have q := slot_pad z (fun z => nomatch z)
      rcases args_at e q with ⟨d', y1, y⟩ | ⟨i, t', o', y1, y2, y3⟩
      · cases y
        obtain ⟨v, z1, z2⟩ := h.at_val y1
        exact ⟨v, place_start z1, z2⟩
      · cases y3
    | own t o =>
      have q := slot_pad z (fun z => nomatch z)
      rcases args_at e q with ⟨d', y1, y⟩ | ⟨i, t', o', y1, y2, y3⟩
      · cases y
      · cases y3
        obtain ⟨v, z1, z2⟩ := h.at_sl y1
        obtain ⟨a, p1, p2, p3, _⟩ := R.own_at y2
        rw [z2] at p1; cases p1
        exact ⟨a, place_start z1, p2, p3, fun k hk => by cases hk; rw [Nat.zero_add]; exact z1⟩
  · obtain ⟨i1, t1, y1, y2, y3, _⟩ := own_entry R h e h1 h3
    obtain ⟨i2, t2, x1, x2, x3, _⟩ := own_entry R h e h2 h4
    have ei := R.ne _ _ _ _ _ _ _ y2 x2 y3 x3
    subst ei
    exact names_inj nd y1 x1
/-- behind the call -/
theorem behind {ρf ρ3 : Sl} {σf : Stt} (R : Rep K w as F H σ ρ) (h : RepAs K F σ ρ vs rs2) (e : args ρ 0 rs2 = some l) (nd : (names rs2).Nodup) (S : Step F H (startN n vs) (pad n l) F' H' σf ρf) (Rf : Rep K w vs F' H' σf ρf) (eb : back ρf 0 rs2 ρ = some ρ3) :
    Rep K w as F' H' σ ρ3 ∧ Step F H σ ρ F' H' σ ρ3 ∧ ∀ a, Own σ ρ3 a → Own σ ρ a := by
  obtain ⟨b1, b2, b3⟩ := back_spec eb nd
  have b3' : ∀ j i, rs2[j]? = some (.sl i) → ∃ t o o', slot ρ i = .own t o ∧ slot ρf j = .own (some j) o' ∧ slot ρ3 i = .own t o' := fun j i hj => by
    obtain ⟨t, o, o', y1, y2, y3⟩ := b3 j i hj
    rw [Nat.zero_add] at y2
    exact ⟨t, o, o', y1, y2, y3⟩
  have oe : ∀ b, Own (startN n vs) (pad n l) b → OwnP (startN n vs) (pad n l) b ∧ ∃ (j i : Nat) (t : Option Nat) (o : OD), rs2[j]? = some (RV.sl i) ∧ slot ρ i = .own t o ∧ place σ i = some (.ref b) := fun b ⟨j, t, o, h1, h2⟩ => by
    obtain ⟨i, t', y1, y2, y3, y4⟩ := own_entry R h e h1 h2
    exact ⟨⟨j, j, o, by rw [← y4]; exact h1, h2⟩, j, i, t', o, y1, y2, y3⟩
  have back_own : ∀ i t o, slot ρ3 i = .own t o → ∃ o', slot ρ i = .own t o' := fun i t o hi => by
    by_cases m : i ∈ names rs2
    · obtain ⟨j, hj⟩ := mem_names m
      obtain ⟨t', o1, o1', y1, y2, y3⟩ := b3' j i hj
      rw [y3] at hi; cases hi
      exact ⟨o1, y1⟩
    · rw [b2 i m] at hi; exact ⟨o, hi⟩
  have own_back : ∀ i t o, slot ρ i = .own t o → ∃ o', slot ρ3 i = .own t o' := fun i t o hi => by
    by_cases m : i ∈ names rs2
    · obtain ⟨j, hj⟩ := mem_names m
      obtain ⟨t', o1, o1', y1, y2, y3⟩ := b3' j i hj
      rw [hi] at y1; cases y1
      exact ⟨o1', y3⟩
    · exact ⟨o, by rw [b2 i m]; exact hi⟩
  refine ⟨⟨by rw [b1]; exact R.len, fun i => ?_, fun i j a t o t' o' h1 h2 h3 h4 => ?_, Rf.sub⟩, ⟨S.mono, fun b o q => ?_, fun b o q nO => ?_, S.there, fun b ⟨i, t, o, h1, h2⟩ => ?_, fun b ⟨i, k, o, h1, h2⟩ => ?_, fun b _ ⟨i, k, o, h1, h2⟩ => ?_⟩, fun b ⟨i, t, o, h1, h2⟩ => let ⟨o', y⟩ := back_own _ _ _ h1; ⟨i, t, o', y, h2⟩⟩
  · by_cases m : i ∈ names rs2
    · obtain ⟨j, hj⟩ := mem_names m
      obtain ⟨t, o, o', y1, y2, y3⟩ := b3' j i hj
      rw [y3]
      obtain ⟨a, p1, p2, p3, p4⟩ := R.own_at y1
      obtain ⟨v, z1, z2⟩ := h.at_sl hj
      rw [z2] at p1; cases p1
      obtain ⟨a', x1, x2, x3, x4⟩ := Rf.own_at y2
      have x5 := x4 j rfl
      rw [z1] at x5; cases x5
      exact ⟨a, z2, x2, x3, p4⟩
    · rw [b2 i m]
      have q := R.sl i
      cases z : slot ρ i with
      | un => trivial
      | val d => rw [z] at q; obtain ⟨v, q1, q2⟩ := q; exact ⟨v, q1, q2.up S.mono⟩
      | own t o =>
        rw [z] at q
        obtain ⟨a, q1, q2, q3, q4⟩ := q
        have nO : ¬ Own (startN n vs) (pad n l) a := fun hO => by
          obtain ⟨_, j, i', t', o', y1, y2, y3⟩ := oe a hO
          have ei := R.ne _ _ _ _ _ _ _ z y2 q1 y3
          subst ei
          exact m (names_mem y1)
        refine ⟨a, q1, ?_, q3.mono S.mono fun u hu => S.keep a u hu nO, q4⟩
        cases e2 : F' a with
        | none => rfl
        | some u =>
          rcases S.new a u e2 with y | y | y
          · rw [q2] at y; cases y
          · exact absurd y q3.there
          · exact absurd y.1 nO
  · obtain ⟨_, y1⟩ := back_own _ _ _ h1
    obtain ⟨_, y2⟩ := back_own _ _ _ h2
    exact R.ne _ _ _ _ _ _ _ y1 y2 h3 h4
  · rcases S.new b o q with y | y | y
    · exact .inl y
    · exact .inr (.inl y)
    · exact absurd (oe b y.1).1 y.2
  · refine S.keep b o q fun hO => ?_
    obtain ⟨_, j, i', t', o', y1, y2, y3⟩ := oe b hO
    exact nO ⟨i', t', o', y2, y3⟩
  · obtain ⟨o', y⟩ := back_own _ _ _ h1
    exact .inl ⟨i, t, o', y, h2⟩
  · obtain ⟨o', y⟩ := back_own _ _ _ h1
    exact ⟨i, k, o', y, h2⟩
  · obtain ⟨o', y⟩ := own_back _ _ _ h1
    exact .inl ⟨i, k, o', y, h2⟩
/-- what is handed back, seen by the caller -/
theorem ret_ok {ρf : Sl} {σf : Stt} {r r' : RV} {v : V} {ρ3 : Sl} (R : Rep K w as F H σ ρ) (h : RepAs K F σ ρ vs rs2) (e : args ρ 0 rs2 = some l) (S : Step F H (startN n vs) (pad n l) F' H' σf ρf) (Rf : Rep K w vs F' H' σf ρf) (q : RepR K w H F' H' σf ρf v r)
    (er : ret ρf r = some r') (ob : ∀ a, Own σ ρ3 a → Own σ ρ a) : RepR K w H F' H' σ ρ3 v r' := by
  have nOwn : ∀ a, H a = none → ¬ Own σ ρ3 a := fun a h0 z => (R.own_there (ob a z)).1 h0
  cases r with
  | val d => cases er; exact q
  | tmp o =>
    cases er
    obtain ⟨a, rfl, h0, hf, q1, n1⟩ := q
    exact ⟨a, rfl, h0, hf, q1, nOwn a h0⟩
  | sl i =>
    have hp : place σf i = some v := q
    unfold ret at er
    cases z : slot ρf i with
    | un => simp only [z] at er; cases er
    | val d =>
      simp only [z] at er; cases er
      obtain ⟨v', y1, y2⟩ := Rf.val_at z
      rw [hp] at y1; cases y1
      exact y2
    | own t o =>
      simp only [z] at er
      cases t with
      | some k => cases er
      | none =>
        cases er
        obtain ⟨a, y1, y2, y3, _⟩ := Rf.own_at z
        rw [hp] at y1; cases y1
        have h0 : H a = none := by
          rcases S.own a ⟨i, none, o, z, hp⟩ with y | y
          · obtain ⟨j, t, o', h1, h2⟩ := y
            obtain ⟨i', t', x1, x2, x3, x4⟩ := own_entry R h e h1 h2
            rcases S.tag' a ⟨i, none, o, z, hp⟩ ⟨j, j, o', by rw [← x4]; exact h1, h2⟩ with ⟨j2, k2, o2, u1, u2⟩ | y
            · have := Rf.ne _ _ _ _ _ _ _ z u1 hp u2
              subst this
              rw [z] at u1; cases u1
            · exact y
          · exact y
        exact ⟨a, rfl, h0, y2, y3, nOwn a h0⟩
end
end
end Wk
set_option Elab.async false
set_option linter.all false
set_option maxRecDepth 100000
set_option maxHeartbeats 4000000
namespace Wk
open PySem PySem.Spec PyProof.Rows L2
section
variable {K : PySem.W.Frag} {w : World} {as : List V} {F H F1 H1 F2 H2 F' H' : Hp} {σ σ1 σ2 σ' : Stt} {ρ ρ1 ρ2 ρ' : Sl} {X : Cx}
theorem startN_append {n : Nat} {vs : List V} : startN n (vs ++ []) = startN n vs := by rw [List.append_nil]
/-- a call with all its arguments -/
def mFnA (np n : Nat) (m : Sl → Option Fl) (ms : List Bool) (rs : List RV) (ρ1 : Sl) : Option (RV × Sl) :=
  match frz ms rs ρ1 with
    | none => none
    | some (rs2, ρ2) => match args ρ2 0 rs2 with
      | none => none
      | some l => if l.length = np ∧ (names rs2).Nodup then (match m (pad n l) with
        | some (.nx ρf) => (match back ρf 0 rs2 ρ2 with
          | none => none
          | some ρ3 => some (.val .none, ρ3))
        | some (.rt r ρf) => (match ret ρf r with
          | none => none
          | some r' => match back ρf 0 rs2 ρ2 with
            | none => none
            | some ρ3 => some (r', ρ3))
        | _ => none) else none
theorem fnA_ok {np n : Nat} {m : Sl → Option Fl} {ms : List Bool} {rs : List RV} {vs : List V} {r' : RV} {ρ3 : Sl} {F0 H0 : Hp} {ρ0 : Sl} {Q : VK} {E : XK} (S : Step F0 H0 σ ρ0 F H σ ρ) (R : Rep K w as F H σ ρ) (h : RepAs K F σ ρ vs rs)
    (e : mFnA np n m ms rs ρ = some (r', ρ3)) (k : ∀ v F' H', Step F0 H0 σ ρ0 F' H' σ ρ3 → Rep K w as F' H' σ ρ3 → RepR K w H0 F' H' σ ρ3 v r' → Q v H') : spF K w np n m vs H Q E := by
  unfold mFnA at e
  cases q : frz ms rs ρ with
  | none => rw [q] at e; cases e
  | some p =>
    obtain ⟨rs2, ρ2⟩ := p
    rw [q] at e
    dsimp only at e
    cases q1 : args ρ2 0 rs2 with
    | none => rw [q1] at e; cases e
    | some l =>
      rw [q1] at e
      dsimp only at e
      split at e
      case isFalse => cases e
      rename_i hc
      obtain ⟨hnp, nd⟩ := hc
      obtain ⟨F1, S1, R1, A1, mm⟩ := frz_ok S R h q
      have hv : vs.length = np := by rw [← hnp, args_len q1]; exact A1.len
      have En := entry (n := n) R1 A1 q1 nd
      cases q2 : m (pad n l) with
      | none => rw [q2] at e; cases e
      | some f =>
        rw [q2] at e
        refine ⟨hv, vs, F1, pad n l, f, En, q2, ?_⟩
        cases f with
        | nx ρf =>
          dsimp only at e
          cases q3 : back ρf 0 rs2 ρ2 with
          | none => rw [q3] at e; cases e
          | some ρ3' =>
            rw [q3] at e; cases e
            intro σf F2 H2 Sf Rf
            obtain ⟨R3, S3, _⟩ := behind R1 A1 q1 nd Sf Rf q3
            exact k .non F2 H2 (S1.trans S3) R3 .non
        | rt r ρf =>
          dsimp only at e
          cases q4 : ret ρf r with
          | none => rw [q4] at e; cases e
          | some r2 =>
            rw [q4] at e
            dsimp only at e
            cases q3 : back ρf 0 rs2 ρ2 with
            | none => rw [q3] at e; cases e
            | some ρ3' =>
              rw [q3] at e; cases e
              intro v σf F2 H2 Sf Rf y
              obtain ⟨R3, S3, ob⟩ := behind R1 A1 q1 nd Sf Rf q3
              exact k v F2 H2 (S1.trans S3) R3 ((ret_ok R1 A1 q1 Sf Rf y q4 ob).low S1.there)
        | bk ρf => cases e
        | ct ρf => cases e
/-- f(e, ..), the defaults dfs behind -/
def mFn' (np n : Nat) (m : Sl → Option Fl) (ms : List Bool) (dfs : List D) (ma : Sl → Option (List RV × Sl)) : Sl → Option (RV × Sl) := fun ρ =>
  match ma ρ with
  | none => none
  | some (rs, ρ1) => mFnA np n m ms (rs ++ dfs.map .val) ρ1
theorem RepAs.app : ∀ {rs : List RV} {vs dvs : List V} {dfs : List D}, RepAs K F σ ρ vs rs → RpAll K F dvs dfs → RepAs K F σ ρ (vs ++ dvs) (rs ++ dfs.map .val)
  | [], [], [], [], _, _ => trivial
  | [], [], v :: vs, d :: ds, _, .cons h t => ⟨h, RepAs.app (rs := []) (vs := []) trivial t⟩
  | [], _ :: _, _, _, h, _ => h.elim
  | _ :: _, [], _, _, h, _ => h.elim
  | r :: rs, v :: vs, _, _, ⟨h1, h2⟩, t => ⟨h1, h2.app t⟩
theorem ev_fn {x : Str} {p pos : Pos} {e : Expr} {es : List Expr} {f : Addr} {fd : FuncData} {k : Nat} {ps : List Str} {np n : Nat} {m : Sl → Option Fl} {ds : List Value} {dvs : List V} {ma : Sl → Option (List RV × Sl)} (ms : List Bool) (dfs : List D)
    (G : FnOk X.prog X.w X.K X.mg X.base CX0 k f fd ps (spF X.K X.w np n m)) (hr : Room k X.A) (hg : Gl X x) (hm : X.mg x = some (.ref f)) (hk : PySem.W.keepIn X.K (.ref f) = true) (hb : Binds X.K fd ps ds) (hd : Vals dvs ds) (hdf : ∀ F, RpAll X.K F dvs dfs) (ha : EvA X (e :: es) ma)
    (hdb : (x == ("__debug__" : Str)) = false := by decide) (he : starEach (e :: es) X.env = (false, eval e X.env) :: starEach es X.env := by rfl) (hpl : (backTo pos (starEach es X.env)).any (·.1) = false := by rfl) :
    EvE X (.Call (.Name x p) (e :: es) [] pos) (mFn' np n m ms dfs ma) := by
  refine ⟨(pe_call G hr hg hm hk hb hd pass0 ha.pa hdb he hpl).imp fun σ H Q ⟨as, F, ρ, r, ρ', R, eq, kk⟩ => ?_⟩
  unfold mFn' at eq
  cases q : ma ρ with
  | none => rw [q] at eq; cases eq
  | some p =>
    obtain ⟨rs, ρ1⟩ := p
    rw [q] at eq
    exact ⟨as, F, ρ, rs, ρ1, R, q, fun vs F1 H1 S1 R1 A1 => fnA_ok S1 R1 (A1.app (hdf F1)) eq kk⟩
theorem ev_fn0 {x : Str} {p pos : Pos} {f : Addr} {fd : FuncData} {k : Nat} {ps : List Str} {np n : Nat} {m : Sl → Option Fl} {ds : List Value} {dvs : List V} (ms : List Bool) (dfs : List D)
    (G : FnOk X.prog X.w X.K X.mg X.base CX0 k f fd ps (spF X.K X.w np n m)) (hr : Room k X.A) (hg : Gl X x) (hm : X.mg x = some (.ref f)) (hk : PySem.W.keepIn X.K (.ref f) = true) (hb : Binds X.K fd ps ds) (hd : Vals dvs ds) (hdf : ∀ F, RpAll X.K F dvs dfs)
    (hdb : (x == ("__debug__" : Str)) = false := by decide) :
    EvE X (.Call (.Name x p) [] [] pos) (mFn' np n m ms dfs mNil) := by
  refine ⟨(pe_call0 G hr hg hm hk hb hd pass0 hdb).imp fun σ H Q ⟨as, F, ρ, r, ρ', R, eq, kk⟩ => ?_⟩
  exact fnA_ok (E := E0) (rs := dfs.map .val) (vs := [] ++ dvs) .refl R (RepAs.app (rs := []) (vs := []) trivial (hdf F)) eq kk

/-- a def keeps the promise of its body's plain function -/
theorem fn_ok {P : Program} {mg : Str → Option Value} {base : Heap} {x qual : Str} {params : Arguments} {body : List Stmt} {scope : Scope} {dvs : List V} {kws : List (Str × V)} {f : Addr} {fd : FuncData} {N ps : List Str} {k : Nat} {m : Sl → Option Fl}
    (G : FunD K x qual params body scope dvs kws f fd) (S : FnScope N ps scope)
    (hbody : ∀ (cdv : Value) (A : Around) (outer : List PySem.Env) (s : Shared) (H : Hp) (E : XK), Room k (A.deeper (envOfC qual scope s.heap.objs.size f cdv)) → EvSs (cxOf CX0 P w K mg base N qual scope f cdv A outer s H E).nox body m) :
    FnOk P w K mg base CX0 (k + 1) f fd ps (spF K w ps.length N.length m) :=
  G.ok S (fun vs H Q E h => h.1) (fun cdv A outer s H vs Q E hr h => ⟨_, ((hbody cdv A outer s H E hr).ps).nox, h.2⟩)
end
end Wk
set_option Elab.async false
set_option linter.all false
set_option maxRecDepth 100000
set_option maxHeartbeats 4000000
namespace Wk
open PySem PySem.Spec PyProof.Rows L2
section
variable {K : PySem.W.Frag} {w : World} {as : List V} {F H F1 H1 F2 H2 F' H' : Hp} {σ σ1 σ2 σ' : Stt} {ρ ρ1 ρ2 ρ' : Sl} {X : Cx}
/-! ### targets -/
def tG (K : PySem.W.Frag) (w : World) (is : List Nat) (g : D → Sl → Option Sl) : TG := fun v σ H Q => ∃ as F ρ d ρ', Rep K w as F H σ ρ ∧ Rp K F v d ∧ g d ρ = some ρ' ∧
  ∀ σ', Step F H σ ρ F H σ' ρ' → Rep K w as F H σ' ρ' → (∀ j, j ∉ is → σ'[j]? = σ[j]?) → σ'.length = σ.length → Q σ' H
def tGs (K : PySem.W.Frag) (w : World) (is : List Nat) (g : List D → Sl → Option Sl) : TGs := fun vs σ H Q => ∃ as F ρ ds ρ', Rep K w as F H σ ρ ∧ RpAll K F vs ds ∧ g ds ρ = some ρ' ∧
  ∀ σ', Step F H σ ρ F H σ' ρ' → Rep K w as F H σ' ρ' → (∀ j, j ∉ is → σ'[j]? = σ[j]?) → σ'.length = σ.length → Q σ' H
structure EvG (X : Cx) (tg : Expr) (is : List Nat) (g : D → Sl → Option Sl) : Prop where
  pg : PG X tg (tG X.K X.w is g)
structure EvGs (X : Cx) (tg : List Expr) (is : List Nat) (g : List D → Sl → Option Sl) : Prop where
  pg : PGs X tg (tGs X.K X.w is g)
theorem _root_.L2.PG.imp {e : Expr} {t t' : TG} (h : PG X e t) (i : ∀ v σ H Q, t' v σ H Q → t v σ H Q) : PG X e t' := ⟨fun pins s σ H v u Q I r q => h.run pins s σ H v u Q I r (i _ _ _ _ q)⟩
theorem _root_.L2.PGs.imp {e : List Expr} {t t' : TGs} (h : PGs X e t) (i : ∀ v σ H Q, t' v σ H Q → t v σ H Q) : PGs X e t' := ⟨fun pins s σ H v u Q I r q => h.run pins s σ H v u Q I r (i _ _ _ _ q)⟩
def gNm (i : Nat) : D → Sl → Option Sl := fun d ρ => if i < ρ.length then some (ρ.set i (.val d)) else none
def gsNil : List D → Sl → Option Sl := fun ds ρ => match ds with | [] => some ρ | _ => none
def gsCons (g : D → Sl → Option Sl) (gs : List D → Sl → Option Sl) : List D → Sl → Option Sl := fun ds ρ => match ds with
  | [] => none
  | d :: ds => match g d ρ with
    | none => none
    | some ρ1 => gs ds ρ1
def gTp (n : Nat) (gs : List D → Sl → Option Sl) : D → Sl → Option Sl := fun d ρ => match d with
  | .tuple ds => if ds.length = n then gs ds ρ else none
  | _ => none
theorem eg_nm {i : Nat} {x : Str} {pos : Pos} (h : PG X (.Name x pos) (gName i)) : EvG X (.Name x pos) [i] (gNm i) := by
  refine ⟨h.imp fun v σ H Q ⟨as, F, ρ, d, ρ', R, r, e, k⟩ => ?_⟩
  unfold gNm at e
  split at e
  case isFalse => cases e
  rename_i hi
  cases e
  refine k _ (Step.refl.put R hi fun _ _ _ z => nomatch z) (R.put hi ⟨v, rfl, r⟩ fun _ _ _ z => nomatch z) (fun j hj => ?_) (by rw [List.length_set])
  have : i ≠ j := fun e => hj (by rw [e]; exact List.mem_singleton.mpr rfl)
  rw [List.getElem?_set_ne this]
theorem egs_nil : EvGs X [] [] gsNil := by
  refine ⟨pgs_nil.imp fun v σ H Q ⟨as, F, ρ, ds, ρ', R, r, e, k⟩ => ?_⟩
  cases r with
  | nil => cases e; exact ⟨rfl, k σ .refl R (fun _ _ => rfl) rfl⟩
  | cons _ _ => cases e
theorem egs_cons {e : Expr} {es : List Expr} {is js : List Nat} {g : D → Sl → Option Sl} {gs : List D → Sl → Option Sl} (h1 : EvG X e is g) (h2 : EvGs X es js gs)
    (hs : (assignEach (e :: es) X.env).map (·.2) = assign e X.env :: (assignEach es X.env).map (·.2) := by rfl) : EvGs X (e :: es) (is ++ js) (gsCons g gs) := by
  refine ⟨(pgs_cons h1.pg h2.pg hs).imp fun v σ H Q ⟨as, F, ρ, ds, ρ', R, r, e, k⟩ => ?_⟩
  cases r with
  | nil => cases e
  | @cons v vs d ds r rr =>
    unfold gsCons at e
    dsimp only at e
    cases q : g d ρ with
    | none => rw [q] at e; cases e
    | some ρ1 =>
      rw [q] at e
      refine ⟨v, vs, rfl, as, F, ρ, d, ρ1, R, r, q, fun σ1 S1 R1 k1 l1 => ⟨as, F, ρ1, ds, ρ', R1, rr, e, fun σ2 S2 R2 k2 l2 => ?_⟩⟩
      exact k σ2 (S1.trans S2) R2 (fun j hj => (k2 j fun z => hj (List.mem_append_right _ z)).trans (k1 j fun z => hj (List.mem_append_left _ z))) (l2.trans l1)
theorem eg_tp {es : List Expr} {kk : Nat} {pos : Pos} {n : Nat} {is : List Nat} {gs : List D → Sl → Option Sl} (hc : X.calm = true) (h : EvGs X es is gs) (hn : (assignEach es X.env).length = n := by rfl) (hst : (assignEach es X.env).findIdx? (·.1) = none := by rfl) :
    EvG X (.Tuple es kk pos) is (gTp n gs) := by
  refine ⟨(pg_tup hc h.pg hn hst).imp fun v σ H Q ⟨as, F, ρ, d, ρ', R, r, e, k⟩ => ?_⟩
  unfold gTp at e
  cases d with
  | tuple ds =>
    dsimp only at e
    split at e
    case isFalse => cases e
    rename_i hl
    cases r with
    | tup q1 q2 => exact ⟨_, _, rfl, Same.sqt R.sub q1, by rw [q2.length]; exact hl, as, F, ρ, ds, ρ', R, q2, e, k⟩
  | _ => cases e
/-- a, b = e -/
def mUnp (g : D → Sl → Option Sl) (m : Sl → Option (RV × Sl)) : Sl → Option Fl := fun ρ => match m ρ with
  | none => none
  | some (r, ρ1) => match cold r ρ1 with
    | none => none
    | some (d, ρ2) => match g d ρ2 with
      | none => none
      | some ρ3 => some (.nx ρ3)
theorem es_unp {tg e : Expr} {pos : Pos} {is : List Nat} {g : D → Sl → Option Sl} {m : Sl → Option (RV × Sl)} (he : EvE X e m) (hg : EvG X tg is g) (hs : swapsWithSole [tg] e pos.line X.env = pure false := by rfl) (hw : swappedStores [tg] e X.env = pure none := by rfl)
    (h1 : (assignEach [tg] X.env).map (·.2) = [assign tg X.env] := by rfl) : EvS X (.Assign [tg] e pos) (mUnp g m) := by
  refine ⟨(ps_asg he.pe hg.pg hs hw h1).imp fun Dn σ H ⟨as, F, ρ, f, R, e, k⟩ => ?_⟩
  unfold mUnp at e
  cases q : m ρ with
  | none => rw [q] at e; cases e
  | some p =>
    obtain ⟨r, ρ1⟩ := p
    rw [q] at e
    dsimp only at e
    cases q1 : Wk.cold r ρ1 with
    | none => rw [q1] at e; cases e
    | some p1 =>
      obtain ⟨d, ρ2⟩ := p1
      rw [q1] at e
      dsimp only at e
      cases q2 : g d ρ2 with
      | none => rw [q2] at e; cases e
      | some ρ3 =>
        rw [q2] at e
        cases e
        refine ⟨as, F, ρ, r, ρ1, R, q, fun v F1 H1 S1 R1 y => ?_⟩
        obtain ⟨F2, R2, S2, y2, _⟩ := y.cold S1 R1 q1
        exact ⟨as, F2, ρ2, d, ρ3, R2, y2, q2, fun σ' S3 R3 _ _ => k σ' F2 H1 (S2.trans S3) R3⟩

/-! ### what is walked -/
structure Walks (K : PySem.W.Frag) (F : Hp) (J : It) (ds : List D) : Prop where
  go : ∀ i H, Same F H → i < ds.length → J.go i H
  stop : ∀ H, Same F H → J.stop ds.length H
  yld : ∀ i d Fc H x H', ds[i]? = some d → Same F Fc → Same Fc H → J.yld i H x H' → ∃ F', Same Fc F' ∧ (∀ b o, F' b = some o → Fc b = some o ∨ H b = none) ∧ Same H H' ∧ (∀ b, H' b = none → H b = none) ∧ Same F' H' ∧ Rp K F' x d
def tI (K : PySem.W.Frag) (w : World) (bd : Bool) (m : Sl → Option (List D × Sl)) : TI := fun σ H R => ∃ as F ρ ds ρ', Rep K w as F H σ ρ ∧ m ρ = some (ds, ρ') ∧
  ∀ J F' H', Step F H σ ρ F' H' σ ρ' → Rep K w as F' H' σ ρ' → Walks K F' J ds → (bd = true → ds.length ≤ sizeLine) → R J H'
structure EvI (X : Cx) (tg iter : Expr) (bd : Bool) (m : Sl → Option (List D × Sl)) : Prop where
  pi : PI X tg iter (tI X.K X.w bd m)
theorem _root_.L2.PI.imp {tg e : Expr} {t t' : TI} (h : PI X tg e t) (i : ∀ σ H Q, t' σ H Q → t σ H Q) : PI X tg e t' := ⟨fun pins s σ H Q I q => h.run pins s σ H Q I (i _ _ _ q)⟩
/-- a list or a tuple -/
def iSeq (K : PySem.W.Frag) (tl : TE) : TI := fun σ H R => tl σ H fun x H1 => ∃ a, x = .ref a ∧ ((∃ xs, SqL K H1 a xs ∧ (xs.length ≤ sizeLine → R (Itl K a) H1)) ∨ ∃ xs, SqT K H1 a xs ∧ (xs.length ≤ sizeLine → R (Itt K a) H1))
theorem pi_seq {tg l : Expr} {tl : TE} (hl : PE X l tl) : PI X tg l (iSeq X.K tl) := by
  refine ⟨fun pins s σ H R I h => ?_⟩
  refine thn (hl.run pins s σ H _ I h) fun v s1 ⟨x, H1, I1, r1, q1⟩ => ?_
  obtain ⟨a, e, q1⟩ := q1
  subst e
  cases r1
  rcases q1 with ⟨xs, hq, q⟩ | ⟨xs, hq, q⟩
  · obtain ⟨its, rv, p, hz⟩ := I1.list hq
    refine wpAny_pyIter_list p.isList ?_
    refine ⟨s1.heap.objs.size, [s1.heap.objs.size], _, _, H1, rfl, I1.kept (t' := s1.toks) fun b o e => Heap.get?_push_of_some _ e, turn_list a _, ⟨_, Heap.get?_push_size _ rfl, rfl, rfl⟩, fun b hb => ?_, q hz⟩
    have e : b = s1.heap.objs.size := by simpa using hb
    subst e
    exact I1.fpOk (Nat.le_refl _) (I1.hok.fresh (Nat.le_refl _))
  · obtain ⟨its, rv, p, hz⟩ := I1.tuple hq
    refine wpAny_pyIter_tuple (show s1.heap.IsTuple a its.toArray from p) ?_
    refine ⟨s1.heap.objs.size, [s1.heap.objs.size], _, _, H1, rfl, I1.kept (t' := s1.toks) fun b o e => Heap.get?_push_of_some _ e, turn_tuple a _, ⟨_, Heap.get?_push_size _ rfl, rfl, rfl⟩, fun b hb => ?_, q hz⟩
    have e : b = s1.heap.objs.size := by simpa using hb
    subst e
    exact I1.fpOk (Nat.le_refl _) (I1.hok.fresh (Nat.le_refl _))
theorem walks_list {a : Addr} {vs : List V} {ds : List D} (h : F a = some (.lst vs)) (r : RpAll K F vs ds) : Walks K F (Itl K a) ds where
  go := fun i H s hi => by
    obtain ⟨v, q, _⟩ := r.get (List.getElem?_eq_getElem hi)
    exact ⟨vs, v, SqL.of (s _ _ h), q⟩
  stop := fun H s => ⟨vs, SqL.of (s _ _ h), by rw [r.length]; exact Nat.le_refl _⟩
  yld := fun i d Fc H x H' hd s1 s2 y => by
    obtain ⟨rfl, y⟩ := y
    obtain ⟨v, q, rv⟩ := r.get hd
    have e := y vs (SqL.of (s2 _ _ (s1 _ _ h)))
    rw [q] at e; cases e
    exact ⟨Fc, Same.refl _, fun _ _ q => .inl q, Same.refl _, fun _ q => q, s2, rv.up s1⟩
theorem walks_tup {a : Addr} {vs : List V} {ds : List D} (h : SqT K F a vs) (r : RpAll K F vs ds) : Walks K F (Itt K a) ds where
  go := fun i H s hi => by
    obtain ⟨v, q, _⟩ := r.get (List.getElem?_eq_getElem hi)
    exact ⟨vs, v, Same.sqt s h, q⟩
  stop := fun H s => ⟨vs, Same.sqt s h, by rw [r.length]; exact Nat.le_refl _⟩
  yld := fun i d Fc H x H' hd s1 s2 y => by
    obtain ⟨rfl, y⟩ := y
    obtain ⟨v, q, rv⟩ := r.get hd
    have e := y vs (Same.sqt s2 (Same.sqt s1 h))
    rw [q] at e; cases e
    exact ⟨Fc, Same.refl _, fun _ _ q => .inl q, Same.refl _, fun _ q => q, s2, rv.up s1⟩
def mIter (m : Sl → Option (RV × Sl)) : Sl → Option (List D × Sl) := fun ρ => match m ρ with
  | none => none
  | some (r, ρ1) => match cold r ρ1 with
    | some (.list ds, ρ2) => some (ds, ρ2)
    | some (.tuple ds, ρ2) => some (ds, ρ2)
    | _ => none
theorem ei_seq {tg e : Expr} {bd : Bool} {m : Sl → Option (RV × Sl)} (h : EvE X e m) : EvI X tg e bd (mIter m) := by
  refine ⟨(pi_seq h.pe).imp fun σ H Q ⟨as, F, ρ, ds, ρ', R, e, k⟩ => ?_⟩
  unfold mIter at e
  cases q : m ρ with
  | none => rw [q] at e; cases e
  | some p =>
    obtain ⟨r, ρ1⟩ := p
    rw [q] at e
    dsimp only at e
    refine ⟨as, F, ρ, r, ρ1, R, q, fun v F1 H1 S1 R1 y => ?_⟩
    cases q1 : Wk.cold r ρ1 with
    | none => rw [q1] at e; cases e
    | some p1 =>
      obtain ⟨d, ρ2⟩ := p1
      rw [q1] at e
      obtain ⟨F2, R2, S2, y2, _⟩ := y.cold S1 R1 q1
      cases d with
      | list ds' =>
        cases e
        cases y2 with
        | lst h1 h2 => exact ⟨_, rfl, .inl ⟨_, SqL.of (R2.sub _ _ h1), fun hz => k _ F2 H1 S2 R2 (walks_list h1 h2) fun _ => by rw [← h2.length]; exact hz⟩⟩
      | tuple ds' =>
        cases e
        cases y2 with
        | tup h1 h2 => exact ⟨_, rfl, .inr ⟨_, Same.sqt R2.sub h1, fun hz => k _ F2 H1 S2 R2 (walks_tup h1 h2) fun _ => by rw [← h2.length]; exact hz⟩⟩
      | _ => cases e
/-- range -/
def rangeD (lo : Int) (n : Nat) : List D := (List.range n).map fun (i : Nat) => .int (lo + i)
theorem rangeD_len (lo : Int) (n : Nat) : (rangeD lo n).length = n := by unfold rangeD; rw [List.length_map, List.length_range]
theorem walks_range (lo : Int) (n : Nat) : Walks K F (Itr lo n) (rangeD lo n) where
  go := fun i H s hi => by rw [rangeD_len] at hi; exact hi
  stop := fun H s => by rw [rangeD_len]; exact Nat.le_refl _
  yld := fun i d Fc H x H' hd s1 s2 y => by
    obtain ⟨rfl, rfl⟩ := y
    unfold rangeD at hd
    rw [List.getElem?_map] at hd
    cases e : (List.range n)[i]? with
    | none => rw [e] at hd; cases hd
    | some j =>
      rw [e] at hd
      have ej : j = i := by
        have := List.getElem?_range (n := n) (i := i) (by have := (List.getElem?_eq_some_iff.mp e).1; rw [List.length_range] at this; exact this)
        rw [e] at this; cases this; rfl
      cases hd
      subst ej
      exact ⟨Fc, Same.refl _, fun _ _ q => .inl q, Same.refl _, fun _ q => q, s2, .int _⟩
noncomputable def mRng1 (bd : Bool) (ma : Sl → Option (List RV × Sl)) : Sl → Option (List D × Sl) := fun ρ => match ma ρ with
  | some ([.val (.int j)], ρ1) => iteC (-(2 ^ 62) ≤ j ∧ j < 2 ^ 62 ∧ (bd = true → j.toNat ≤ sizeLine)) (some (rangeD 0 j.toNat, ρ1)) none
  | _ => none
noncomputable def mRng2 (bd : Bool) (ma : Sl → Option (List RV × Sl)) : Sl → Option (List D × Sl) := fun ρ => match ma ρ with
  | some ([.val (.int i), .val (.int j)], ρ1) => iteC ((-(2 ^ 62) ≤ i ∧ i < 2 ^ 62 ∧ -(2 ^ 62) ≤ j ∧ j < 2 ^ 62) ∧ (bd = true → (j - i).toNat ≤ sizeLine)) (some (rangeD i (j - i).toNat, ρ1)) none
  | _ => none
theorem RepAs.one {v : RV} {vs : List V} (h : RepAs K F σ ρ vs [v]) : ∃ x, vs = [x] ∧ RepAs K F σ ρ [x] [v] := by
  cases vs with
  | nil => exact h.elim
  | cons x r => cases r with
    | nil => exact ⟨x, rfl, h⟩
    | cons _ _ => exact h.2.elim
theorem RepAs.two {v u : RV} {vs : List V} (h : RepAs K F σ ρ vs [v, u]) : ∃ x y, vs = [x, y] ∧ RepAs K F σ ρ [x] [v] ∧ RepAs K F σ ρ [y] [u] := by
  cases vs with
  | nil => exact h.elim
  | cons x r => cases r with
    | nil => exact h.2.elim
    | cons y r => cases r with
      | nil => exact ⟨x, y, rfl, ⟨h.1, trivial⟩, ⟨h.2.1, trivial⟩⟩
      | cons _ _ => exact h.2.2.elim
theorem ei_range1 {tg a : Expr} {p pos : Pos} {bd : Bool} {ma : Sl → Option (List RV × Sl)} (hg : Gl X "range") (hm : X.mg "range" = none) (ha : EvA X [a] ma) (hs : starEach [a] X.env = [(false, eval a X.env)] := by rfl) : EvI X tg (.Call (.Name "range" p) [a] [] pos) bd (mRng1 bd ma) := by
  refine ⟨(pi_range1 hg hm ha.pa hs).imp fun σ H Q ⟨as, F, ρ, ds, ρ', R, e, k⟩ => ?_⟩
  unfold mRng1 at e
  split at e
  · rename_i j ρ1 q
    unfold iteC at e
    split at e
    case isFalse => cases e
    rename_i hc
    cases e
    refine ⟨as, F, ρ, _, _, R, q, fun vs F1 H1 S1 R1 y => ?_⟩
    obtain ⟨x, rfl, y⟩ := y.one
    have y1 : Rp X.K F1 x (.int j) := y.1
    cases y1
    exact ⟨j, rfl, hc.1, hc.2.1, k _ F1 H1 S1 R1 (walks_range 0 j.toNat) fun hb => by rw [rangeD_len]; exact hc.2.2 hb⟩
  · cases e
theorem ei_range2 {tg a b : Expr} {p pos : Pos} {bd : Bool} {ma : Sl → Option (List RV × Sl)} (hg : Gl X "range") (hm : X.mg "range" = none) (ha : EvA X [a, b] ma) (hs : starEach [a, b] X.env = [(false, eval a X.env), (false, eval b X.env)] := by rfl) (hs2 : starEach [b] X.env = [(false, eval b X.env)] := by rfl) : EvI X tg (.Call (.Name "range" p) [a, b] [] pos) bd (mRng2 bd ma) := by
  refine ⟨(pi_range2 hg hm ha.pa hs hs2).imp fun σ H Q ⟨as, F, ρ, ds, ρ', R, e, k⟩ => ?_⟩
  unfold mRng2 at e
  split at e
  · rename_i i j ρ1 q
    unfold iteC at e
    split at e
    case isFalse => cases e
    rename_i hc
    cases e
    refine ⟨as, F, ρ, _, _, R, q, fun vs F1 H1 S1 R1 y => ?_⟩
    obtain ⟨x, z, rfl, y, y'⟩ := y.two
    have y1 : Rp X.K F1 x (.int i) := y.1
    have y2 : Rp X.K F1 z (.int j) := y'.1
    cases y1
    cases y2
    exact ⟨i, j, rfl, hc.1, k _ F1 H1 S1 R1 (walks_range i (j - i).toNat) fun hb => by rw [rangeD_len]; exact hc.2 hb⟩
  · cases e
/-- zip of two lists or two tuples -/
def zipD : List D → List D → List D
  | x :: xs, y :: ys => .tuple [x, y] :: zipD xs ys
  | _, _ => []
theorem zipD_len : ∀ xs ys : List D, (zipD xs ys).length = min xs.length ys.length
  | [], _ => by simp [zipD]
  | _ :: _, [] => by simp [zipD]
  | x :: xs, y :: ys => by simp [zipD, zipD_len xs ys, Nat.succ_min_succ]
theorem zipD_at : ∀ {xs ys : List D} {i : Nat} {d : D}, (zipD xs ys)[i]? = some d → ∃ x y, xs[i]? = some x ∧ ys[i]? = some y ∧ d = .tuple [x, y]
  | [], _, _, _, h => by simp [zipD] at h
  | _ :: _, [], _, _, h => by simp [zipD] at h
  | x :: xs, y :: ys, 0, d, h => ⟨x, y, rfl, rfl, by simpa [zipD] using h.symm⟩
  | x :: xs, y :: ys, i + 1, d, h => by
    obtain ⟨a, b, h1, h2, h3⟩ := zipD_at (xs := xs) (ys := ys) (i := i) (d := d) (by simpa [zipD] using h)
    exact ⟨a, b, by simpa using h1, by simpa using h2, h3⟩
theorem walks_new {J : It} {ds : List D} {vs : List (V × V)}
    (go : ∀ i H, Same F H → i < ds.length → J.go i H) (stop : ∀ H, Same F H → J.stop ds.length H)
    (yld : ∀ i d H x H', ds[i]? = some d → Same F H → J.yld i H x H' → ∃ T x1 x2 d1 d2, x = .ref T ∧ H T = none ∧ H' = upd H T (.tup [x1, x2]) ∧ d = .tuple [d1, d2] ∧ Rp K F x1 d1 ∧ Rp K F x2 d2) : Walks K F J ds where
  go := go
  stop := stop
  yld := fun i d Fc H x H' hd s1 s2 y => by
    obtain ⟨T, x1, x2, d1, d2, rfl, hT, rfl, rfl, r1, r2⟩ := yld i d H x H' hd (s1.trans s2) y
    have fT : Fc T = none := s2.free hT
    have m : Same Fc (upd Fc T (.tup [x1, x2])) := upd_same_of fT _
    refine ⟨upd Fc T (.tup [x1, x2]), m, fun b o q => ?_, upd_same_of hT _, fun _ => upd_none, fun b o q => ?_, .tup (SqT.of upd_same) (.cons (r1.up (s1.trans m)) (.cons (r2.up (s1.trans m)) .nil))⟩
    · by_cases e : b = T
      · subst e; exact .inr hT
      · rw [upd_ne e] at q; exact .inl q
    · by_cases e : b = T
      · subst e; rw [upd_same] at q ⊢; exact q
      · rw [upd_ne e] at q ⊢; exact s2 b o q
theorem walks_zipL {a b : Addr} {xs ys : List V} {ds es : List D} (ha : F a = some (.lst xs)) (ra : RpAll K F xs ds) (hb : F b = some (.lst ys)) (rb : RpAll K F ys es) : Walks K F (Itz K a b) (zipD ds es) := by
  refine walks_new (vs := []) (fun i H s hi => ?_) (fun H s => ?_) (fun i d H x H' hd s y => ?_)
  · rw [zipD_len] at hi
    obtain ⟨v, q, _⟩ := ra.get (List.getElem?_eq_getElem (show i < ds.length by omega))
    obtain ⟨u, q', _⟩ := rb.get (List.getElem?_eq_getElem (show i < es.length by omega))
    exact ⟨xs, ys, v, u, SqL.of (s _ _ ha), SqL.of (s _ _ hb), q, q'⟩
  · refine ⟨xs, ys, SqL.of (s _ _ ha), SqL.of (s _ _ hb), ?_⟩
    rw [zipD_len, ra.length, rb.length]
    omega
  · obtain ⟨T, x1, x2, rfl, hT, rfl, y1, y2⟩ := y
    obtain ⟨d1, d2, q1, q2, rfl⟩ := zipD_at hd
    obtain ⟨v, q, r⟩ := ra.get q1
    obtain ⟨u, q', r'⟩ := rb.get q2
    have e1 := y1 xs (SqL.of (s _ _ ha))
    have e2 := y2 ys (SqL.of (s _ _ hb))
    rw [q] at e1; cases e1
    rw [q'] at e2; cases e2
    exact ⟨T, _, _, d1, d2, rfl, hT, rfl, rfl, r, r'⟩
theorem walks_zipT {a b : Addr} {xs ys : List V} {ds es : List D} (ha : SqT K F a xs) (ra : RpAll K F xs ds) (hb : SqT K F b ys) (rb : RpAll K F ys es) : Walks K F (RZ.ItzT K a b) (zipD ds es) := by
  refine walks_new (vs := []) (fun i H s hi => ?_) (fun H s => ?_) (fun i d H x H' hd s y => ?_)
  · rw [zipD_len] at hi
    obtain ⟨v, q, _⟩ := ra.get (List.getElem?_eq_getElem (show i < ds.length by omega))
    obtain ⟨u, q', _⟩ := rb.get (List.getElem?_eq_getElem (show i < es.length by omega))
    exact ⟨xs, ys, v, u, Same.sqt s ha, Same.sqt s hb, q, q'⟩
  · refine ⟨xs, ys, Same.sqt s ha, Same.sqt s hb, ?_⟩
    rw [zipD_len, ra.length, rb.length]
    omega
  · obtain ⟨T, x1, x2, rfl, hT, rfl, y1, y2⟩ := y
    obtain ⟨d1, d2, q1, q2, rfl⟩ := zipD_at hd
    obtain ⟨v, q, r⟩ := ra.get q1
    obtain ⟨u, q', r'⟩ := rb.get q2
    have e1 := y1 xs (Same.sqt s ha)
    have e2 := y2 ys (Same.sqt s hb)
    rw [q] at e1; cases e1
    rw [q'] at e2; cases e2
    exact ⟨T, _, _, d1, d2, rfl, hT, rfl, rfl, r, r'⟩
/-- all arguments frozen -/
def mCold (ma : Sl → Option (List RV × Sl)) : Sl → Option (List D × Sl) := fun ρ => match ma ρ with
  | none => none
  | some (rs, ρ1) => match frz (rs.map fun _ => false) rs ρ1 with
    | none => none
    | some (rs2, ρ2) => match rdAll ρ2 rs2 with
      | none => none
      | some ds => some (ds, ρ2)
theorem frz_vals : ∀ {rs rs2 : List RV} {ρ ρ2 : Sl} {ds : List D} {vs : List V}, frz (rs.map fun _ => false) rs ρ = some (rs2, ρ2) → rdAll ρ2 rs2 = some ds → RepAs K F σ ρ2 vs rs2 → RpAll K F vs ds
  | [], _, _, _, _, [], h, e, r => by cases h; cases e; exact .nil
  | [], _, _, _, _, _ :: _, h, e, r => by cases h; exact r.elim
  | r :: rs, rs2, ρ, ρ2, ds, vs, h, e, q => by
    have h' : frz (false :: rs.map fun _ => false) (r :: rs) ρ = some (rs2, ρ2) := h
    unfold frz at h'
    cases q1 : Wk.cold r ρ with
    | none => rw [q1] at h'; cases h'
    | some p =>
      obtain ⟨d, ρ1⟩ := p
      rw [q1] at h'
      dsimp only at h'
      cases q2 : frz (rs.map fun _ => false) rs ρ1 with
      | none => rw [q2] at h'; cases h'
      | some p2 =>
        obtain ⟨rs', ρ2'⟩ := p2
        rw [q2] at h'
        cases h'
        cases vs with
        | nil => exact q.elim
        | cons v vs =>
          obtain ⟨z1, z2⟩ := q
          unfold rdAll at e
          dsimp only [rd] at e
          cases q3 : rdAll ρ2 rs' with
          | none => rw [q3] at e; cases e
          | some ds' =>
            rw [q3] at e
            cases e
            exact .cons z1 (frz_vals q2 q3 z2)
def mZip (ma : Sl → Option (List RV × Sl)) : Sl → Option (List D × Sl) := fun ρ => match mCold ma ρ with
  | some ([.list ds, .list es], ρ1) => some (zipD ds es, ρ1)
  | some ([.tuple ds, .tuple es], ρ1) => some (zipD ds es, ρ1)
  | _ => none
/-- sizes of what stands in the heap -/
def Lim (K : PySem.W.Frag) (H : Hp) : Prop := ∀ a xs, SqL K H a xs ∨ SqT K H a xs → xs.length ≤ sizeLine
theorem lim_of {pins : List (Addr × Obj)} {s : Shared} (I : Inv X pins σ H s) : Lim X.K H := fun a xs h => by
  rcases h with h | h
  · obtain ⟨_, _, _, z⟩ := I.list h; exact z
  · obtain ⟨_, _, _, z⟩ := I.tuple h; exact z
theorem pa_lim {es : List Expr} {t : TA} (h : PA X es t) : PA X es (fun σ H Q => t σ H fun vs H1 => Lim X.K H1 → Q vs H1) := ⟨fun pos pins s σ H Q I q =>
  thn (h.run pos pins s σ H _ I q) fun us s1 ⟨vs, H1, I1, r1, q1⟩ => ⟨vs, H1, I1, r1, q1 (lim_of I1)⟩⟩
theorem pe_lim {e : Expr} {t : TE} (h : PE X e t) : PE X e (fun σ H Q => t σ H fun v H1 => Lim X.K H1 → Q v H1) := ⟨fun pins s σ H Q I q =>
  thn (h.run pins s σ H _ I q) fun us s1 ⟨vs, H1, I1, r1, q1⟩ => ⟨vs, H1, I1, r1, q1 (lim_of I1)⟩⟩
theorem ei_zip {e e2 : Expr} {elts : List Expr} {kk : Nat} {tpos p pos : Pos} {bd : Bool} {ma : Sl → Option (List RV × Sl)} (hg : Gl X "zip") (hm : X.mg "zip" = none) (ha : EvA X [e, e2] ma)
    (hs : starEach [e, e2] X.env = (false, eval e X.env) :: starEach [e2] X.env := by rfl) (hpl : (backTo pos (starEach [e2] X.env)).any (·.1) = false := by rfl) : EvI X (.Tuple elts kk tpos) (.Call (.Name "zip" p) [e, e2] [] pos) bd (mZip ma) := by
  refine ⟨(RZ.pi_zipA hg hm (pa_lim ha.pa) hs hpl).imp fun σ H Q ⟨as, F, ρ, ds, ρ', R, eq, k⟩ => ?_⟩
  have main : ∀ (d1 d2 : D) (ρ1 : Sl), mCold ma ρ = some ([d1, d2], ρ1) → tA' X.K X.w ma σ H fun vs H1 => ∃ F1 x y, Step F H σ ρ F1 H1 σ ρ1 ∧ Rep X.K X.w as F1 H1 σ ρ1 ∧ vs = [x, y] ∧ Rp X.K F1 x d1 ∧ Rp X.K F1 y d2 := fun d1 d2 ρ1 q => by
    unfold mCold at q
    cases q1 : ma ρ with
    | none => rw [q1] at q; cases q
    | some p =>
      obtain ⟨rs, ρa⟩ := p
      rw [q1] at q
      dsimp only at q
      cases q2 : frz (rs.map fun _ => false) rs ρa with
      | none => rw [q2] at q; cases q
      | some p2 =>
        obtain ⟨rs2, ρb⟩ := p2
        rw [q2] at q
        dsimp only at q
        cases q3 : rdAll ρb rs2 with
        | none => rw [q3] at q; cases q
        | some ds' =>
          rw [q3] at q
          cases q
          refine ⟨as, F, ρ, rs, ρa, R, q1, fun vs F1 H1 S1 R1 y => ?_⟩
          obtain ⟨F2, S2, R2, A2, _⟩ := frz_ok S1 R1 y q2
          have rr := frz_vals q2 q3 A2
          cases rr with
          | cons r1 rr => cases rr with
            | cons r2 rr => cases rr; exact ⟨F2, _, _, S2, R2, rfl, r1, r2⟩
  unfold mZip at eq
  split at eq
  · rename_i ds1 es1 ρ1 q
    cases eq
    obtain ⟨as', F', ρx, rs, ρy, R', e', k'⟩ := main _ _ _ q
    refine ⟨as', F', ρx, rs, ρy, R', e', fun vs F1 H1 S1 R1 y lm => ?_⟩
    obtain ⟨F2, x, y2, S2, R2, rfl, r1, r2⟩ := k' vs F1 H1 S1 R1 y
    cases r1 with
    | lst h1 h2 => cases r2 with
      | lst h3 h4 => exact ⟨_, _, _, _, rfl, .inl ⟨SqL.of (R2.sub _ _ h1), SqL.of (R2.sub _ _ h3), k _ F2 H1 S2 R2 (walks_zipL h1 h2 h3 h4) fun _ => by rw [zipD_len]; exact Nat.le_trans (Nat.min_le_left _ _) (by rw [← h2.length]; exact lm _ _ (.inl (SqL.of (R2.sub _ _ h1))))⟩⟩
  · rename_i ds1 es1 ρ1 q
    cases eq
    obtain ⟨as', F', ρx, rs, ρy, R', e', k'⟩ := main _ _ _ q
    refine ⟨as', F', ρx, rs, ρy, R', e', fun vs F1 H1 S1 R1 y lm => ?_⟩
    obtain ⟨F2, x, y2, S2, R2, rfl, r1, r2⟩ := k' vs F1 H1 S1 R1 y
    cases r1 with
    | tup h1 h2 => cases r2 with
      | tup h3 h4 => exact ⟨_, _, _, _, rfl, .inr ⟨Same.sqt R2.sub h1, Same.sqt R2.sub h3, k _ F2 H1 S2 R2 (walks_zipT h1 h2 h3 h4) fun _ => by rw [zipD_len]; exact Nat.le_trans (Nat.min_le_left _ _) (by rw [← h2.length]; exact lm _ _ (.inr (Same.sqt R2.sub h1)))⟩⟩
  · cases eq
end
end Wk
set_option Elab.async false
set_option linter.all false
set_option maxRecDepth 100000
set_option maxHeartbeats 4000000
namespace Wk
open PySem PySem.Spec PyProof.Rows L2
section
variable {K : PySem.W.Frag} {w : World} {as : List V} {F H F1 H1 F2 H2 F' H' : Hp} {σ σ1 σ2 σ' : Stt} {ρ ρ1 ρ2 ρ' : Sl} {X : Cx}
/-! ### for -/
def forL (g : D → Sl → Option Sl) (b : Sl → Option Fl) : List D → Sl → Option Fl
  | [], ρ => some (.nx ρ)
  | d :: ds, ρ => match g d ρ with
    | none => none
    | some ρ1 => match b ρ1 with
      | none => none
      | some (.nx ρ2) => forL g b ds ρ2
      | some (.ct ρ2) => forL g b ds ρ2
      | some (.bk ρ2) => some (.nx ρ2)
      | some (.rt r ρ2) => some (.rt r ρ2)
def mFor (mi : Sl → Option (List D × Sl)) (g : D → Sl → Option Sl) (b : Sl → Option Fl) : Sl → Option Fl := fun ρ => match mi ρ with
  | none => none
  | some (ds, ρ1) => forL g b ds ρ1
theorem es_for {tg iter : Expr} {body : List Stmt} {pos : Pos} {bd : Bool} {is : List Nat} {mi : Sl → Option (List D × Sl)} {g : D → Sl → Option Sl} {b : Sl → Option Fl} (hp : PassesOwn (model X.prog X.w) X.A X.env X.xe) (hc : X.calm = true)
    (hi : EvI X tg iter bd mi) (hg : EvG X tg is g) (hb : EvSs X body b) (hs : ∀ x, foldedSetIterable iter X.env x = pure x := by intro _; rfl) : EvS X (.For tg iter body [] pos) (mFor mi g b) := by
  refine ⟨(ps_for hp hc hi.pi hg.pg hb.ps hs).imp fun Dn σ H ⟨as, F, ρ, f, R, e, k⟩ => ?_⟩
  unfold mFor at e
  cases q : mi ρ with
  | none => rw [q] at e; cases e
  | some p =>
    obtain ⟨ds, ρ1⟩ := p
    rw [q] at e
    dsimp only at e
    refine ⟨as, F, ρ, ds, ρ1, R, q, fun J F1 H1 S1 R1 Wj _ => ?_⟩
    refine ⟨fun i m σi Hi => i + m = ds.length ∧ ∃ Fi ρi, Step F H σ ρ Fi Hi σi ρi ∧ Same F1 Fi ∧ Rep X.K X.w as Fi Hi σi ρi ∧ forL g b (ds.drop i) ρi = some f, ⟨ds.length, by omega, F1, ρ1, S1, Same.refl _, R1, e⟩, fun i m σi Hi hW => ?_⟩
    obtain ⟨em, Fi, ρi, Si, mi', Ri, ei⟩ := hW
    have f1 : Same F1 Hi := mi'.trans Ri.sub
    rcases Nat.lt_or_ge i ds.length with hlt | hge
    · have hd : ds.drop i = ds[i] :: ds.drop (i + 1) := List.drop_eq_getElem_cons hlt
      rw [hd] at ei
      unfold forL at ei
      refine .inr ⟨Wj.go i Hi f1 hlt, fun σ' H' => ∃ Fi ρi, Step F H σ ρ Fi H' σ' ρi ∧ Same F1 Fi ∧ Rep X.K X.w as Fi H' σ' ρi ∧ forL g b (ds.drop (i + 1)) ρi = some f, fun σ' H' hN => ⟨m - 1, by omega, by omega, hN⟩, fun x H' hy => ?_⟩
      obtain ⟨F2, y1, y2, y3, y4, y5, y6⟩ := Wj.yld i ds[i] Fi Hi x H' (List.getElem?_eq_getElem hlt) mi' Ri.sub hy
      obtain ⟨R2, S2⟩ := Ri.grow y1 y2 y3 y4 y5
      cases q2 : g ds[i] ρi with
      | none => rw [q2] at ei; cases ei
      | some ρ2 =>
        rw [q2] at ei
        dsimp only at ei
        refine ⟨as, F2, ρi, ds[i], ρ2, R2, y6, q2, fun σ3 S3 R3 _ _ => ?_⟩
        cases q3 : b ρ2 with
        | none => rw [q3] at ei; cases ei
        | some fl =>
          rw [q3] at ei
          have S03 := Si.trans (S2.trans S3)
          refine ⟨as, F2, ρ2, fl, R3, q3, ?_⟩
          have m3 : Same F1 F2 := mi'.trans y1
          cases fl with
          | nx ρ4 => exact fun σ4 F4 H4 S4 R4 => ⟨F4, ρ4, S03.trans S4, m3.trans S4.mono, R4, ei⟩
          | ct ρ4 => exact fun σ4 F4 H4 S4 R4 => ⟨F4, ρ4, S03.trans S4, m3.trans S4.mono, R4, ei⟩
          | bk ρ4 =>
            cases ei
            exact fun σ4 F4 H4 S4 R4 => k σ4 F4 H4 (S03.trans S4) R4
          | rt r ρ4 =>
            cases ei
            exact fun v σ4 F4 H4 S4 R4 y => k v σ4 F4 H4 (S03.trans S4) R4 (y.low S03.there)
    · have e0 : i = ds.length := by omega
      rw [List.drop_eq_nil_of_le hge] at ei
      unfold forL at ei
      cases ei
      exact .inl ⟨by rw [e0]; exact Wj.stop Hi f1, k σi Fi Hi Si Ri⟩
/-! ### while -/
def whileL (c : Sl → Option (Bool × Sl)) (b : Sl → Option Fl) : Nat → Sl → Option Fl
  | 0, _ => none
  | n + 1, ρ => match c ρ with
    | none => none
    | some (false, ρ1) => some (.nx ρ1)
    | some (true, ρ1) => match b ρ1 with
      | none => none
      | some (.nx ρ2) => whileL c b n ρ2
      | some (.ct ρ2) => whileL c b n ρ2
      | some (.bk ρ2) => some (.nx ρ2)
      | some (.rt r ρ2) => some (.rt r ρ2)
def fuel : Nat := 2 ^ 70
def mWhile (c : Sl → Option (Bool × Sl)) (b : Sl → Option Fl) : Sl → Option Fl := whileL c b fuel
theorem es_while {c : Expr} {body : List Stmt} {pos : Pos} {mc : Sl → Option (Bool × Sl)} {b : Sl → Option Fl} (hp : PassesOwn (model X.prog X.w) X.A X.env X.xe) (hc : EvT X c mc) (hb : EvSs X body b) : EvS X (.While c body [] pos) (mWhile mc b) := by
  refine ⟨(ps_while hp hc.pt hb.ps).imp fun Dn σ H ⟨as, F, ρ, f, R, e, k⟩ => ?_⟩
  unfold mWhile at e
  refine ⟨fun m σi Hi => ∃ Fi ρi, Step F H σ ρ Fi Hi σi ρi ∧ Rep X.K X.w as Fi Hi σi ρi ∧ whileL mc b m ρi = some f, ⟨fuel, F, ρ, .refl, R, e⟩, fun m σi Hi hW => ?_⟩
  obtain ⟨Fi, ρi, Si, Ri, ei⟩ := hW
  cases m with
  | zero => cases ei
  | succ m =>
    unfold whileL at ei
    cases q : mc ρi with
    | none => rw [q] at ei; cases ei
    | some p =>
      obtain ⟨t, ρ1⟩ := p
      rw [q] at ei
      refine ⟨as, Fi, ρi, t, ρ1, Ri, q, fun F1 H1 S1 R1 => ?_⟩
      cases t with
      | false =>
        cases ei
        exact iteF (k σi F1 H1 (Si.trans S1) R1)
      | true =>
        dsimp only at ei
        refine iteT ⟨fun σ' H' => ∃ Fi ρi, Step F H σ ρ Fi H' σ' ρi ∧ Rep X.K X.w as Fi H' σ' ρi ∧ whileL mc b m ρi = some f, fun σ' H' hN => ⟨m, by omega, hN⟩, ?_⟩
        cases q3 : b ρ1 with
        | none => rw [q3] at ei; cases ei
        | some fl =>
          rw [q3] at ei
          have S01 := Si.trans S1
          refine ⟨as, F1, ρ1, fl, R1, q3, ?_⟩
          cases fl with
          | nx ρ4 => exact fun σ4 F4 H4 S4 R4 => ⟨F4, ρ4, S01.trans S4, R4, ei⟩
          | ct ρ4 => exact fun σ4 F4 H4 S4 R4 => ⟨F4, ρ4, S01.trans S4, R4, ei⟩
          | bk ρ4 =>
            cases ei
            exact fun σ4 F4 H4 S4 R4 => k σ4 F4 H4 (S01.trans S4) R4
          | rt r ρ4 =>
            cases ei
            exact fun v σ4 F4 H4 S4 R4 y => k v σ4 F4 H4 (S01.trans S4) R4 (y.low S01.there)

/-! ### slots hidden for a while -/
def hide (ρ : Sl) : List Nat → Sl
  | [] => ρ
  | v :: vs => (hide ρ vs).set v .un
theorem hide_len : ∀ vs : List Nat, (hide ρ vs).length = ρ.length
  | [] => rfl
  | v :: vs => by unfold hide; rw [List.length_set, hide_len vs]
theorem slot_hide {i : Nat} : ∀ {vs : List Nat}, slot (hide ρ vs) i = if i ∈ vs then .un else slot ρ i
  | [] => by simp [hide]
  | v :: vs => by
    unfold hide
    by_cases hv : v < (hide ρ vs).length
    · rw [slot_set hv]
      by_cases e : v = i
      · subst e; simp
      · rw [if_neg e, slot_hide (vs := vs)]
        have e' : i ≠ v := fun z => e z.symm
        simp [e']
    · rw [slot_big (by omega), slot_hide (vs := vs)]
      by_cases e : i = v
      · subst e
        have : slot ρ i = .un := by
          cases z : slot ρ i with
          | un => rfl
          | val d => exact absurd (slot_lt z (fun q => nomatch q)) (by rw [hide_len] at hv; exact hv)
          | own t o => exact absurd (slot_lt z (fun q => nomatch q)) (by rw [hide_len] at hv; exact hv)
        simp [this]
      · simp [e]
theorem place_wipe {i : Nat} : ∀ {vs : List Nat}, place (wipe σ vs) i = if i ∈ vs then none else place σ i
  | [] => by simp [wipe]
  | v :: vs => by
    unfold wipe
    by_cases hv : v < (wipe σ vs).length
    · rw [place_set hv]
      by_cases e : v = i
      · subst e; simp
      · rw [if_neg e, place_wipe (vs := vs)]
        have e' : i ≠ v := fun z => e z.symm
        simp [e']
    · rw [List.set_eq_of_length_le (by omega), place_wipe (vs := vs)]
      by_cases e : i = v
      · subst e
        have : place σ i = none := by
          unfold place
          rw [List.getD_eq_getElem?_getD, List.getElem?_eq_none (by rw [wipe_length] at hv; omega)]
          rfl
        simp [this]
      · simp [e]
theorem own_hide {vs : List Nat} {b : Addr} (h : Own (wipe σ vs) (hide ρ vs) b) : ∃ i t o, i ∉ vs ∧ slot ρ i = .own t o ∧ place σ i = some (.ref b) := by
  obtain ⟨i, t, o, h1, h2⟩ := h
  rw [slot_hide] at h1
  rw [place_wipe] at h2
  by_cases e : i ∈ vs
  · rw [if_pos e] at h1; cases h1
  · rw [if_neg e] at h1 h2; exact ⟨i, t, o, e, h1, h2⟩
theorem Rep.hide (R : Rep K w as F H σ ρ) (vs : List Nat) : Rep K w as F H (wipe σ vs) (hide ρ vs) ∧ Step F H σ ρ F H (wipe σ vs) (hide ρ vs) := by
  refine ⟨⟨by rw [hide_len, wipe_length]; exact R.len, fun i => ?_, fun i j a t o t' o' h1 h2 h3 h4 => ?_, R.sub⟩, ⟨Same.refl _, fun _ _ q => .inl q, fun _ _ q _ => q, fun _ q => q, fun b q => ?_, fun b ⟨i, k, o, h1, h2⟩ => ?_, fun b q z => ?_⟩⟩
  · rw [slot_hide, place_wipe]
    by_cases e : i ∈ vs
    · rw [if_pos e, if_pos e]; trivial
    · rw [if_neg e, if_neg e]; exact R.sl i
  · rw [slot_hide] at h1 h2
    rw [place_wipe] at h3 h4
    by_cases e : i ∈ vs
    · rw [if_pos e] at h1; cases h1
    · by_cases e' : j ∈ vs
      · rw [if_pos e'] at h2; cases h2
      · rw [if_neg e] at h1 h3; rw [if_neg e'] at h2 h4
        exact R.ne _ _ _ _ _ _ _ h1 h2 h3 h4
  · obtain ⟨i, t, o, _, h1, h2⟩ := own_hide q
    exact .inl ⟨i, t, o, h1, h2⟩
  · rw [slot_hide] at h1
    rw [place_wipe] at h2
    by_cases e : i ∈ vs
    · rw [if_pos e] at h1; cases h1
    · rw [if_neg e] at h1 h2; exact ⟨i, k, o, h1, h2⟩
  · obtain ⟨i, t, o, e, h1, h2⟩ := own_hide q
    obtain ⟨j, k, o', z1, z2⟩ := z
    have := R.ne _ _ _ _ _ _ _ h1 z1 h2 z2
    subst this
    rw [z1] at h1; cases h1
    exact .inl ⟨i, k, _, by rw [slot_hide, if_neg e]; exact z1, by rw [place_wipe, if_neg e]; exact h2⟩
/-- the hidden slots come back -/
def mix (ρ0 ρ : Sl) : List Nat → Sl
  | [] => ρ
  | v :: vs => (mix ρ0 ρ vs).set v (slot ρ0 v)
theorem mix_len {ρ0 : Sl} : ∀ vs : List Nat, (mix ρ0 ρ vs).length = ρ.length
  | [] => rfl
  | v :: vs => by unfold mix; rw [List.length_set, mix_len vs]
theorem slot_mix {ρ0 : Sl} (hl : ρ0.length = ρ.length) {i : Nat} : ∀ {vs : List Nat}, slot (mix ρ0 ρ vs) i = if i ∈ vs then slot ρ0 i else slot ρ i
  | [] => by simp [mix]
  | v :: vs => by
    unfold mix
    by_cases hv : v < (mix ρ0 ρ vs).length
    · rw [slot_set hv]
      by_cases e : v = i
      · subst e; simp
      · rw [if_neg e, slot_mix hl (vs := vs)]
        have e' : i ≠ v := fun z => e z.symm
        simp [e']
    · rw [slot_big (by omega), slot_mix hl (vs := vs)]
      by_cases e : i = v
      · subst e
        rw [mix_len] at hv
        have u : ∀ l : Sl, l.length = ρ.length → slot l i = .un := fun l h => by
          cases z : slot l i with
          | un => rfl
          | val d => exact absurd (slot_lt z (fun q => nomatch q)) (by omega)
          | own t o => exact absurd (slot_lt z (fun q => nomatch q)) (by omega)
        simp [u ρ0 hl, u ρ rfl]
      · simp [e]
theorem Rep.unhide {ρ0 : Sl} {vs : List Nat} (R0 : Rep K w as F H σ ρ0) (S : Step F H (wipe σ vs) (Wk.hide ρ0 vs) F' H' (wipe σ vs) (Wk.hide ρ vs)) (R : Rep K w as F' H' (wipe σ vs) (Wk.hide ρ vs)) : Rep K w as F' H' σ (mix ρ0 ρ vs) ∧ Step F H σ ρ0 F' H' σ (mix ρ0 ρ vs) := by
  have hl : ρ0.length = ρ.length := by
    have h1 := R0.len
    have h2 := R.len
    rw [hide_len, wipe_length] at h2
    omega
  have inside : ∀ i t o, i ∉ vs → slot ρ i = .own t o → slot (Wk.hide ρ vs) i = .own t o := fun i t o e h => by rw [slot_hide, if_neg e]; exact h
  have pin : ∀ i, i ∉ vs → place (wipe σ vs) i = place σ i := fun i e => by rw [place_wipe, if_neg e]
  -- an own object of a hidden slot is none of the others, then and now
  have apart : ∀ i t o a, i ∈ vs → slot ρ0 i = .own t o → place σ i = some (.ref a) → ¬ Own (wipe σ vs) (Wk.hide ρ0 vs) a := fun i t o a hi h1 h2 z => by
    obtain ⟨j, t', o', e, z1, z2⟩ := own_hide z
    have := R0.ne _ _ _ _ _ _ _ h1 z1 h2 z2
    subst this
    exact e hi
  have apart' : ∀ i t o a, i ∈ vs → slot ρ0 i = .own t o → place σ i = some (.ref a) → ¬ Own (wipe σ vs) (Wk.hide ρ vs) a := fun i t o a hi h1 h2 z => by
    rcases S.own a z with y | y
    · exact apart i t o a hi h1 h2 y
    · exact (R0.own_there ⟨i, t, o, h1, h2⟩).1 y
  have ownm : ∀ b, Own σ (mix ρ0 ρ vs) b → (∃ i t o, i ∈ vs ∧ slot ρ0 i = .own t o ∧ place σ i = some (.ref b)) ∨ Own (wipe σ vs) (Wk.hide ρ vs) b := fun b ⟨i, t, o, h1, h2⟩ => by
    rw [slot_mix hl] at h1
    by_cases e : i ∈ vs
    · rw [if_pos e] at h1; exact .inl ⟨i, t, o, e, h1, h2⟩
    · rw [if_neg e] at h1; exact .inr ⟨i, t, o, inside i t o e h1, by rw [pin i e]; exact h2⟩
  refine ⟨⟨by rw [mix_len, ← hl]; exact R0.len, fun i => ?_, fun i j a t o t' o' h1 h2 h3 h4 => ?_, R.sub⟩, ⟨S.mono, fun b o q => ?_, fun b o q n => ?_, S.there, fun b q => ?_, fun b ⟨i, k, o, h1, h2⟩ => ?_, fun b q z => ?_⟩⟩
  · rw [slot_mix hl]
    by_cases e : i ∈ vs
    · rw [if_pos e]
      have q := R0.sl i
      cases z : slot ρ0 i with
      | un => trivial
      | val d => rw [z] at q; obtain ⟨v, q1, q2⟩ := q; exact ⟨v, q1, q2.up S.mono⟩
      | own t o =>
        rw [z] at q
        obtain ⟨a, q1, q2, q3, q4⟩ := q
        have nO := apart i t o a e z q1
        refine ⟨a, q1, ?_, q3.mono S.mono fun u hu => S.keep a u hu nO, q4⟩
        cases e2 : F' a with
        | none => rfl
        | some u =>
          rcases S.new a u e2 with y | y | y
          · rw [q2] at y; cases y
          · exact absurd y q3.there
          · exact absurd y.1 nO
    · rw [if_neg e]
      have q := R.sl i
      rw [slot_hide, if_neg e, pin i e] at q
      exact q
  · rw [slot_mix hl] at h1 h2
    by_cases e : i ∈ vs
    · rw [if_pos e] at h1
      by_cases e' : j ∈ vs
      · rw [if_pos e'] at h2; exact R0.ne _ _ _ _ _ _ _ h1 h2 h3 h4
      · rw [if_neg e'] at h2
        exact absurd ⟨j, t', o', inside j t' o' e' h2, by rw [pin j e']; exact h4⟩ (apart' i t o a e h1 h3)
    · rw [if_neg e] at h1
      by_cases e' : j ∈ vs
      · rw [if_pos e'] at h2
        exact absurd ⟨i, t, o, inside i t o e h1, by rw [pin i e]; exact h3⟩ (apart' j t' o' a e' h2 h4)
      · rw [if_neg e'] at h2
        exact R.ne i j a t o t' o' (inside i t o e h1) (inside j t' o' e' h2) (by rw [pin i e]; exact h3) (by rw [pin j e']; exact h4)
  · rcases S.new b o q with y | y | ⟨y1, y2⟩
    · exact .inl y
    · exact .inr (.inl y)
    · refine .inr (.inr ⟨?_, fun ⟨i, k, o', z1, z2⟩ => ?_⟩)
      · obtain ⟨i, t, o', _, z1, z2⟩ := own_hide y1; exact ⟨i, t, o', z1, z2⟩
      · obtain ⟨j, t, o2, ej, x1, x2⟩ := own_hide y1
        have := R0.ne _ _ _ _ _ _ _ z1 x1 z2 x2
        subst this
        exact y2 ⟨i, k, o', by rw [slot_hide, if_neg ej]; exact z1, by rw [pin i ej]; exact z2⟩
  · refine S.keep b o q fun z => ?_
    obtain ⟨i, t, o', _, z1, z2⟩ := own_hide z
    exact n ⟨i, t, o', z1, z2⟩
  · rcases ownm b q with ⟨i, t, o, _, h1, h2⟩ | y
    · exact .inl ⟨i, t, o, h1, h2⟩
    · rcases S.own b y with z | z
      · obtain ⟨i, t, o', _, z1, z2⟩ := own_hide z
        exact .inl ⟨i, t, o', z1, z2⟩
      · exact .inr z
  · rw [slot_mix hl] at h1
    by_cases e : i ∈ vs
    · rw [if_pos e] at h1; exact ⟨i, k, o, h1, h2⟩
    · rw [if_neg e] at h1
      obtain ⟨j, k', o', x1, x2⟩ := S.tag b ⟨i, k, o, inside i _ o e h1, by rw [pin i e]; exact h2⟩
      rw [slot_hide] at x1
      rw [place_wipe] at x2
      by_cases e' : j ∈ vs
      · rw [if_pos e'] at x1; cases x1
      · rw [if_neg e'] at x1 x2; exact ⟨j, k', o', x1, x2⟩
  · obtain ⟨j, k, o', z1, z2⟩ := z
    by_cases e : j ∈ vs
    · exact .inl ⟨j, k, o', by rw [slot_mix hl, if_pos e]; exact z1, z2⟩
    · rcases ownm b q with ⟨i, t, o, ei, h1, h2⟩ | y
      · have := R0.ne _ _ _ _ _ _ _ h1 z1 h2 z2
        subst this
        exact absurd ei e
      · rcases S.tag' b y ⟨j, k, o', by rw [slot_hide, if_neg e]; exact z1, by rw [pin j e]; exact z2⟩ with ⟨i, k2, o2, x1, x2⟩ | x
        · rw [slot_hide] at x1
          rw [place_wipe] at x2
          by_cases e' : i ∈ vs
          · rw [if_pos e'] at x1; cases x1
          · rw [if_neg e'] at x1 x2
            exact .inl ⟨i, k2, o2, by rw [slot_mix hl, if_neg e']; exact x1, x2⟩
        · exact .inr x
end
end Wk
set_option Elab.async false
set_option linter.all false
set_option maxRecDepth 100000
set_option maxHeartbeats 4000000
namespace Wk
open PySem PySem.Spec PyProof.Rows L2
section
variable {K : PySem.W.Frag} {w : World} {as : List V} {F H F1 H1 F2 H2 F' H' : Hp} {σ σ1 σ2 σ' : Stt} {ρ ρ1 ρ2 ρ' : Sl} {X : Cx}
/-! ### list comprehensions -/
def lcL (vs : List Nat) (g : D → Sl → Option Sl) (t : Sl → Option (Bool × Sl)) (e : Sl → Option (RV × Sl)) : List D → List D → Sl → Option (List D × Sl)
  | [], acc, ρ => some (acc, ρ)
  | d :: ds, acc, ρ => match g d (hide ρ vs) with
    | none => none
    | some ρ1 => match t ρ1 with
      | none => none
      | some (false, ρ2) => lcL vs g t e ds acc ρ2
      | some (true, ρ2) => match e ρ2 with
        | none => none
        | some (r, ρ3) => match cold r ρ3 with
          | none => none
          | some (d', ρ4) => lcL vs g t e ds (acc ++ [d']) ρ4
def mLc (vs : List Nat) (mi : Sl → Option (List D × Sl)) (g : D → Sl → Option Sl) (t : Sl → Option (Bool × Sl)) (e : Sl → Option (RV × Sl)) : Sl → Option (RV × Sl) := fun ρ => match mi ρ with
  | none => none
  | some (ds, ρ1) => match lcL vs g t e ds [] ρ1 with
    | none => none
    | some (acc, ρ2) => some (.tmp (.lst acc), mix ρ1 ρ2 vs)
def mYes : Sl → Option (Bool × Sl) := fun ρ => some (true, ρ)
structure EvTs (X : Cx) (ifs : List Expr) (m : Sl → Option (Bool × Sl)) : Prop where
  pt : PTs X ifs (tT' X.K X.w m)
theorem ets_nil : EvTs X [] mYes := ⟨⟨fun pins s σ H Q I ⟨as, F, ρ, b, ρ', R, e, k⟩ => by
  cases e
  exact pts_nil.run pins s σ H Q I (k F H .refl R)⟩⟩
theorem ets_one {c : Expr} {m : Sl → Option (Bool × Sl)} (h : EvT X c m) : EvTs X [c] m := ⟨pts_one h.pt⟩
theorem wipe_eq {σ2 : Stt} {is vs : List Nat} (h : ∀ j, j ∉ is → σ2[j]? = (wipe σ vs)[j]?) (hl : σ2.length = (wipe σ vs).length) (sub : ∀ i ∈ is, i ∈ vs) : wipe σ2 vs = wipe σ vs := by
  apply List.ext_getElem?
  intro j
  have len1 : (wipe σ2 vs).length = σ2.length := wipe_length _ _
  by_cases hj : j ∈ vs
  · have aux : ∀ (τ : Stt) (us : List Nat), j ∈ us → (wipe τ us)[j]? = if j < τ.length then some none else none := by
      intro τ us
      induction us with
      | nil => intro q; cases q
      | cons u us ih =>
        intro q
        unfold wipe
        by_cases e : u = j
        · subst e
          by_cases hl2 : u < τ.length
          · rw [if_pos hl2, List.getElem?_set_self (by rw [wipe_length]; exact hl2)]
          · rw [if_neg hl2, List.getElem?_eq_none (by rw [List.length_set, wipe_length]; omega)]
        · rw [List.getElem?_set_ne e]
          exact ih ((List.mem_cons.mp q).elim (fun z => absurd z.symm e) id)
    rw [aux σ2 vs hj, aux σ vs hj, hl, wipe_length]
  · have aux : ∀ (τ : Stt) (us : List Nat), j ∉ us → (wipe τ us)[j]? = τ[j]? := by
      intro τ us
      induction us with
      | nil => intro _; rfl
      | cons u us ih =>
        intro q
        unfold wipe
        have e : u ≠ j := fun z => q (by rw [z]; exact List.mem_cons_self)
        rw [List.getElem?_set_ne e]
        exact ih fun z => q (List.mem_cons_of_mem _ z)
    rw [aux σ2 vs hj, h j fun z => hj (sub j z)]
/-- the heap without what stands at one place -/
def msk (H : Hp) (a : Addr) : Hp := fun b => if b = a then none else H b
theorem msk_same {a : Addr} : msk H a a = none := by unfold msk; rw [if_pos rfl]
theorem msk_ne {a b : Addr} (h : b ≠ a) : msk H a b = H b := by unfold msk; rw [if_neg h]
theorem msk_some {a b : Addr} {o : HO} (h : msk H a b = some o) : b ≠ a ∧ H b = some o := by
  by_cases e : b = a
  · subst e; rw [msk_same] at h; cases h
  · rw [msk_ne e] at h; exact ⟨e, h⟩
theorem Step.msk {a : Addr} (S : Step F H σ ρ F' H' σ' ρ') (f : F' a = none) : Step F (msk H a) σ ρ F' (msk H' a) σ' ρ' where
  mono := S.mono
  new := fun b o q => by
    rcases S.new b o q with y | y | y
    · exact .inl y
    · refine .inr (.inl ?_)
      by_cases e : b = a
      · subst e; exact msk_same
      · rw [msk_ne e]; exact y
    · exact .inr (.inr y)
  keep := fun b o q n => by
    obtain ⟨e, h⟩ := msk_some q
    rw [msk_ne e]
    exact S.keep b o h n
  there := fun b q => by
    by_cases e : b = a
    · subst e; exact msk_same
    · rw [msk_ne e] at q ⊢; exact S.there b q
  own := fun b q => by
    rcases S.own b q with y | y
    · exact .inl y
    · refine .inr ?_
      by_cases e : b = a
      · subst e; exact msk_same
      · rw [msk_ne e]; exact y
  tag := S.tag
  tag' := fun b q z => by
    rcases S.tag' b q z with y | y
    · exact .inl y
    · refine .inr ?_
      by_cases e : b = a
      · subst e; exact msk_same
      · rw [msk_ne e]; exact y
theorem msk_of {a : Addr} (h : H a = none) : msk H a = H := by
  funext b
  by_cases e : b = a
  · subst e; rw [msk_same, h]
  · rw [msk_ne e]
theorem msk_upd {a : Addr} {o : HO} : msk (upd H a o) a = msk H a := by
  funext b
  by_cases e : b = a
  · subst e; rw [msk_same, msk_same]
  · rw [msk_ne e, msk_ne e, upd_ne e]
theorem Step.unmsk {a : Addr} (S : Step F H σ ρ F' (Wk.msk H' a) σ' ρ') : Step F H σ ρ F' H' σ' ρ' where
  mono := S.mono
  new := S.new
  keep := fun b o q n => (msk_some (S.keep b o q n)).2
  there := fun b q => S.there b (by
    by_cases e : b = a
    · subst e; exact msk_same
    · rw [msk_ne e]; exact q)
  own := S.own
  tag := S.tag
  tag' := S.tag'
theorem Rep.msk {a : Addr} (R : Rep K w as F H σ ρ) (f : F a = none) (n : ¬ Own σ ρ a) : Rep K w as F (msk H a) σ ρ := by
  refine ⟨R.len, fun i => ?_, R.ne, fun b o q => ?_⟩
  · have qj := R.sl i
    cases z : slot ρ i with
    | un => trivial
    | val d => rw [z] at qj; exact qj
    | own t o =>
      rw [z] at qj
      obtain ⟨b, x1, x2, x3, x4⟩ := qj
      refine ⟨b, x1, x2, x3.mono (Same.refl _) fun u hu => ?_, x4⟩
      rw [msk_ne]
      · exact hu
      · intro e; subst e; exact n ⟨i, t, o, z, x1⟩
  · rw [msk_ne (ne_of_none q f)]
    exact R.sub b o q
theorem Rep.unmsk {a : Addr} (R : Rep K w as F (Wk.msk H a) σ ρ) : Rep K w as F H σ ρ := by
  refine ⟨R.len, fun i => ?_, R.ne, fun b o q => (msk_some (R.sub b o q)).2⟩
  have qj := R.sl i
  cases z : slot ρ i with
  | un => trivial
  | val d => rw [z] at qj; exact qj
  | own t o =>
    rw [z] at qj
    obtain ⟨b, x1, x2, x3, x4⟩ := qj
    exact ⟨b, x1, x2, x3.mono (Same.refl _) fun u hu => (msk_some hu).2, x4⟩
theorem tLc_imp {vs is : List Nat} {mi : Sl → Option (List D × Sl)} {g : D → Sl → Option Sl} {t : Sl → Option (Bool × Sl)} {e : Sl → Option (RV × Sl)} {Q : VK} (sub : ∀ i ∈ is, i ∈ vs) (h : tE K w (mLc vs mi g t e) σ H Q) :
    tLc (tI K w true mi) (tG K w is g) (tT' K w t) (tE K w e) vs σ H Q := by
  obtain ⟨as, F, ρ, r, ρ', R, eq, k⟩ := h
  unfold mLc at eq
  cases q : mi ρ with
  | none => rw [q] at eq; cases eq
  | some p =>
    obtain ⟨ds, ρ1⟩ := p
    rw [q] at eq
    dsimp only at eq
    cases q1 : lcL vs g t e ds [] ρ1 with
    | none => rw [q1] at eq; cases eq
    | some p1 =>
      obtain ⟨accF, ρF⟩ := p1
      rw [q1] at eq
      cases eq
      refine ⟨as, F, ρ, ds, ρ1, R, q, fun J F1 H1 S1 R1 Wj lim Dd hD => ?_⟩
      obtain ⟨fD, R1', S1'⟩ := R1.tmp hD (.lst [])
      obtain ⟨Rh, Sh⟩ := R1'.hide vs
      have nO1 : ¬ Own σ ρ1 Dd := fun z => (R1.own_there z).1 hD
      have nOh : ¬ Own (wipe σ vs) (hide ρ1 vs) Dd := fun z => by
        obtain ⟨j, t', o', _, y1, y2⟩ := own_hide z
        exact nO1 ⟨j, t', o', y1, y2⟩
      refine ⟨fun i m Hi => i + m = ds.length ∧ ∃ Fi ρi acc accV, Step F1 H1 (wipe σ vs) (hide ρ1 vs) Fi (msk Hi Dd) (wipe σ vs) (hide ρi vs) ∧ Rep K w as Fi Hi (wipe σ vs) (hide ρi vs) ∧ Hi Dd = some (.lst accV) ∧ Fi Dd = none ∧ ¬ Own (wipe σ vs) (hide ρi vs) Dd ∧ RpAll K Fi accV acc ∧ acc.length ≤ i ∧ lcL vs g t e (ds.drop i) acc ρi = some (accF, ρF),
        ⟨ds.length, by omega, F1, ρ1, [], [], by rw [msk_upd, msk_of hD]; exact .refl, Rh, upd_same, fD, nOh, .nil, Nat.le_refl _, q1⟩, fun i m Hi hW => ?_⟩
      obtain ⟨em, Fi, ρi, acc, accV, Si, Ri, hDi, fDi, nOi, ra, la, ei⟩ := hW
      have notOwn : ∀ {F2 H2 : Hp} {σ2 : Stt} {ρ2 : Sl}, Step Fi Hi (wipe σ vs) (hide ρi vs) F2 H2 σ2 ρ2 → ¬ Own σ2 ρ2 Dd := fun S2 z => by
        rcases S2.own Dd z with y | y
        · exact nOi y
        · rw [hDi] at y; cases y
      have cool : ∀ {F2 H2 : Hp} {σ2 : Stt} {ρ2 : Sl}, Step Fi Hi (wipe σ vs) (hide ρi vs) F2 H2 σ2 ρ2 → F2 Dd = none := fun {F2} _ _ _ S2 => by
        cases z : F2 Dd with
        | none => rfl
        | some u =>
          rcases S2.new Dd u z with y | y | y
          · rw [fDi] at y; cases y
          · rw [hDi] at y; cases y
          · exact absurd y.1 nOi
      have f1 : Same F1 Hi := Si.mono.trans Ri.sub
      rcases Nat.lt_or_ge i ds.length with hlt | hge
      · have hd : ds.drop i = ds[i] :: ds.drop (i + 1) := List.drop_eq_getElem_cons hlt
        rw [hd] at ei
        unfold lcL at ei
        refine .inr ⟨Wj.go i Hi f1 hlt, fun H' => ∃ Fi ρi acc accV, Step F1 H1 (wipe σ vs) (hide ρ1 vs) Fi (msk H' Dd) (wipe σ vs) (hide ρi vs) ∧ Rep K w as Fi H' (wipe σ vs) (hide ρi vs) ∧ H' Dd = some (.lst accV) ∧ Fi Dd = none ∧ ¬ Own (wipe σ vs) (hide ρi vs) Dd ∧ RpAll K Fi accV acc ∧ acc.length ≤ i + 1 ∧ lcL vs g t e (ds.drop (i + 1)) acc ρi = some (accF, ρF),
          fun H' hN => ⟨m - 1, by omega, by omega, hN⟩, fun x H' hy => ?_⟩
        obtain ⟨F2, y1, y2, y3, y4, y5, y6⟩ := Wj.yld i ds[i] Fi Hi x H' (List.getElem?_eq_getElem hlt) Si.mono Ri.sub hy
        obtain ⟨R2, S2⟩ := Ri.grow y1 y2 y3 y4 y5
        cases q2 : g ds[i] (hide ρi vs) with
        | none => rw [q2] at ei; cases ei
        | some ρ2 =>
          rw [q2] at ei
          dsimp only at ei
          refine ⟨as, F2, hide ρi vs, ds[i], ρ2, R2, y6, q2, fun σ3 S3 R3 k3 l3 => ?_⟩
          have we : wipe σ3 vs = wipe σ vs := wipe_eq k3 l3 sub
          refine ⟨we, ?_⟩
          have S03 := S2.trans S3
          cases q3 : t ρ2 with
          | none => rw [q3] at ei; cases ei
          | some p3 =>
            obtain ⟨b, ρ3⟩ := p3
            rw [q3] at ei
            refine ⟨as, F2, ρ2, b, ρ3, R3, q3, fun F4 H4 S4 R4 => ?_⟩
            have S04 := S03.trans S4
            have hD4 : H4 Dd = some (.lst accV) := S4.keep _ _ (y3 _ _ hDi) (notOwn S03)
            cases b with
            | false =>
              refine iteF ?_
              obtain ⟨R5, S5⟩ := R4.hide vs
              rw [we] at R5 S5
              have S05 := S04.trans S5
              exact ⟨F4, ρ3, acc, accV, Si.trans (S05.msk (cool S05)), R5, hD4, cool S05, notOwn S05, ra.up (y1.trans S4.mono), by omega, ei⟩
            | true =>
              refine iteT ?_
              dsimp only at ei
              cases q4 : e ρ3 with
              | none => rw [q4] at ei; cases ei
              | some p4 =>
                obtain ⟨rr, ρ4⟩ := p4
                rw [q4] at ei
                dsimp only at ei
                cases q5 : Wk.cold rr ρ4 with
                | none => rw [q5] at ei; cases ei
                | some p5 =>
                  obtain ⟨d', ρ5⟩ := p5
                  rw [q5] at ei
                  dsimp only at ei
                  refine ⟨as, F4, ρ3, rr, ρ4, R4, q4, fun v F6 H6 S6 R6 y => ?_⟩
                  obtain ⟨F7, R7, S7, y7, m7⟩ := y.cold S6 R6 q5
                  have S07 := S04.trans S7
                  have hD6 : H6 Dd = some (.lst accV) := S6.keep _ _ hD4 (notOwn S04)
                  refine ⟨accV, hD6, by rw [ra.length]; exact Nat.lt_of_le_of_lt la (Nat.lt_of_lt_of_le hlt (lim rfl)), ?_⟩
                  obtain ⟨R8, S8⟩ := R7.hide vs
                  rw [we] at R8 S8
                  have S08 := S07.trans S8
                  have Rg : Rep K w as F7 (upd H6 Dd (.lst (accV ++ [v]))) (wipe σ vs) (hide ρ5 vs) := by
                    refine Rep.unmsk (a := Dd) ?_
                    rw [msk_upd]
                    exact R8.msk (cool S08) (notOwn S08)
                  exact ⟨F7, ρ5, acc ++ [d'], accV ++ [v], by rw [msk_upd]; exact Si.trans (S08.msk (cool S08)), Rg, upd_same, cool S08, notOwn S08, (ra.up ((y1.trans S4.mono).trans (S6.mono.trans m7))).append (.cons y7 .nil), by rw [List.length_append]; show acc.length + 1 ≤ i + 1; omega, ei⟩
      · have e0 : i = ds.length := by omega
        rw [List.drop_eq_nil_of_le hge] at ei
        unfold lcL at ei
        cases ei
        refine .inl ⟨by rw [e0]; exact Wj.stop Hi f1, ?_⟩
        obtain ⟨Ru, Su⟩ := R1.unhide Si (Ri.msk fDi nOi)
        refine k (.ref Dd) Fi Hi (S1.trans Su.unmsk) Ru.unmsk ⟨Dd, rfl, S1.there _ hD, fDi, ⟨accV, hDi, ra⟩, fun z => ?_⟩
        -- Dd is no own object of the frame
        obtain ⟨j, t', o', z1, z2⟩ := z
        obtain ⟨a, x1, _, x3, _⟩ := Ru.own_at z1
        rw [z2] at x1; cases x1
        exact x3.there msk_same
theorem ev_lc {elt tg iter : Expr} {ifs : List Expr} {scope : Scope} {own : List (Str × Nat)} {pos : Pos} {is : List Nat} {mi : Sl → Option (List D × Sl)} {g : D → Sl → Option Sl} {t : Sl → Option (Bool × Sl)} {e : Sl → Option (RV × Sl)} (hc : X.calm = true) (hN : X.N.Nodup)
    (hi : EvI X tg iter true mi) (ok : BlkOk X.N X.env.scope scope own) (sub : ∀ i ∈ is, i ∈ own.map (·.2))
    (hg : ∀ (s : Shared) (H : Hp) (C : Addr) (cl : List (Str × Addr)) (fp : List Addr), EvG (X.blk s H scope (compEnvC scope cl C X.env) fp) tg is g)
    (ht : ∀ (s : Shared) (H : Hp) (C : Addr) (cl : List (Str × Addr)) (fp : List Addr), EvTs (X.blk s H scope (compEnvC scope cl C X.env) fp) ifs t)
    (he : ∀ (s : Shared) (H : Hp) (C : Addr) (cl : List (Str × Addr)) (fp : List Addr), EvE (X.blk s H scope (compEnvC scope cl C X.env) fp) elt e) (hs : ∀ x, foldedSetIterable iter X.env x = pure x := by intro _; rfl) :
    EvE X (.ListComp elt [⟨tg, iter, ifs, 0⟩] scope pos) (mLc (own.map (·.2)) mi g t e) :=
  ⟨(pe_lc hc hN hi.pi ok (fun s H C cl fp => (hg s H C cl fp).pg) (fun s H C cl fp => (ht s H C cl fp).pt) (fun s H C cl fp => (he s H C cl fp).pe) hs).imp fun _ _ _ h => tLc_imp sub h⟩
/-- name = [..] -/
theorem es_setLc {i : Nat} {y : Str} {py : Pos} {elt tg iter : Expr} {ifs : List Expr} {scope : Scope} {own : List (Str × Nat)} {pos spos : Pos} {is : List Nat} {mi : Sl → Option (List D × Sl)} {g : D → Sl → Option Sl} {t : Sl → Option (Bool × Sl)} {e : Sl → Option (RV × Sl)} (hc : X.calm = true) (hN : X.N.Nodup) (hy : X.N[i]? = some y) (hyl : X.env.scope.names.lookup y = some .local)
    (hsw : swapsWith (.ListComp elt [⟨tg, iter, ifs, 0⟩] scope pos) (some (.Name y py)) spos.line X.env = pure true) (hi : EvI X tg iter true mi) (ok : BlkOk X.N X.env.scope scope own) (sub : ∀ i ∈ is, i ∈ own.map (·.2))
    (hg : ∀ (s : Shared) (H : Hp) (C : Addr) (cl : List (Str × Addr)) (fp : List Addr), EvG (X.blk s H scope (compEnvC scope cl C X.env) fp) tg is g)
    (ht : ∀ (s : Shared) (H : Hp) (C : Addr) (cl : List (Str × Addr)) (fp : List Addr), EvTs (X.blk s H scope (compEnvC scope cl C X.env) fp) ifs t)
    (he : ∀ (s : Shared) (H : Hp) (C : Addr) (cl : List (Str × Addr)) (fp : List Addr), EvE (X.blk s H scope (compEnvC scope cl C X.env) fp) elt e) (hs : ∀ x, foldedSetIterable iter X.env x = pure x := by intro _; rfl) :
    EvS X (.Assign [.Name y py] (.ListComp elt [⟨tg, iter, ifs, 0⟩] scope pos) spos) (mSet i (mLc (own.map (·.2)) mi g t e)) :=
  ⟨(ps_setLc hc hN hy hyl hsw hi.pi ok (fun s H C cl fp => (hg s H C cl fp).pg) (fun s H C cl fp => (ht s H C cl fp).pt) (fun s H C cl fp => (he s H C cl fp).pe) hs).imp fun Dn σ H h => by
    obtain ⟨as, F, ρ, f, R, eq, k⟩ := h
    unfold mSet at eq
    cases q : mLc (own.map (·.2)) mi g t e ρ with
    | none => rw [q] at eq; cases eq
    | some p =>
      obtain ⟨r, ρ1⟩ := p
      rw [q] at eq
      dsimp only at eq
      cases q1 : putR i r ρ1 with
      | none => rw [q1] at eq; cases eq
      | some ρ2 =>
        rw [q1] at eq
        cases eq
        refine tLc_imp sub ⟨as, F, ρ, r, ρ1, R, q, fun v F1 H1 S1 R1 y => ?_⟩
        obtain ⟨F2, S2, R2⟩ := y.put S1 R1 q1
        exact k _ F2 H1 S2 R2⟩
end
end Wk
set_option Elab.async false
set_option linter.all false
set_option maxRecDepth 100000
set_option maxHeartbeats 4000000
namespace Wk
open PySem PySem.Spec PyProof.Rows L2
section
variable {K : PySem.W.Frag} {w : World} {as : List V} {F H F1 H1 F2 H2 F' H' : Hp} {σ σ1 σ2 σ' : Stt} {ρ ρ1 ρ2 ρ' : Sl} {X : Cx}
/-! ### operations -/
theorem RdV.int {v : V} {i : Int} (h : RdV K F H v (.int i)) : v = .int i := by
  rcases h with h | ⟨_, _, _, _, e, _⟩
  · cases h; rfl
  · cases e
theorem RdV.str {v : V} {i : Str} (h : RdV K F H v (.str i)) : v = .str i := by
  rcases h with h | ⟨_, _, _, _, e, _⟩
  · cases h; rfl
  · cases e
theorem RdV.bool {v : V} {i : Bool} (h : RdV K F H v (.bool i)) : v = .bl i := by
  rcases h with h | ⟨_, _, _, _, e, _⟩
  · cases h; rfl
  · cases e
theorem RdV.none' {v : V} (h : RdV K F H v .none) : v = .non := by
  rcases h with h | ⟨_, _, _, _, e, _⟩
  · cases h; rfl
  · cases e
def isnD : D → Bool
  | .none => true
  | _ => false
theorem RdV.is_non {v : V} {d : D} (h : RdV K F H v d) : decide (v = .non) = isnD d := by
  rcases h with h | ⟨_, _, _, rfl, rfl, _⟩
  · cases h <;> rfl
  · rfl
theorem new_int {i : Int} : NewV K w F H H (.int i) (.val (.int i)) := .inl ⟨rfl, .int i⟩
theorem new_str {i : Str} : NewV K w F H H (.str i) (.val (.str i)) := .inl ⟨rfl, .str i⟩
theorem new_bl {i : Bool} : NewV K w F H H (.bl i) (.val (.bool i)) := .inl ⟨rfl, .bl i⟩
theorem new_lst {p : Addr} {vs : List V} {ds : List D} (h : H p = none) (r : RpAll K F vs ds) : NewV K w F H (upd H p (.lst vs)) (.ref p) (.tmp (.lst ds)) := ⟨p, _, rfl, h, rfl, vs, upd_same, r⟩
theorem new_tup {p : Addr} {vs : List V} {ds : List D} (s : Same F H) (h : H p = none) (r : RpAll K F vs ds) : NewV K w F H (upd H p (.tup vs)) (.ref p) (.val (.tuple ds)) :=
  .inr ⟨p, _, rfl, h, rfl, .tup (SqT.of upd_same) (r.up (upd_same_of (s.free h) _))⟩
theorem new_old {v : V} {d : D} (r : Rp K F v d) : NewV K w F H H v (.val d) := .inl ⟨rfl, r⟩
theorem RpAll.nil_iff {vs : List V} {ds : List D} (h : RpAll K F vs ds) : vs = [] ↔ ds = [] := by
  cases h with
  | nil => simp
  | cons _ _ => simp

/-- + -/
def addD : D → D → Option RV
  | .int a, .int b => some (.val (.int (a + b)))
  | .str a, .str b => if a.length + b.length ≤ sizeLine then some (.val (.str (a ++ b))) else none
  | .list a, .list b => if a.length + b.length ≤ sizeLine then some (.tmp (.lst (a ++ b))) else none
  | .tuple a, .tuple b => if a.length + b.length ≤ sizeLine then some (.val (.tuple (a ++ b))) else none
  | _, _ => none
def rAddA (K : PySem.W.Frag) : R2 := fun x y H Q => (rI0 (fun i j => .int (i + j)) x y H Q ∨ (∃ i j, x = .str i ∧ y = .str j ∧ i.length + j.length ≤ sizeLine ∧ Q (.str (i ++ j)) H)) ∨ (rCat x y H Q ∨ rCatA K x y H Q)
theorem op_addA : OpR X (binaryOp .Add) (rAddA X.K) := (OpR.or (OpR.or op_add op_add_str) (OpR.or op_cat op_catA))
theorem od_add : OpD K w (rAddA K) addD := by
  intro x y d e F H Q rv sm hx hy he k
  unfold addD at he
  split at he
  · cases he; rw [hx.int, hy.int]; exact .inl (.inl ⟨_, _, rfl, rfl, k _ _ new_int⟩)
  · split at he
    case isFalse => cases he
    rename_i hl
    cases he; rw [hx.str, hy.str]; exact .inl (.inr ⟨_, _, rfl, rfl, hl, k _ _ new_str⟩)
  · split at he
    case isFalse => cases he
    rename_i hl
    cases he
    obtain ⟨a, vs, rfl, ha, ra⟩ := hx.list sm
    obtain ⟨b, us, rfl, hb, rb⟩ := hy.list sm
    exact .inr (.inl ⟨a, b, vs, us, rfl, rfl, ha, hb, by rw [ra.length, rb.length]; exact hl, fun p hp => k _ _ (new_lst hp (ra.append rb))⟩)
  · split at he
    case isFalse => cases he
    rename_i hl
    cases he
    obtain ⟨a, vs, rfl, ha, ra⟩ := hx.tuple sm
    obtain ⟨b, us, rfl, hb, rb⟩ := hy.tuple sm
    refine .inr (.inr ⟨a, b, vs, us, rfl, rfl, Same.sqt sm ha, Same.sqt sm hb, by rw [ra.length, rb.length]; exact hl, fun z => ?_, fun z1 z2 => ?_, fun z1 z2 p hp => k _ _ (new_tup sm hp (ra.append rb))⟩)
    · have e := ra.nil_iff.mp z
      subst e
      exact k _ _ (new_old (.tup hb rb))
    · have e := rb.nil_iff.mp z2
      subst e
      rw [List.append_nil] at k
      exact k _ _ (new_old (.tup ha ra))
  · cases he
/-- two ints -/
def intD (C : Int → Int → Prop) [∀ i j, Decidable (C i j)] (g : Int → Int → Int) : D → D → Option RV
  | .int a, .int b => if C a b then some (.val (.int (g a b))) else none
  | _, _ => none
theorem od_int {C C' : Int → Int → Prop} [∀ i j, Decidable (C i j)] {g : Int → Int → Int} (hC : ∀ i j, C i j → C' i j) : OpD K w (rI C' fun i j => .int (g i j)) (intD C g) := by
  intro x y d e F H Q rv sm hx hy he k
  unfold intD at he
  split at he
  · split at he
    case isFalse => cases he
    rename_i hc
    cases he; rw [hx.int, hy.int]; exact ⟨_, _, rfl, rfl, hC _ _ hc, k _ _ new_int⟩
  · cases he
def subD : D → D → Option RV
  | .int a, .int b => some (.val (.int (a - b)))
  | _, _ => none
theorem od_sub : OpD K w (rI0 fun i j => .int (i - j)) subD := by
  intro x y d e F H Q rv sm hx hy he k
  unfold subD at he
  split at he
  · cases he; rw [hx.int, hy.int]; exact ⟨_, _, rfl, rfl, k _ _ new_int⟩
  · cases he
/-- * : ints; a text or a list times an int -/
def CM (i j : Int) : Prop := i.natAbs < 2 ^ 400000 ∧ j.natAbs < 2 ^ 400000
noncomputable def mulD : D → D → Option RV
  | .int a, .int b => if a.natAbs.log2 + b.natAbs.log2 < 1000000 then some (.val (.int (a * b))) else none
  | .list a, .int b => iteC (-(2 ^ 63) ≤ b ∧ b < 2 ^ 63 ∧ a.length * b.toNat ≤ sizeLine) (some (.tmp (.lst (List.replicate b.toNat a).flatten))) none
  | _, _ => none
theorem RpAll.rep {vs : List V} {ds : List D} (h : RpAll K F vs ds) : ∀ k : Nat, RpAll K F (List.replicate k vs).flatten (List.replicate k ds).flatten
  | 0 => .nil
  | k + 1 => by
    rw [List.replicate_succ, List.replicate_succ, List.flatten_cons, List.flatten_cons]
    exact h.append (RpAll.rep h k)
def rMulA : R2 := fun x y H Q => rI CMulW (fun i j => .int (i * j)) x y H Q ∨ rRep x y H Q
theorem op_mulA : OpR X (binaryOp .Mult) rMulA := OpR.or op_mulW op_rep
theorem od_mul : OpD K w rMulA mulD := by
  intro x y d e F H Q rv sm hx hy he k
  unfold mulD at he
  split at he
  · split at he
    case isFalse => cases he
    rename_i hc
    cases he; rw [hx.int, hy.int]; exact .inl ⟨_, _, rfl, rfl, hc, k _ _ new_int⟩
  · unfold iteC at he
    split at he
    case isFalse => cases he
    rename_i hc
    cases he
    obtain ⟨a, vs, rfl, ha, ra⟩ := hx.list sm
    rw [hy.int]
    exact .inr ⟨a, _, vs, rfl, rfl, ha, hc.1, hc.2.1, by rw [ra.length]; exact hc.2.2, fun p hp => k _ _ (new_lst hp (ra.rep _))⟩
  · cases he
instance (i j : Int) : Decidable (CDivW i j) := by unfold CDivW; infer_instance
def divD : D → D → Option RV := intD CDivW fun i j => i / j
def modD : D → D → Option RV := intD (fun _ j => 0 < j) fun i j => i % j
def CPowW (i j : Int) : Prop := 0 ≤ j ∧ j ≤ 1000000 ∧ i.natAbs < 2 ^ 64

/-! ### comparisons -/
def okD (d : D) : Bool := SeqAt.shaped d
def eqD : D → D → Option RV := fun d e => if (okD d && okD e) = true then some (.val (.bool (PyData.eqv d e))) else none
def neD : D → D → Option RV := fun d e => if (okD d && okD e) = true then some (.val (.bool (!PyData.eqv d e))) else none
theorem od_eq : OpD K w (rEqD K) eqD := by
  intro x y d e F H Q rv sm hx hy he k
  unfold eqD at he
  split at he
  case isFalse => cases he
  rename_i hc
  rw [Bool.and_eq_true] at hc
  cases he
  exact ⟨d, e, (hx.rp sm).dps hc.1, (hy.rp sm).dps hc.2, hc.1, hc.2, k _ _ new_bl⟩
theorem od_ne : OpD K w (rNeD K) neD := by
  intro x y d e F H Q rv sm hx hy he k
  unfold neD at he
  split at he
  case isFalse => cases he
  rename_i hc
  rw [Bool.and_eq_true] at hc
  cases he
  exact ⟨d, e, (hx.rp sm).dps hc.1, (hy.rp sm).dps hc.2, hc.1, hc.2, k _ _ new_bl⟩
def cmpD (p : Int → Int → Bool) : D → D → Option RV
  | .int a, .int b => some (.val (.bool (p a b)))
  | _, _ => none
theorem od_cmp {p : Int → Int → Bool} : OpD K w (rI0 fun i j => .bl (p i j)) (cmpD p) := by
  intro x y d e F H Q rv sm hx hy he k
  unfold cmpD at he
  split at he
  · cases he; rw [hx.int, hy.int]; exact ⟨_, _, rfl, rfl, k _ _ new_bl⟩
  · cases he
/-- e is None -/
def mIsN (neg : Bool) (m : Sl → Option (RV × Sl)) : Sl → Option (RV × Sl) := fun ρ => match m ρ with
  | none => none
  | some (r, ρ1) => match rd ρ1 r with
    | none => none
    | some d => some (.val (.bool (if neg = true then !isnD d else isnD d)), ρ1)
theorem ev_isN {a : Expr} {pos : Pos} {j p'} {m : Sl → Option (RV × Sl)} (ha : EvE X a m) : EvE X (.Compare a [.Is] [.Constant .none j p'] pos) (mIsN false m) := by
  refine ⟨(pe_cmp (pc_isN ha.pe) rfl).imp fun σ H Q ⟨as, F, ρ, r, ρ', R, e, k⟩ => ?_⟩
  unfold mIsN at e
  cases q : m ρ with
  | none => rw [q] at e; cases e
  | some p =>
    obtain ⟨r1, ρ1⟩ := p
    rw [q] at e
    dsimp only at e
    cases q1 : rd ρ1 r1 with
    | none => rw [q1] at e; cases e
    | some d =>
      rw [q1] at e; cases e
      refine ⟨as, F, ρ, r1, _, R, q, fun v F1 H1 S1 R1 y => ?_⟩
      have h := (y.read R1 q1).is_non
      show Q (V.bl (decide (v = V.non))) H1
      rw [h]
      exact k _ F1 H1 S1 R1 (.bl _)
theorem ev_notN {a : Expr} {pos : Pos} {j p'} {m : Sl → Option (RV × Sl)} (ha : EvE X a m) : EvE X (.Compare a [.IsNot] [.Constant .none j p'] pos) (mIsN true m) := by
  refine ⟨(pe_cmp (pc_notN ha.pe) rfl).imp fun σ H Q ⟨as, F, ρ, r, ρ', R, e, k⟩ => ?_⟩
  unfold mIsN at e
  cases q : m ρ with
  | none => rw [q] at e; cases e
  | some p =>
    obtain ⟨r1, ρ1⟩ := p
    rw [q] at e
    dsimp only at e
    cases q1 : rd ρ1 r1 with
    | none => rw [q1] at e; cases e
    | some d =>
      rw [q1] at e; cases e
      refine ⟨as, F, ρ, r1, _, R, q, fun v F1 H1 S1 R1 y => ?_⟩
      have h := (y.read R1 q1).is_non
      show Q (V.bl (!decide (v = V.non))) H1
      rw [h]
      exact k _ F1 H1 S1 R1 (.bl _)
/-- a in b: b a list or tuple (deep), a text -/
def inD (neg : Bool) : D → D → Option RV
  | d, .list ds => if (okD d && okD (.list ds)) = true then some (.val (.bool (if neg = true then !ds.any fun z => PyData.eqv z d else ds.any fun z => PyData.eqv z d))) else none
  | .str a, .str b => some (.val (.bool (if neg = true then !(!(Builtin.Str.occurrences b a 0 b.length 1).isEmpty) else !(Builtin.Str.occurrences b a 0 b.length 1).isEmpty)))
  | _, _ => none
end
end Wk
set_option Elab.async false
set_option linter.all false
set_option maxRecDepth 100000
set_option maxHeartbeats 4000000
namespace Wk
open PySem PySem.Spec PyProof.Rows L2
section
variable {K : PySem.W.Frag} {w : World} {as : List V} {F H F1 H1 F2 H2 F' H' : Hp} {σ σ1 σ2 σ' : Stt} {ρ ρ1 ρ2 ρ' : Sl} {X : Cx}
/-! ### in -/
def rInA (K : PySem.W.Frag) (neg : Bool) : R2 := fun x y H Q => (∃ d ds, Dp K H x d ∧ (Dp K H y (.list ds) ∨ Dp K H y (.tuple ds)) ∧ SeqAt.shaped d = true ∧ SeqAt.shaped (.list ds) = true ∧ Q (.bl (if neg = true then !ds.any fun z => PyData.eqv z d else ds.any fun z => PyData.eqv z d)) H) ∨
  ∃ (c : Nat) (z : Str), x = .str ⟨#[c]⟩ ∧ y = .str z ∧ Q (.bl (if neg = true then !decide (c ∈ z.cps.toList) else decide (c ∈ z.cps.toList))) H
theorem op_inA (hu : X.A.units + 65 < cLine) : OpR X (compareOp .In) (rInA X.K false) := by
  intro pins s σ H x y v u Q I rx ry h
  rcases h with ⟨d, ds, hd, he, sd, se, q⟩ | ⟨c, z, rfl, rfl, q⟩
  · obtain ⟨as, r1⟩ := Dp.reads I d x v hd rx
    rcases he with he | he
    · obtain ⟨bs, r2⟩ := Dp.reads I (.list ds) y u he ry
      exact SeqAt.in_list_reads r2 r1 (SeqAt.canLay_of_shaped se) (SeqAt.canLay_of_shaped sd) (room_in_shaped sd hu) ⟨.bl _, H, I, rfl, q⟩
    · obtain ⟨bs, r2⟩ := Dp.reads I (.tuple ds) y u he ry
      exact SeqAt.in_tuple_reads r2 r1 (SeqAt.canLay_of_shaped se) (SeqAt.canLay_of_shaped sd) (room_in_shaped sd hu) ⟨.bl _, H, I, rfl, q⟩
  · exact op_in_sign pins s σ H _ _ v u Q I rx ry ⟨c, z, rfl, rfl, q⟩
theorem op_notInA (hu : X.A.units + 65 < cLine) : OpR X (compareOp .NotIn) (rInA X.K true) := by
  intro pins s σ H x y v u Q I rx ry h
  rcases h with ⟨d, ds, hd, he, sd, se, q⟩ | ⟨c, z, rfl, rfl, q⟩
  · obtain ⟨as, r1⟩ := Dp.reads I d x v hd rx
    rcases he with he | he
    · obtain ⟨bs, r2⟩ := Dp.reads I (.list ds) y u he ry
      exact SeqAt.notIn_list_reads r2 r1 (SeqAt.canLay_of_shaped se) (SeqAt.canLay_of_shaped sd) (room_in_shaped sd hu) ⟨.bl _, H, I, rfl, q⟩
    · obtain ⟨bs, r2⟩ := Dp.reads I (.tuple ds) y u he ry
      exact SeqAt.notIn_tuple_reads r2 r1 (SeqAt.canLay_of_shaped se) (SeqAt.canLay_of_shaped sd) (room_in_shaped sd hu) ⟨.bl _, H, I, rfl, q⟩
  · exact op_notIn_sign pins s σ H _ _ v u Q I rx ry ⟨c, z, rfl, rfl, q⟩
def memD (d : D) (ds : List D) : Bool := ds.any fun z => PyData.eqv z d
def inA (neg : Bool) : D → D → Option RV := fun d e => match e with
  | .list ds => if (okD d && okD (.list ds)) = true then some (.val (.bool (if neg = true then !memD d ds else memD d ds))) else none
  | .tuple ds => if (okD d && okD (.list ds)) = true then some (.val (.bool (if neg = true then !memD d ds else memD d ds))) else none
  | .str z => match d with
    | .str x => if x.cps.size = 1 then some (.val (.bool (if neg = true then !decide (x.cps.getD 0 0 ∈ z.cps.toList) else decide (x.cps.getD 0 0 ∈ z.cps.toList)))) else none
    | _ => none
  | _ => none
theorem od_in {neg : Bool} : OpD K w (rInA K neg) (inA neg) := by
  intro x y d e F H Q rv sm hx hy he k
  unfold inA at he
  cases e with
  | list ds =>
    dsimp only at he
    split at he
    case isFalse => cases he
    rename_i hc
    rw [Bool.and_eq_true] at hc
    cases he
    exact .inl ⟨d, ds, (hx.rp sm).dps hc.1, .inl ((hy.rp sm).dps hc.2), hc.1, hc.2, k _ _ new_bl⟩
  | tuple ds =>
    dsimp only at he
    split at he
    case isFalse => cases he
    rename_i hc
    rw [Bool.and_eq_true] at hc
    cases he
    exact .inl ⟨d, ds, (hx.rp sm).dps hc.1, .inr ((hy.rp sm).dpt hc.2), hc.1, hc.2, k _ _ new_bl⟩
  | str z =>
    cases d with
    | str x' =>
      dsimp only at he
      split at he
      case isFalse => cases he
      rename_i hc
      cases he
      refine .inr ⟨x'.cps.getD 0 0, z, ?_, hy.str, k _ _ new_bl⟩
      rw [hx.str]
      obtain ⟨cps⟩ := x'
      have hc' : cps.size = 1 := hc
      have e : cps = #[cps.getD 0 0] := by
        apply Array.ext
        · simpa using hc'
        · intro i h1 h2
          have : i = 0 := by omega
          subst this
          simp [Array.getD, hc']
      show V.str ⟨cps⟩ = V.str ⟨#[cps.getD 0 0]⟩
      rw [← e]
    | _ => cases he
  | _ => cases he

/-! ### subscripts, slices -/
def ixD : D → D → Option RV
  | .list ds, .int i => (atI ds i).map .val
  | .tuple ds, .int i => (atI ds i).map .val
  | .str z, .int i => if z.length ≤ sizeLine then (atI z.cps.toList i).map fun c => .val (.str ⟨#[c]⟩) else none
  | .dict kvs, .int i => (atI kvs i).map fun p => .val p.1
  | _, _ => none
theorem RpAll.atI {vs : List V} {ds : List D} {i : Int} {d : D} (h : RpAll K F vs ds) (e : L2.atI ds i = some d) : ∃ v, L2.atI vs i = some v ∧ Rp K F v d := by
  unfold L2.atI at e ⊢
  rw [h.length]
  cases q : ixN ds.length i with
  | none => rw [q] at e; cases e
  | some j =>
    rw [q] at e
    exact h.get e
theorem od_ix : OpD K w (rIx K) ixD := by
  intro x y d e F H Q rv sm hx hy he k
  unfold ixD at he
  split at he
  · rename_i ds i
    rw [hy.int]
    cases q : L2.atI ds i with
    | none => rw [q] at he; cases he
    | some d' =>
      rw [q] at he; cases he
      obtain ⟨a, vs, rfl, ha, ra⟩ := hx.list sm
      obtain ⟨v, hv, rv⟩ := ra.atI q
      exact .inl ⟨a, vs, i, v, rfl, rfl, SqL.of ha, hv, k _ _ (new_old rv)⟩
  · rename_i ds i
    rw [hy.int]
    cases q : L2.atI ds i with
    | none => rw [q] at he; cases he
    | some d' =>
      rw [q] at he; cases he
      obtain ⟨a, vs, rfl, ha, ra⟩ := hx.tuple sm
      obtain ⟨v, hv, rv⟩ := ra.atI q
      exact .inr (.inl ⟨a, vs, i, v, rfl, rfl, Same.sqt sm ha, hv, k _ _ (new_old rv)⟩)
  · rename_i z i
    split at he
    case isFalse => cases he
    rename_i hc
    rw [hx.str, hy.int]
    cases q : L2.atI z.cps.toList i with
    | none => rw [q] at he; cases he
    | some c =>
      rw [q] at he; cases he
      exact .inr (.inr ⟨z, i, c, rfl, rfl, hc, q, k _ _ new_str⟩)
  · rename_i kvs i
    rw [hy.int]
    cases q : L2.atI kvs i with
    | none => rw [q] at he; cases he
    | some d' =>
      rw [q] at he; cases he
      obtain ⟨a, ns, rfl, rfl, ha⟩ := hx.scr sm
      have e2 : ∃ n, L2.atI (ns.map V.int) i = some (.int n) ∧ d'.1 = .int n := by
        unfold L2.atI scrK at q
        unfold L2.atI
        rw [List.length_map] at q ⊢
        cases q1 : ixN ns.length i with
        | none => rw [q1] at q; cases q
        | some j =>
          rw [q1] at q
          simp only [Option.bind_some, List.getElem?_map] at q ⊢
          cases q2 : ns[j]? with
          | none => rw [q2] at q; cases q
          | some n => rw [q2] at q; cases q; exact ⟨n, rfl, rfl⟩
      obtain ⟨n, e3, e4⟩ := e2
      dsimp only at k
      rw [e4] at k
      exact .inl ⟨a, _, i, _, rfl, rfl, ha, e3, k _ _ new_int⟩
  · cases he
def cutD (xs : List D) (lo hi : Option Int) : List D := (xs.drop (HT.sIx xs.length 0 lo)).take (HT.sIx xs.length xs.length hi - HT.sIx xs.length 0 lo)
theorem RpAll.cut {vs : List V} {ds : List D} (h : RpAll K F vs ds) (lo hi : Option Int) : RpAll K F (cutV vs lo hi) (cutD ds lo hi) := by
  unfold cutV cutD
  rw [h.length]
  exact (h.drop _).take _
def slD (lo hi : Option Int) : D → Option RV
  | .list ds => some (.tmp (.lst (cutD ds lo hi)))
  | .tuple ds => some (.val (.tuple (cutD ds lo hi)))
  | .str z => if z.length ≤ sizeLine then some (.val (.str (cutS z lo hi))) else none
  | _ => none
def rSlAll (K : PySem.W.Frag) : V → Option Int → Option Int → Hp → VK → Prop := fun x lo hi H Q => rSlL K x lo hi H Q ∨ rSlA K x lo hi H Q ∨ rSlS x lo hi H Q
theorem sl_all : L2.SlR X (rSlAll X.K) := sl_list.or (sl_tupA.or sl_str)
theorem sl_ok {x : V} {d : D} {lo hi : Option Int} {Q : VK} {rv : RV} (sm : Same F H) (hx : RdV K F H x d) (he : slD lo hi d = some rv) (k : ∀ v H', NewV K w F H H' v rv → Q v H') : rSlAll K x lo hi H Q := by
  unfold slD at he
  split at he
  · cases he
    obtain ⟨a, vs, rfl, ha, ra⟩ := hx.list sm
    exact .inl ⟨a, vs, rfl, SqL.of ha, fun p hp => k _ _ (new_lst hp (ra.cut lo hi))⟩
  · cases he
    obtain ⟨a, vs, rfl, ha, ra⟩ := hx.tuple sm
    refine .inr (.inl ⟨a, vs, rfl, Same.sqt sm ha, fun z => ?_, fun z p hp => k _ _ (new_tup sm hp (ra.cut lo hi))⟩)
    rename_i ds
    have e : cutD ds lo hi = ds := by
      unfold cutD
      rw [← ra.length, z.1, z.2, List.drop_zero, Nat.sub_zero, ra.length, List.take_length]
    rw [e] at k
    exact k _ _ (new_old (.tup ha ra))
  · split at he
    case isFalse => cases he
    rename_i hc
    cases he
    rw [hx.str]
    exact .inr (.inr ⟨_, rfl, hc, k _ _ new_str⟩)
  · cases he
/-- a part of a slice -/
def tO (K : PySem.W.Frag) (w : World) (m : Sl → Option (Option Int × Sl)) : TO := fun σ H Q => ∃ as F ρ o ρ', Rep K w as F H σ ρ ∧ m ρ = some (o, ρ') ∧ ∀ F' H', Step F H σ ρ F' H' σ ρ' → Rep K w as F' H' σ ρ' → Q o H'
structure EvO (X : Cx) (e : Option Expr) (m : Sl → Option (Option Int × Sl)) : Prop where
  po : PO X e (tO X.K X.w m)
theorem _root_.L2.PO.imp {e : Option Expr} {t t' : TO} (h : PO X e t) (i : ∀ σ H Q, t' σ H Q → t σ H Q) : PO X e t' := ⟨fun pins s σ H Q I q => h.run pins s σ H Q I (i _ _ _ q)⟩
def mNoPart : Sl → Option (Option Int × Sl) := fun ρ => some (none, ρ)
def mPart (m : Sl → Option (RV × Sl)) : Sl → Option (Option Int × Sl) := fun ρ => match m ρ with
  | some (.val (.int i), ρ1) => some (some i, ρ1)
  | _ => none
theorem eo_none : EvO X none mNoPart := ⟨po_none.imp fun σ H Q ⟨as, F, ρ, o, ρ', R, e, k⟩ => by
  cases e
  exact k F H .refl R⟩
theorem eo_some {e : Expr} {m : Sl → Option (RV × Sl)} (h : EvE X e m) : EvO X (some e) (mPart m) := ⟨(po_some h.pe).imp fun σ H Q ⟨as, F, ρ, o, ρ', R, e, k⟩ => by
  unfold mPart at e
  split at e
  · rename_i i ρ1 q
    cases e
    refine ⟨as, F, ρ, _, _, R, q, fun v F1 H1 S1 R1 y => ?_⟩
    cases y
    exact ⟨i, rfl, k F1 H1 S1 R1⟩
  · cases e⟩
def mSl (m : Sl → Option (RV × Sl)) (ml mh : Sl → Option (Option Int × Sl)) : Sl → Option (RV × Sl) := fun ρ => match m ρ with
  | none => none
  | some (r, ρ1) => match ml ρ1 with
    | none => none
    | some (lo, ρ2) => match mh ρ2 with
      | none => none
      | some (hi, ρ3) => match rd ρ3 r with
        | none => none
        | some d => match slD lo hi d with
          | none => none
          | some rv => some (rv, ρ3)
theorem ev_slice {e : Expr} {lo hi : Option Expr} {pos p2 : Pos} {m : Sl → Option (RV × Sl)} {ml mh : Sl → Option (Option Int × Sl)} (he : EvE X e m) (hl : EvO X lo ml) (hh : EvO X hi mh) : EvE X (.Subscript e (.Slice lo hi none p2) pos) (mSl m ml mh) := by
  refine ⟨(pe_slice sl_all he.pe hl.po hh.po).imp fun σ H Q ⟨as, F, ρ, r, ρ', R, e, k⟩ => ?_⟩
  unfold mSl at e
  cases q : m ρ with
  | none => rw [q] at e; cases e
  | some p =>
    obtain ⟨r1, ρ1⟩ := p
    rw [q] at e
    dsimp only at e
    cases q1 : ml ρ1 with
    | none => rw [q1] at e; cases e
    | some p1 =>
      obtain ⟨l, ρ2⟩ := p1
      rw [q1] at e
      dsimp only at e
      cases q2 : mh ρ2 with
      | none => rw [q2] at e; cases e
      | some p2 =>
        obtain ⟨h, ρ3⟩ := p2
        rw [q2] at e
        dsimp only at e
        cases q3 : rd ρ3 r1 with
        | none => rw [q3] at e; cases e
        | some d =>
          rw [q3] at e
          dsimp only at e
          cases q4 : slD l h d with
          | none => rw [q4] at e; cases e
          | some rv =>
            rw [q4] at e; cases e
            refine ⟨as, F, ρ, r1, ρ1, R, q, fun v F1 H1 S1 R1 y => ⟨as, F1, ρ1, l, ρ2, R1, q1, fun F2 H2 S2 R2 => ⟨as, F2, ρ2, h, _, R2, q2, fun F3 H3 S3 R3 => ?_⟩⟩⟩
            have S23 := S2.trans S3
            refine sl_ok (w := X.w) R3.sub ((y.step S23).read R3 q3) q4 fun z H4 nz => ?_
            obtain ⟨F4, S4, R4, q5⟩ := nz.fin R3
            exact k z F4 H4 (S1.trans (S23.trans S4)) R4 (q5.low fun b hb => S1.there b (S23.there b hb))
/-! ### and, or, not as values; if else -/
def mAndV (a b : Sl → Option (RV × Sl)) : Sl → Option (RV × Sl) := fun ρ => match a ρ with
  | some (.val (.bool true), ρ1) => b ρ1
  | some (.val (.bool false), ρ1) => some (.val (.bool false), ρ1)
  | _ => none
def mOrV (a b : Sl → Option (RV × Sl)) : Sl → Option (RV × Sl) := fun ρ => match a ρ with
  | some (.val (.bool true), ρ1) => some (.val (.bool true), ρ1)
  | some (.val (.bool false), ρ1) => b ρ1
  | _ => none
def mNotV (a : Sl → Option (RV × Sl)) : Sl → Option (RV × Sl) := fun ρ => match a ρ with
  | some (.val (.bool c), ρ1) => some (.val (.bool (!c)), ρ1)
  | _ => none
theorem ev_one {op} {a : Expr} {pos : Pos} {m : Sl → Option (RV × Sl)} (h : EvE X a m) : EvE X (.BoolOp op [a] pos) m := ⟨pe_one h.pe⟩
theorem ev_andV {a b : Expr} {rest : List Expr} {pos : Pos} {ma mb : Sl → Option (RV × Sl)} (ha : EvE X a ma) (hb : EvE X (.BoolOp .And (b :: rest) pos) mb) : EvE X (.BoolOp .And (a :: b :: rest) pos) (mAndV ma mb) := by
  refine ⟨(pe_and ha.pe hb.pe).imp fun σ H Q ⟨as, F, ρ, r, ρ', R, e, k⟩ => ?_⟩
  unfold mAndV at e
  split at e
  · rename_i ρ1 q
    refine ⟨as, F, ρ, _, _, R, q, fun v F1 H1 S1 R1 y => ?_⟩
    cases y
    exact ⟨true, rfl, iteT ⟨as, F1, ρ1, r, ρ', R1, e, fun u F2 H2 S2 R2 y2 => k u F2 H2 (S1.trans S2) R2 (y2.low S1.there)⟩⟩
  · rename_i ρ1 q
    cases e
    refine ⟨as, F, ρ, _, _, R, q, fun v F1 H1 S1 R1 y => ?_⟩
    cases y
    exact ⟨false, rfl, iteF (k _ F1 H1 S1 R1 (.bl false))⟩
  · cases e
theorem ev_orV {a b : Expr} {rest : List Expr} {pos : Pos} {ma mb : Sl → Option (RV × Sl)} (ha : EvE X a ma) (hb : EvE X (.BoolOp .Or (b :: rest) pos) mb) : EvE X (.BoolOp .Or (a :: b :: rest) pos) (mOrV ma mb) := by
  refine ⟨(pe_or ha.pe hb.pe).imp fun σ H Q ⟨as, F, ρ, r, ρ', R, e, k⟩ => ?_⟩
  unfold mOrV at e
  split at e
  · rename_i ρ1 q
    cases e
    refine ⟨as, F, ρ, _, _, R, q, fun v F1 H1 S1 R1 y => ?_⟩
    cases y
    exact ⟨true, rfl, iteT (k _ F1 H1 S1 R1 (.bl true))⟩
  · rename_i ρ1 q
    refine ⟨as, F, ρ, _, _, R, q, fun v F1 H1 S1 R1 y => ?_⟩
    cases y
    exact ⟨false, rfl, iteF ⟨as, F1, ρ1, r, ρ', R1, e, fun u F2 H2 S2 R2 y2 => k u F2 H2 (S1.trans S2) R2 (y2.low S1.there)⟩⟩
  · cases e
theorem ev_notV {a : Expr} {pos : Pos} {ma : Sl → Option (RV × Sl)} (ha : EvE X a ma) : EvE X (.UnaryOp .Not a pos) (mNotV ma) := by
  refine ⟨(pe_not ha.pe).imp fun σ H Q ⟨as, F, ρ, r, ρ', R, e, k⟩ => ?_⟩
  unfold mNotV at e
  split at e
  · rename_i c ρ1 q
    cases e
    refine ⟨as, F, ρ, _, _, R, q, fun v F1 H1 S1 R1 y => ?_⟩
    cases y
    exact ⟨c, rfl, k _ F1 H1 S1 R1 (.bl _)⟩
  · cases e
def mIfE (c : Sl → Option (Bool × Sl)) (a b : Sl → Option (RV × Sl)) : Sl → Option (RV × Sl) := fun ρ => match c ρ with
  | none => none
  | some (true, ρ1) => a ρ1
  | some (false, ρ1) => b ρ1
theorem ev_ifE {c a b : Expr} {pos : Pos} {mc : Sl → Option (Bool × Sl)} {ma mb : Sl → Option (RV × Sl)} (hc : EvT X c mc) (ha : EvE X a ma) (hb : EvE X b mb) : EvE X (.IfExp c a b pos) (mIfE mc ma mb) := by
  refine ⟨(pe_ifExp hc.pt ha.pe hb.pe).imp fun σ H Q ⟨as, F, ρ, r, ρ', R, e, k⟩ => ?_⟩
  unfold mIfE at e
  cases q : mc ρ with
  | none => rw [q] at e; cases e
  | some p =>
    obtain ⟨t, ρ1⟩ := p
    rw [q] at e
    refine ⟨as, F, ρ, t, ρ1, R, q, fun F1 H1 S1 R1 => ?_⟩
    cases t with
    | true => exact iteT ⟨as, F1, ρ1, r, ρ', R1, e, fun u F2 H2 S2 R2 y2 => k u F2 H2 (S1.trans S2) R2 (y2.low S1.there)⟩
    | false => exact iteF ⟨as, F1, ρ1, r, ρ', R1, e, fun u F2 H2 S2 R2 y2 => k u F2 H2 (S1.trans S2) R2 (y2.low S1.there)⟩
/-! ### displays -/
theorem cold_args {ma : Sl → Option (List RV × Sl)} {ds : List D} {Q : List V → Hp → Prop} (R : Rep K w as F H σ ρ) (q : mCold ma ρ = some (ds, ρ1)) (k : ∀ vs F' H', Step F H σ ρ F' H' σ ρ1 → Rep K w as F' H' σ ρ1 → RpAll K F' vs ds → Q vs H') : tA' K w ma σ H Q := by
  unfold mCold at q
  cases q1 : ma ρ with
  | none => rw [q1] at q; cases q
  | some p =>
    obtain ⟨rs, ρa⟩ := p
    rw [q1] at q
    dsimp only at q
    cases q2 : frz (rs.map fun _ => false) rs ρa with
    | none => rw [q2] at q; cases q
    | some p2 =>
      obtain ⟨rs2, ρb⟩ := p2
      rw [q2] at q
      dsimp only at q
      cases q3 : rdAll ρb rs2 with
      | none => rw [q3] at q; cases q
      | some ds' =>
        rw [q3] at q
        cases q
        refine ⟨as, F, ρ, rs, ρa, R, q1, fun vs F1 H1 S1 R1 y => ?_⟩
        obtain ⟨F2, S2, R2, A2, _⟩ := frz_ok S1 R1 y q2
        exact k vs F2 H1 S2 R2 (frz_vals q2 q3 A2)
def mTup (ma : Sl → Option (List RV × Sl)) : Sl → Option (RV × Sl) := fun ρ => match mCold ma ρ with
  | none => none
  | some (ds, ρ1) => if ds.length ≤ sizeLine then some (.val (.tuple ds), ρ1) else none
def mLst (ma : Sl → Option (List RV × Sl)) : Sl → Option (RV × Sl) := fun ρ => match mCold ma ρ with
  | none => none
  | some (ds, ρ1) => if ds.length ≤ sizeLine then some (.tmp (.lst ds), ρ1) else none
theorem ev_tup {es : List Expr} {kk : Nat} {pos : Pos} {ma : Sl → Option (List RV × Sl)} (ha : EvA X es ma) : EvE X (.Tuple es kk pos) (mTup ma) := by
  refine ⟨(pe_tup ha.pa).imp fun σ H Q ⟨as, F, ρ, r, ρ', R, e, k⟩ => ?_⟩
  unfold mTup at e
  cases q : mCold ma ρ with
  | none => rw [q] at e; cases e
  | some p =>
    obtain ⟨ds, ρ1⟩ := p
    rw [q] at e
    dsimp only at e
    split at e
    case isFalse => cases e
    rename_i hl
    cases e
    refine cold_args R q fun vs F1 H1 S1 R1 y => ⟨by rw [y.length]; exact hl, fun p hp => ?_⟩
    obtain ⟨F2, S2, R2, q2⟩ := (new_tup (w := X.w) R1.sub hp y).fin R1
    exact k _ F2 _ (S1.trans S2) R2 (q2.low S1.there)
theorem ev_lst {es : List Expr} {pos : Pos} {ma : Sl → Option (List RV × Sl)} (ha : EvA X es ma) : EvE X (.List es pos) (mLst ma) := by
  refine ⟨(pe_lst ha.pa).imp fun σ H Q ⟨as, F, ρ, r, ρ', R, e, k⟩ => ?_⟩
  unfold mLst at e
  cases q : mCold ma ρ with
  | none => rw [q] at e; cases e
  | some p =>
    obtain ⟨ds, ρ1⟩ := p
    rw [q] at e
    dsimp only at e
    split at e
    case isFalse => cases e
    rename_i hl
    cases e
    refine cold_args R q fun vs F1 H1 S1 R1 y => ⟨by rw [y.length]; exact hl, fun p hp => ?_⟩
    obtain ⟨F2, S2, R2, q2⟩ := (new_lst (w := X.w) hp y).fin R1
    exact k _ F2 _ (S1.trans S2) R2 (q2.low S1.there)
/-- *e among arguments -/
def mStar (m : Sl → Option (RV × Sl)) (ms : Sl → Option (List RV × Sl)) : Sl → Option (List RV × Sl) := fun ρ => match m ρ with
  | none => none
  | some (r, ρ1) => match cold r ρ1 with
    | some (.tuple ds, ρ2) => (match ms ρ2 with
      | none => none
      | some (rs, ρ3) => some (ds.map .val ++ rs, ρ3))
    | some (.list ds, ρ2) => (match ms ρ2 with
      | none => none
      | some (rs, ρ3) => some (ds.map .val ++ rs, ρ3))
    | _ => none
theorem RepAs.vals : ∀ {ds : List D} {vs us : List V} {rs : List RV}, RpAll K F vs ds → RepAs K F σ ρ us rs → RepAs K F σ ρ (vs ++ us) (ds.map .val ++ rs)
  | _, _, _, _, .nil, h => h
  | _, _, _, _, .cons r t, h => ⟨r, RepAs.vals t h⟩
theorem ea_star {e : Expr} {es : List Expr} {p : Pos} {m : Sl → Option (RV × Sl)} {ms : Sl → Option (List RV × Sl)} (h : EvE X e m) (hs : EvA X es ms) (hst : starEach (.Starred e p :: es) X.env = (true, eval e X.env) :: starEach es X.env := by rfl) : EvA X (.Starred e p :: es) (mStar m ms) := by
  refine ⟨(StX.pa_star h.pe hs.pa hst).imp fun σ H Q ⟨as, F, ρ, rs, ρ', R, e, k⟩ => ?_⟩
  unfold mStar at e
  cases q : m ρ with
  | none => rw [q] at e; cases e
  | some p =>
    obtain ⟨r, ρ1⟩ := p
    rw [q] at e
    dsimp only at e
    refine ⟨as, F, ρ, r, ρ1, R, q, fun v F1 H1 S1 R1 y => ?_⟩
    cases q1 : Wk.cold r ρ1 with
    | none => rw [q1] at e; cases e
    | some p1 =>
      obtain ⟨d, ρ2⟩ := p1
      rw [q1] at e
      obtain ⟨F2, R2, S2, y2, _⟩ := y.cold S1 R1 q1
      cases d with
      | tuple ds =>
        dsimp only at e
        cases q2 : ms ρ2 with
        | none => rw [q2] at e; cases e
        | some p2 =>
          obtain ⟨rs', ρ3⟩ := p2
          rw [q2] at e; cases e
          cases y2 with
          | tup h1 h2 =>
            exact ⟨_, _, rfl, .inl (Same.sqt R2.sub h1), as, F2, ρ2, rs', _, R2, q2, fun vs F3 H3 S3 R3 y3 => k _ F3 H3 (S2.trans S3) R3 (RepAs.vals (h2.up S3.mono) y3)⟩
      | list ds =>
        dsimp only at e
        cases q2 : ms ρ2 with
        | none => rw [q2] at e; cases e
        | some p2 =>
          obtain ⟨rs', ρ3⟩ := p2
          rw [q2] at e; cases e
          cases y2 with
          | lst h1 h2 =>
            exact ⟨_, _, rfl, .inr (SqL.of (R2.sub _ _ h1)), as, F2, ρ2, rs', _, R2, q2, fun vs F3 H3 S3 R3 y3 => k _ F3 H3 (S2.trans S3) R3 (RepAs.vals (h2.up S3.mono) y3)⟩
      | _ => cases e
end
end Wk
set_option Elab.async false
set_option linter.all false
set_option maxRecDepth 100000
set_option maxHeartbeats 4000000
namespace Wk
open PySem PySem.Spec PyProof.Rows L2
section
variable {K : PySem.W.Frag} {w : World} {as : List V} {F H F1 H1 F2 H2 F' H' : Hp} {σ σ1 σ2 σ' : Stt} {ρ ρ1 ρ2 ρ' : Sl} {X : Cx}
/-! ### built-ins -/
theorem RdVs.one {vs : List V} {d : D} (h : RdVs K F H vs [d]) : ∃ v, vs = [v] ∧ RdV K F H v d := by
  cases h with
  | cons a b => cases b; exact ⟨_, rfl, a⟩
theorem RdVs.two {vs : List V} {d e : D} (h : RdVs K F H vs [d, e]) : ∃ v u, vs = [v, u] ∧ RdV K F H v d ∧ RdV K F H u e := by
  cases h with
  | cons a b => cases b with
    | cons c b => cases b; exact ⟨_, _, rfl, a, c⟩
def lenD : List D → Option RV
  | [.list ds] => some (.val (.int ds.length))
  | [.tuple ds] => some (.val (.int ds.length))
  | [.str z] => if z.length ≤ sizeLine then some (.val (.int z.length)) else none
  | [.dict kvs] => some (.val (.int kvs.length))
  | _ => none
def rLenA (K : PySem.W.Frag) : List V → Hp → VK → Prop := fun xs H Q => (∃ p ys, xs = [.ref p] ∧ (SqL K H p ys ∨ SqT K H p ys) ∧ Q (.int ys.length) H) ∨ ∃ z, xs = [.str z] ∧ z.length ≤ sizeLine ∧ Q (.int z.length) H
theorem call_lenA : CallR X (.builtin "len") (rLenA X.K) := call_len_seq.or call_len_str
theorem cd_len : CallD K w (rLenA K) lenD := by
  intro vs ds F H Q rv sm h he k
  unfold lenD at he
  split at he
  · cases he
    obtain ⟨v, rfl, hv⟩ := h.one
    obtain ⟨a, vs, rfl, ha, ra⟩ := hv.list sm
    exact .inl ⟨a, vs, rfl, .inl (SqL.of ha), by rw [ra.length]; exact k _ _ new_int⟩
  · cases he
    obtain ⟨v, rfl, hv⟩ := h.one
    obtain ⟨a, vs, rfl, ha, ra⟩ := hv.tuple sm
    exact .inl ⟨a, vs, rfl, .inr (Same.sqt sm ha), by rw [ra.length]; exact k _ _ new_int⟩
  · split at he
    case isFalse => cases he
    rename_i hc
    cases he
    obtain ⟨v, rfl, hv⟩ := h.one
    rw [hv.str]
    exact .inr ⟨_, rfl, hc, k _ _ new_int⟩
  · rename_i kvs
    cases he
    obtain ⟨v, rfl, hv⟩ := h.one
    obtain ⟨a, ns, rfl, rfl, ha⟩ := hv.scr sm
    have e : ((ns.map V.int).length : Int) = ((scrK ns).length : Int) := by unfold scrK; rw [List.length_map, List.length_map]
    exact .inl ⟨a, _, rfl, .inl ha, by rw [e]; exact k _ _ new_int⟩
  · cases he
def absD : List D → Option RV
  | [.int i] => some (.val (.int (if i < 0 then -i else i)))
  | _ => none
theorem cd_abs : CallD K w (fun xs H Q => ∃ i, xs = [.int i] ∧ Q (.int (if i < 0 then -i else i)) H) absD := by
  intro vs ds F H Q rv sm h he k
  unfold absD at he
  split at he
  · cases he
    obtain ⟨v, rfl, hv⟩ := h.one
    rw [hv.int]
    exact ⟨_, rfl, k _ _ new_int⟩
  · cases he
def intsD : List D → Option (List Int)
  | [] => some []
  | .int i :: ds => (intsD ds).map (i :: ·)
  | _ => none
theorem intsD_eq : ∀ {ds : List D} {ns : List Int}, intsD ds = some ns → ds = ns.map .int
  | [], ns, h => by cases h; rfl
  | d :: ds, ns, h => by
    cases d with
    | int i =>
      unfold intsD at h
      cases q : intsD ds with
      | none => rw [q] at h; cases h
      | some ms => rw [q] at h; cases h; rw [intsD_eq q]; rfl
    | _ => cases h
theorem rp_ints : ∀ {ns : List Int} {vs : List V}, RpAll K F vs (ns.map .int) → vs = ns.map .int
  | [], _, h => by cases h; rfl
  | n :: ns, _, h => by
    cases h with
    | cons a b => cases a; rw [rp_ints b]; rfl
def maxI (i j : Int) : Int := if j > i then j else i
def minI (i j : Int) : Int := if j < i then j else i
def maxL : List Int → Int
  | [] => 0
  | i :: is => is.foldl maxI i
def minL : List Int → Int
  | [] => 0
  | i :: is => is.foldl minI i
theorem foldl_max : ∀ (is : List Int) (i : Int), (is.foldl maxI i = i ∨ is.foldl maxI i ∈ is) ∧ i ≤ is.foldl maxI i ∧ ∀ y ∈ is, y ≤ is.foldl maxI i
  | [], i => ⟨.inl rfl, Int.le_refl _, fun _ h => nomatch h⟩
  | x :: xs, i => by
    obtain ⟨h1, h2, h3⟩ := foldl_max xs (maxI i x)
    rw [List.foldl_cons]
    have e1 : i ≤ maxI i x := by unfold maxI; split <;> omega
    have e2 : x ≤ maxI i x := by unfold maxI; split <;> omega
    have e3 : maxI i x = i ∨ maxI i x = x := by unfold maxI; split <;> simp
    refine ⟨?_, by omega, fun y hy => ?_⟩
    · rcases h1 with h | h
      · rcases e3 with q | q
        · left; rw [h, q]
        · right; rw [h, q]; exact List.mem_cons_self
      · right; exact List.mem_cons_of_mem _ h
    · rcases List.mem_cons.mp hy with e | hy
      · rw [e]; omega
      · exact h3 y hy
theorem foldl_min : ∀ (is : List Int) (i : Int), (is.foldl minI i = i ∨ is.foldl minI i ∈ is) ∧ is.foldl minI i ≤ i ∧ ∀ y ∈ is, is.foldl minI i ≤ y
  | [], i => ⟨.inl rfl, Int.le_refl _, fun _ h => nomatch h⟩
  | x :: xs, i => by
    obtain ⟨h1, h2, h3⟩ := foldl_min xs (minI i x)
    rw [List.foldl_cons]
    have e1 : minI i x ≤ i := by unfold minI; split <;> omega
    have e2 : minI i x ≤ x := by unfold minI; split <;> omega
    have e3 : minI i x = i ∨ minI i x = x := by unfold minI; split <;> simp
    refine ⟨?_, by omega, fun y hy => ?_⟩
    · rcases h1 with h | h
      · rcases e3 with q | q
        · left; rw [h, q]
        · right; rw [h, q]; exact List.mem_cons_self
      · right; exact List.mem_cons_of_mem _ h
    · rcases List.mem_cons.mp hy with e | hy
      · rw [e]; omega
      · exact h3 y hy
theorem maxL_mem {ns : List Int} (h : ns ≠ []) : maxL ns ∈ ns ∧ ∀ y ∈ ns, y ≤ maxL ns := by
  cases ns with
  | nil => exact absurd rfl h
  | cons i is =>
    obtain ⟨h1, h2, h3⟩ := foldl_max is i
    refine ⟨?_, fun y hy => ?_⟩
    · rcases h1 with q | q
      · show is.foldl maxI i ∈ i :: is
        rw [q]; exact List.mem_cons_self
      · exact List.mem_cons_of_mem _ q
    · rcases List.mem_cons.mp hy with e | hy
      · rw [e]; exact h2
      · exact h3 y hy
theorem minL_mem {ns : List Int} (h : ns ≠ []) : minL ns ∈ ns ∧ ∀ y ∈ ns, minL ns ≤ y := by
  cases ns with
  | nil => exact absurd rfl h
  | cons i is =>
    obtain ⟨h1, h2, h3⟩ := foldl_min is i
    refine ⟨?_, fun y hy => ?_⟩
    · rcases h1 with q | q
      · show is.foldl minI i ∈ i :: is
        rw [q]; exact List.mem_cons_self
      · exact List.mem_cons_of_mem _ q
    · rcases List.mem_cons.mp hy with e | hy
      · rw [e]; exact h2
      · exact h3 y hy
def maxD : List D → Option RV
  | [.int i, .int j] => some (.val (.int (if j > i then j else i)))
  | [.list ds] => match intsD ds with
    | none => none
    | some ns => if ns = [] then none else some (.val (.int (maxL ns)))
  | _ => none
def minD : List D → Option RV
  | [.int i, .int j] => some (.val (.int (if j < i then j else i)))
  | [.list ds] => match intsD ds with
    | none => none
    | some ns => if ns = [] then none else some (.val (.int (minL ns)))
  | _ => none
def rMaxA (K : PySem.W.Frag) : List V → Hp → VK → Prop := fun xs H Q => (∃ i j, xs = [.int i, .int j] ∧ Q (.int (if j > i then j else i)) H) ∨ rMax K xs H Q
def rMinA (K : PySem.W.Frag) : List V → Hp → VK → Prop := fun xs H Q => (∃ i j, xs = [.int i, .int j] ∧ Q (.int (if j < i then j else i)) H) ∨ rMin K xs H Q
theorem call_maxA (hc : X.calm = true) : CallR X (.builtin "max") (rMaxA X.K) := (call_max2 hc).or (cr_max hc)
theorem call_minA (hc : X.calm = true) : CallR X (.builtin "min") (rMinA X.K) := (call_min2 hc).or (cr_min hc)
theorem cd_max : CallD K w (rMaxA K) maxD := by
  intro vs ds F H Q rv sm h he k
  unfold maxD at he
  split at he
  · cases he
    obtain ⟨v, u, rfl, hv, hu⟩ := h.two
    rw [hv.int, hu.int]
    exact .inl ⟨_, _, rfl, k _ _ new_int⟩
  · rename_i ds'
    split at he
    · cases he
    · rename_i ns q
      split at he
      · cases he
      · rename_i hne
        cases he
        obtain ⟨v, rfl, hv⟩ := h.one
        obtain ⟨a, vs, rfl, ha, ra⟩ := hv.list sm
        rw [intsD_eq q] at ra
        have e := rp_ints ra
        subst e
        refine .inr ⟨a, ns, rfl, SqL.of ha, by cases ns with | nil => exact absurd rfl hne | cons _ _ => exact Nat.succ_pos _, fun m hm hle => ?_⟩
        obtain ⟨m1, m2⟩ := maxL_mem hne
        have : m = maxL ns := Int.le_antisymm (m2 m hm) (hle _ m1)
        rw [this]
        exact k _ _ new_int
  · cases he
theorem cd_min : CallD K w (rMinA K) minD := by
  intro vs ds F H Q rv sm h he k
  unfold minD at he
  split at he
  · cases he
    obtain ⟨v, u, rfl, hv, hu⟩ := h.two
    rw [hv.int, hu.int]
    exact .inl ⟨_, _, rfl, k _ _ new_int⟩
  · rename_i ds'
    split at he
    · cases he
    · rename_i ns q
      split at he
      · cases he
      · rename_i hne
        cases he
        obtain ⟨v, rfl, hv⟩ := h.one
        obtain ⟨a, vs, rfl, ha, ra⟩ := hv.list sm
        rw [intsD_eq q] at ra
        have e := rp_ints ra
        subst e
        refine .inr ⟨a, ns, rfl, SqL.of ha, by cases ns with | nil => exact absurd rfl hne | cons _ _ => exact Nat.succ_pos _, fun m hm hle => ?_⟩
        obtain ⟨m1, m2⟩ := minL_mem hne
        have : m = minL ns := Int.le_antisymm (hle _ m1) (m2 m hm)
        rw [this]
        exact k _ _ new_int
  · cases he
def sumD : List D → Option RV
  | [.list ds] => (intsD ds).map fun ns => .val (.int ns.sum)
  | _ => none
theorem cd_sum : CallD K w (rSum K) sumD := by
  intro vs ds F H Q rv sm h he k
  unfold sumD at he
  split at he
  · rename_i ds'
    cases q : intsD ds' with
    | none => rw [q] at he; cases he
    | some ns =>
      rw [q] at he; cases he
      obtain ⟨v, rfl, hv⟩ := h.one
      obtain ⟨a, vs, rfl, ha, ra⟩ := hv.list sm
      rw [intsD_eq q] at ra
      have e := rp_ints ra
      subst e
      exact ⟨a, ns, rfl, SqL.of ha, k _ _ new_int⟩
  · cases he
def boolsD : List D → Option (List Bool)
  | [] => some []
  | .bool i :: ds => (boolsD ds).map (i :: ·)
  | _ => none
theorem boolsD_eq : ∀ {ds : List D} {ns : List Bool}, boolsD ds = some ns → ds = ns.map .bool
  | [], ns, h => by cases h; rfl
  | d :: ds, ns, h => by
    cases d with
    | bool i =>
      unfold boolsD at h
      cases q : boolsD ds with
      | none => rw [q] at h; cases h
      | some ms => rw [q] at h; cases h; rw [boolsD_eq q]; rfl
    | _ => cases h
theorem rp_bools : ∀ {ns : List Bool} {vs : List V}, RpAll K F vs (ns.map .bool) → vs = ns.map .bl
  | [], _, h => by cases h; rfl
  | n :: ns, _, h => by
    cases h with
    | cons a b => cases a; rw [rp_bools b]; rfl
def allD : List D → Option RV
  | [.list ds] => (boolsD ds).map fun ns => .val (.bool (ns.all id))
  | _ => none
def anyD : List D → Option RV
  | [.list ds] => (boolsD ds).map fun ns => .val (.bool (ns.any id))
  | _ => none
theorem cd_all : CallD K w (rAll K) allD := by
  intro vs ds F H Q rv sm h he k
  unfold allD at he
  split at he
  · rename_i ds'
    cases q : boolsD ds' with
    | none => rw [q] at he; cases he
    | some ns =>
      rw [q] at he; cases he
      obtain ⟨v, rfl, hv⟩ := h.one
      obtain ⟨a, vs, rfl, ha, ra⟩ := hv.list sm
      rw [boolsD_eq q] at ra
      have e := rp_bools ra
      subst e
      exact ⟨a, ns, rfl, SqL.of ha, k _ _ new_bl⟩
  · cases he
theorem cd_any : CallD K w (rAny K) anyD := by
  intro vs ds F H Q rv sm h he k
  unfold anyD at he
  split at he
  · rename_i ds'
    cases q : boolsD ds' with
    | none => rw [q] at he; cases he
    | some ns =>
      rw [q] at he; cases he
      obtain ⟨v, rfl, hv⟩ := h.one
      obtain ⟨a, vs, rfl, ha, ra⟩ := hv.list sm
      rw [boolsD_eq q] at ra
      have e := rp_bools ra
      subst e
      exact ⟨a, ns, rfl, SqL.of ha, k _ _ new_bl⟩
  · cases he
def intD1 : List D → Option RV
  | [.int i] => some (.val (.int i))
  | [.bool b] => some (.val (.int (if b = true then 1 else 0)))
  | _ => none
theorem cd_int : CallD K w (fun xs H Q => (∃ i, xs = [.int i] ∧ Q (.int i) H) ∨ ∃ k, xs = [.bl k] ∧ Q (.int (if k then 1 else 0)) H) intD1 := by
  intro vs ds F H Q rv sm h he k
  unfold intD1 at he
  split at he
  · cases he
    obtain ⟨v, rfl, hv⟩ := h.one
    rw [hv.int]
    exact .inl ⟨_, rfl, k _ _ new_int⟩
  · cases he
    obtain ⟨v, rfl, hv⟩ := h.one
    rw [hv.bool]
    exact .inr ⟨_, rfl, k _ _ new_int⟩
  · cases he
def strD1 : List D → Option RV
  | [.int i] => if i.natAbs.log2 < 1920 then some (.val (.str (toString i))) else none
  | _ => none
theorem cd_str : CallD K w (fun xs H Q => ∃ i, xs = [.int i] ∧ i.natAbs.log2 < 1920 ∧ Q (.str (toString i)) H) strD1 := by
  intro vs ds F H Q rv sm h he k
  unfold strD1 at he
  split at he
  · split at he
    case isFalse => cases he
    rename_i hc
    cases he
    obtain ⟨v, rfl, hv⟩ := h.one
    rw [hv.int]
    exact ⟨_, rfl, hc, k _ _ new_str⟩
  · cases he
def listD1 : List D → Option RV
  | [.list ds] => some (.tmp (.lst ds))
  | [.tuple ds] => some (.tmp (.lst ds))
  | _ => none
theorem cd_list : CallD K w (fun xs H Q => ∃ p ys, xs = [.ref p] ∧ (SqL K H p ys ∨ SqT K H p ys) ∧ ∀ l, H l = none → Q (.ref l) (upd H l (.lst ys))) listD1 := by
  intro vs ds F H Q rv sm h he k
  unfold listD1 at he
  split at he
  · cases he
    obtain ⟨v, rfl, hv⟩ := h.one
    obtain ⟨a, vs, rfl, ha, ra⟩ := hv.list sm
    exact ⟨a, vs, rfl, .inl (SqL.of ha), fun p hp => k _ _ (new_lst hp ra)⟩
  · cases he
    obtain ⟨v, rfl, hv⟩ := h.one
    obtain ⟨a, vs, rfl, ha, ra⟩ := hv.tuple sm
    exact ⟨a, vs, rfl, .inr (Same.sqt sm ha), fun p hp => k _ _ (new_lst hp ra)⟩
  · cases he
def tupD1 : List D → Option RV
  | [.list ds] => some (.val (.tuple ds))
  | [.tuple ds] => some (.val (.tuple ds))
  | _ => none
theorem cd_tup : CallD K w (fun xs H Q => ∃ p ys, xs = [.ref p] ∧ ((SqL K H p ys ∧ ∀ l, H l = none → Q (.ref l) (upd H l (.tup ys))) ∨ (SqT K H p ys ∧ Q (.ref p) H))) tupD1 := by
  intro vs ds F H Q rv sm h he k
  unfold tupD1 at he
  split at he
  · cases he
    obtain ⟨v, rfl, hv⟩ := h.one
    obtain ⟨a, vs, rfl, ha, ra⟩ := hv.list sm
    exact ⟨a, vs, rfl, .inl ⟨SqL.of ha, fun p hp => k _ _ (new_tup sm hp ra)⟩⟩
  · cases he
    obtain ⟨v, rfl, hv⟩ := h.one
    obtain ⟨a, vs, rfl, ha, ra⟩ := hv.tuple sm
    exact ⟨a, vs, rfl, .inr ⟨Same.sqt sm ha, k _ _ (new_old (.tup ha ra))⟩⟩
  · cases he
/-! ### isinstance -/
def tyD : D → String
  | .none => "NoneType"
  | .bool _ => "bool"
  | .int _ => "int"
  | .str _ => "str"
  | .list _ => "list"
  | .tuple _ => "tuple"
  | .dict _ => "dict"
def isScr : D → Bool
  | .dict _ => true
  | _ => false
def kitD (d : D) (T : String) : Option Bool := match d with
  | .dict _ => none
  | d => kitB (tyD d) T
theorem kitD_eq {d : D} {T : String} {b : Bool} (h : kitD d T = some b) : kitB (tyD d) T = some b ∧ isScr d = false := by
  cases d <;> first | exact ⟨h, rfl⟩ | cases h
theorem RdV.tyx {v : V} {d : D} (h : RdV K F H v d) (sm : Same F H) (ns : isScr d = false) : TyX K H v (.type (tyD d)) := by
  rcases h with h | ⟨a, vs, ds, rfl, rfl, q1, q2⟩
  · cases h with
    | non => exact .base .non
    | bl b => exact .base (.bl b)
    | int i => exact .base (.int i)
    | str x => exact .base (.str x)
    | lst q1 q2 => exact .base (.lst (sm _ _ q1))
    | tup q1 q2 =>
      rcases q1 with (q1 | ⟨o, q1⟩) | ⟨o, its, n, q1, q3, q4, _⟩
      · exact .base (.tup (sm _ _ q1))
      · exact .fTuple (sm _ _ q1)
      · exact .kTuple q1 q3
    | scr q1 => cases ns
  · exact .base (.lst q1)
def mIsi (T : String) (m : Sl → Option (RV × Sl)) : Sl → Option (RV × Sl) := fun ρ => match m ρ with
  | none => none
  | some (r, ρ1) => match rd ρ1 r with
    | none => none
    | some d => match kitD d T with
      | none => none
      | some b => some (.val (.bool b), ρ1)
theorem ev_isi {e : Expr} {T : Str} {Ts : String} {p p2 pos : Pos} {m : Sl → Option (RV × Sl)} (hg : Gl X "isinstance") (hm : X.mg "isinstance" = none) (hgT : Gl X T) (hmT : X.mg T = none) (hv : bootBuiltins T = some (.type Ts)) (he : EvE X e m)
    (hn : T ≠ "__name__" := by decide) (hd : (T == ("__debug__" : Str)) = false := by decide) (hst : starEach (e :: [.Name T p2]) X.env = (false, eval e X.env) :: starEach [.Name T p2] X.env := by rfl) (hst2 : starEach ((.Name T p2) :: []) X.env = (false, eval (.Name T p2) X.env) :: starEach [] X.env := by rfl)
    (hpl : (backTo pos (starEach [.Name T p2] X.env)).any (·.1) = false := by rfl) : EvE X (.Call (.Name "isinstance" p) [e, .Name T p2] [] pos) (mIsi Ts m) := by
  refine ⟨(pe_callB call_isi hg hm (by decide +kernel) (pa_cons he.pe (pa_cons (pe_bltn (v := .ty Ts) hgT hmT hv rfl hn hd) pa_nil hst2) hst) (by decide) (by decide) hst hpl).imp fun σ H Q ⟨as, F, ρ, r, ρ', R, e, k⟩ => ?_⟩
  unfold mIsi at e
  cases q : m ρ with
  | none => rw [q] at e; cases e
  | some p =>
    obtain ⟨r1, ρ1⟩ := p
    rw [q] at e
    dsimp only at e
    cases q1 : rd ρ1 r1 with
    | none => rw [q1] at e; cases e
    | some d =>
      rw [q1] at e
      dsimp only at e
      cases q2 : kitD d Ts with
      | none => rw [q2] at e; cases e
      | some b =>
        rw [q2] at e; cases e
        exact ⟨as, F, ρ, r1, _, R, q, fun v F1 H1 S1 R1 y => ⟨v, .ty Ts, .type (tyD d), .type Ts, b, rfl, .ty Ts, (y.read R1 q1).tyx R1.sub (kitD_eq q2).2, kit_ty (kitD_eq q2).1, k _ F1 H1 S1 R1 (.bl _)⟩⟩

/-! ### a op b op' c -/
def mChain (f g : D → D → Option RV) (ma mb mc : Sl → Option (RV × Sl)) : Sl → Option (RV × Sl) := fun ρ => match ma ρ with
  | none => none
  | some (ra, ρ1) => match mb ρ1 with
    | none => none
    | some (rb, ρ2) => match rd ρ2 ra, rd ρ2 rb with
      | some x, some y => (match f x y with
        | some (.val (.bool false)) => some (.val (.bool false), ρ2)
        | some (.val (.bool true)) => (match mc ρ2 with
          | none => none
          | some (rc, ρ3) => match rd ρ3 rb, rd ρ3 rc with
            | some y', some z => (match g y' z with
              | some rv => some (rv, ρ3)
              | none => none)
            | _, _ => none)
        | _ => none)
      | _, _ => none
theorem ev_chain {op op' : CmpOp} {a b c : Expr} {pos : Pos} {r r' : R2} {f g : D → D → Option RV} {ma mb mc : Sl → Option (RV × Sl)} (hr : OpR X (compareOp op) r) (ho : OpD X.K X.w r f) (hr' : OpR X (compareOp op') r') (ho' : OpD X.K X.w r' g)
    (ha : EvE X a ma) (hb : EvE X b mb) (hc : EvE X c mc) (hm : lastMarks [op, op'] [b, c] = false := by with_unfolding_all rfl) : EvE X (.Compare a [op, op'] [b, c] pos) (mChain f g ma mb mc) := by
  refine ⟨(pe_chain hr hr' ha.pe hb.pe hc.pe hm).imp fun σ H Q ⟨as, F, ρ, rr, ρ', R, e, k⟩ => ?_⟩
  unfold mChain at e
  cases q : ma ρ with
  | none => rw [q] at e; cases e
  | some p =>
    obtain ⟨ra, ρ1⟩ := p
    rw [q] at e
    dsimp only at e
    cases q1 : mb ρ1 with
    | none => rw [q1] at e; cases e
    | some p1 =>
      obtain ⟨rb, ρ2⟩ := p1
      rw [q1] at e
      dsimp only at e
      refine ⟨as, F, ρ, ra, ρ1, R, q, fun v F1 H1 S1 R1 y1 => ⟨as, F1, ρ1, rb, ρ2, R1, q1, fun u F2 H2 S2 R2 y2 => ?_⟩⟩
      cases q2 : rd ρ2 ra with
      | none => rw [q2] at e; cases e
      | some x =>
        cases q3 : rd ρ2 rb with
        | none => rw [q2, q3] at e; cases e
        | some y =>
          rw [q2, q3] at e
          dsimp only at e
          cases q4 : f x y with
          | none => rw [q4] at e; cases e
          | some rv =>
            rw [q4] at e
            refine ho v u x y F2 H2 _ _ R2.sub ((y1.step S2).read R2 q2) (y2.read R2 q3) q4 fun z H3 nz => ?_
            cases rv with
            | tmp o => cases e
            | sl i => cases e
            | val d =>
              cases d with
              | bool t =>
                rcases nz with ⟨rfl, nz⟩ | ⟨a, o, _, _, _, nz⟩
                case inr => 
                  rename_i h1 h2 h3
                  subst h1
                  cases nz
                cases nz
                refine ⟨t, rfl, ?_⟩
                cases t with
                | false =>
                  cases e
                  rw [if_neg Bool.false_ne_true]
                  exact k _ F2 _ (S1.trans S2) R2 (.bl false)
                | true =>
                  rw [if_pos rfl]
                  dsimp only at e
                  cases q5 : mc ρ2 with
                  | none => rw [q5] at e; cases e
                  | some p5 =>
                    obtain ⟨rc, ρ3⟩ := p5
                    rw [q5] at e
                    dsimp only at e
                    refine ⟨as, F2, ρ2, rc, ρ3, R2, q5, fun z' F4 H4 S4 R4 y4 => ?_⟩
                    cases q6 : rd ρ3 rb with
                    | none => rw [q6] at e; cases e
                    | some y' =>
                      cases q7 : rd ρ3 rc with
                      | none => rw [q6, q7] at e; cases e
                      | some zz =>
                        rw [q6, q7] at e
                        dsimp only at e
                        cases q8 : g y' zz with
                        | none => rw [q8] at e; cases e
                        | some rv' =>
                          rw [q8] at e; cases e
                          refine ho' u z' y' zz F4 H4 _ _ R4.sub ((y2.step S4).read R4 q6) (y4.read R4 q7) q8 fun z3 H5 nz => ?_
                          obtain ⟨F5, S5, R5, y5⟩ := nz.fin R4
                          exact k z3 F5 H5 (S1.trans (S2.trans (S4.trans S5))) R5 (y5.low fun b hb => S1.there b (S2.there b (S4.there b hb)))
              | _ => cases e
end
end Wk
set_option Elab.async false
set_option linter.all false
set_option maxRecDepth 100000
set_option maxHeartbeats 4000000
namespace Wk
open PySem PySem.Spec PyProof.Rows L2
section
variable {K : PySem.W.Frag} {w : World} {as : List V} {F H F1 H1 F2 H2 F' H' : Hp} {σ σ1 σ2 σ' : Stt} {ρ ρ1 ρ2 ρ' : Sl} {X : Cx}
/-! ### methods of own lists -/
/-- x.m(args), x an own list in slot i: what it gives, the list behind it -/
def mOwnL (i : Nat) (f : List D → List D → Option (D × List D)) (ma : Sl → Option (List RV × Sl)) : Sl → Option (RV × Sl) := fun ρ => match slot ρ i with
  | .own _ (.lst _) => (match mCold ma ρ with
    | none => none
    | some (es, ρ1) => match slot ρ1 i with
      | .own t (.lst ds) => (match f ds es with
        | none => none
        | some (d, ds') => some (.val d, ρ1.set i (.own t (.lst ds'))))
      | _ => none)
  | _ => none
/-- a method's rule, by values: r at the list's address -/
def OwnD (K : PySem.W.Frag) (r : V → List V → Hp → VK → Prop) (f : List D → List D → Option (D × List D)) : Prop := ∀ (a : Addr) (vs us : List V) (ds es ds' : List D) (d : D) (F H : Hp) (Q : VK), Same F H → H a = some (.lst vs) → RpAll K F vs ds → RpAll K F us es → f ds es = some (d, ds') →
  (∀ v vs', Rp K F v d → RpAll K F vs' ds' → Q v (upd H a (.lst vs'))) → r (.ref a) us H Q
theorem own_ok {i : Nat} {r : V → List V → Hp → VK → Prop} {f : List D → List D → Option (D × List D)} {ma : Sl → Option (List RV × Sl)} {Q : VK} {rr : RV} (ho : OwnD K r f) (R : Rep K w as F H σ ρ) (e : mOwnL i f ma ρ = some (rr, ρ'))
    (k : ∀ v F' H', Step F H σ ρ F' H' σ ρ' → Rep K w as F' H' σ ρ' → RepR K w H F' H' σ ρ' v rr → Q v H') : tBM K "list" r (tVar i) (tA' K w ma) σ H Q := by
  unfold mOwnL at e
  cases z0 : slot ρ i with
  | un => simp only [z0] at e; cases e
  | val d => simp only [z0] at e; cases e
  | own t0 o0 =>
    simp only [z0] at e
    cases o0 with
    | dct _ => cases e
    | lst ds0 =>
      dsimp only at e
      obtain ⟨a, ha, _, ⟨us0, h0, _⟩, _⟩ := R.own_at z0
      refine ⟨.ref a, place_get ha, .inl ⟨rfl, us0, SqL.of h0⟩, ?_⟩
      cases q : mCold ma ρ with
      | none => rw [q] at e; cases e
      | some p =>
        obtain ⟨es, ρ1⟩ := p
        rw [q] at e
        dsimp only at e
        cases z : slot ρ1 i with
        | un => simp only [z] at e; cases e
        | val d => simp only [z] at e; cases e
        | own t o =>
          simp only [z] at e
          cases o with
          | dct _ => cases e
          | lst ds =>
            dsimp only at e
            cases q1 : f ds es with
            | none => rw [q1] at e; cases e
            | some p1 =>
              obtain ⟨d, ds'⟩ := p1
              rw [q1] at e
              cases e
              refine cold_args R q fun vs F1 H1 S1 R1 y => ?_
              obtain ⟨a', h1, h2, ⟨us, h3, h4⟩, _⟩ := R1.own_at z
              rw [ha] at h1; cases h1
              refine ho a us vs ds es ds' d F1 H1 Q R1.sub h3 h4 y q1 fun v vs' rv ra => ?_
              obtain ⟨R2, S2⟩ := R1.mut z ha (o' := .lst ds') ⟨vs', upd_same, ra⟩
              exact k v F1 _ (S1.trans S2) R2 rv
theorem ev_own {i : Nat} {x name : Str} {apos cpos npos : Pos} {id : String} {e : Expr} {es : List Expr} {r : V → List V → Hp → VK → Prop} {f : List D → List D → Option (D × List D)} {ma : Sl → Option (List RV × Sl)} (hslot : Slot "list" name id) (hty : typeOf (.builtin id) = pure (.type "method_descriptor"))
    (hm : MtR X id r) (ho : OwnD X.K r f) (hx : PE X (.Name x npos) (tVar i)) (ha : EvA X (e :: es) ma) (hbase : attributeBase (.Name x npos) name X.env (eval (.Name x npos) X.env) = eval (.Name x npos) X.env := by rfl)
    (hfew : ((backTo cpos (starEach (e :: es) X.env)).all (fun x => !x.1) && (backToKw cpos (keywordEach [] X.env)).all (fun x => x.1.isSome)
      && decide ((e :: es).length + ([] : List Keyword).length + (if ([] : List Keyword).isEmpty then 0 else 1) < 30)) = true := by rfl)
    (hline : (apos.endLine == cpos.line) = true := by rfl) (hs : starEach (e :: es) X.env = (false, eval e X.env) :: starEach es X.env := by rfl) (hplain : (backTo cpos (starEach es X.env)).any (·.1) = false := by rfl) :
    EvE X (.Call (.Attribute (.Name x npos) name apos) (e :: es) [] cpos) (mOwnL i f ma) :=
  ⟨(pe_bm PySem.F.plainAttrs_list hslot hty hm hx ha.pa hbase hfew hline hs hplain).imp fun σ H Q ⟨as, F, ρ, rr, ρ', R, e, k⟩ => own_ok ho R e k⟩
/-- x.pop() -/
theorem own_ok0 {i : Nat} {r : V → List V → Hp → VK → Prop} {f : List D → List D → Option (D × List D)} {Q : VK} {rr : RV} (ho : OwnD K r f) (R : Rep K w as F H σ ρ) (e : mOwnL i f mNil ρ = some (rr, ρ'))
    (k : ∀ v F' H', Step F H σ ρ F' H' σ ρ' → Rep K w as F' H' σ ρ' → RepR K w H F' H' σ ρ' v rr → Q v H') : tBM0 K "list" r (tVar i) σ H Q := by
  unfold mOwnL at e
  cases z : slot ρ i with
  | un => simp only [z] at e; cases e
  | val d => simp only [z] at e; cases e
  | own t o =>
    simp only [z] at e
    cases o with
    | dct _ => cases e
    | lst ds =>
      dsimp only at e
      obtain ⟨a, ha, _, ⟨us0, h0, h4⟩, _⟩ := R.own_at z
      refine ⟨.ref a, place_get ha, .inl ⟨rfl, us0, SqL.of h0⟩, ?_⟩
      have q : mCold mNil ρ = some ([], ρ) := rfl
      rw [q] at e
      dsimp only at e
      simp only [z] at e
      cases q1 : f ds [] with
      | none => rw [q1] at e; cases e
      | some p1 =>
        obtain ⟨d, ds'⟩ := p1
        rw [q1] at e
        cases e
        refine ho a us0 [] ds [] ds' d F H Q R.sub h0 h4 .nil q1 fun v vs' rv ra => ?_
        obtain ⟨R2, S2⟩ := R.mut z ha (o' := .lst ds') ⟨vs', upd_same, ra⟩
        exact k v F _ S2 R2 rv
theorem ev_own0 {i : Nat} {x name : Str} {apos cpos npos : Pos} {id : String} {r : V → List V → Hp → VK → Prop} {f : List D → List D → Option (D × List D)} (hslot : Slot "list" name id) (hty : typeOf (.builtin id) = pure (.type "method_descriptor"))
    (hm : MtR X id r) (ho : OwnD X.K r f) (hx : PE X (.Name x npos) (tVar i)) (hbase : attributeBase (.Name x npos) name X.env (eval (.Name x npos) X.env) = eval (.Name x npos) X.env := by rfl)
    (hline : (apos.endLine == cpos.line) = true := by rfl) :
    EvE X (.Call (.Attribute (.Name x npos) name apos) [] [] cpos) (mOwnL i f mNil) :=
  ⟨(pe_bm0 PySem.F.plainAttrs_list hslot hty hm hx hbase hline).imp fun σ H Q ⟨as, F, ρ, rr, ρ', R, e, k⟩ => own_ok0 ho R e k⟩
def appD : List D → List D → Option (D × List D)
  | ds, [d] => if ds.length < sizeLine then some (.none, ds ++ [d]) else none
  | _, _ => none
theorem ow_app : OwnD K rAppend appD := by
  intro a vs us ds es ds' d F H Q sm ha ra ru he k
  unfold appD at he
  split at he
  · split at he
    case isFalse => cases he
    rename_i hl
    cases he
    cases ru with
    | cons r1 r2 =>
      cases r2
      exact ⟨a, vs, _, rfl, rfl, ha, by rw [ra.length]; exact hl, k _ _ .non (ra.append (.cons r1 .nil))⟩
  · cases he
noncomputable def popAtD : List D → List D → Option (D × List D)
  | ds, [.int i] => iteC (-(2 ^ 63) ≤ i ∧ i < 2 ^ 63) (match seqIndex? i ds.length with
    | none => none
    | some j => match ds[j]? with
      | none => none
      | some d => some (d, ds.eraseIdx j)) none
  | _, _ => none
theorem ow_popAt : OwnD K rPopAt popAtD := by
  intro a vs us ds es ds' d F H Q sm ha ra ru he k
  unfold popAtD at he
  split at he
  · unfold iteC at he
    split at he
    case isFalse => cases he
    rename_i i hl
    split at he
    · cases he
    · rename_i j hj
      split at he
      · cases he
      · rename_i d' hd
        cases he
        obtain ⟨v, hv, rv⟩ := ra.get hd
        cases ru with
        | cons r1 r2 =>
          cases r2
          cases r1
          exact ⟨a, vs, i, j, v, rfl, rfl, ha, hl.1, hl.2, by rw [ra.length]; exact hj, hv, k _ _ rv (ra.erase j)⟩
  · cases he
def popD : List D → List D → Option (D × List D)
  | ds, [] => match ds[ds.length - 1]? with
    | none => none
    | some d => some (d, ds.dropLast)
  | _, _ => none
theorem ow_pop : OwnD K rPop popD := by
  intro a vs us ds es ds' d F H Q sm ha ra ru he k
  unfold popD at he
  split at he
  · split at he
    · cases he
    · rename_i d' hd
      cases he
      cases ru
      obtain ⟨v, hv, rv⟩ := ra.get hd
      exact ⟨a, vs, v, rfl, rfl, ha, by rw [ra.length]; exact hv, k _ _ rv ra.dropLast⟩
  · cases he
def extD : List D → List D → Option (D × List D)
  | ds, [.list es] => if ds.length + es.length ≤ sizeLine then some (.none, ds ++ es) else none
  | _, _ => none
/-- x.extend(e): e a list -/
def mExt (i : Nat) (ma : Sl → Option (List RV × Sl)) : Sl → Option (RV × Sl) := mOwnL i extD ma
theorem ow_ext : OwnD K rExtend extD := by
  intro a vs us ds es ds' d F H Q sm ha ra ru he k
  unfold extD at he
  split at he
  · split at he
    case isFalse => cases he
    rename_i hl
    cases he
    cases ru with
    | cons r1 r2 =>
      cases r2
      cases r1 with
      | lst h1 h2 => exact ⟨a, _, vs, _, rfl, rfl, ha, sm _ _ h1, by rw [ra.length, h2.length]; exact hl, k _ _ .non (ra.append h2)⟩
  · cases he
/-- x[i] = e, x an own list -/
def mSetIx (i : Nat) (mi mv : Sl → Option (RV × Sl)) : Sl → Option Fl := fun ρ => match mv ρ with
  | none => none
  | some (r, ρ1) => match cold r ρ1 with
    | none => none
    | some (d, ρ2) => match slot ρ2 i with
      | .own t (.lst _) => (match mi ρ2 with
        | some (.val (.int j), ρ3) => (match slot ρ3 i with
          | .own t' (.lst ds') => (match ixN ds'.length j with
            | none => none
            | some n => some (.nx (ρ3.set i (.own t' (.lst (ds'.set n d))))))
          | _ => none)
        | _ => none)
      | _ => none
theorem es_setIx {i : Nat} {x : Str} {ix e : Expr} {npos spos pos : Pos} {mi mv : Sl → Option (RV × Sl)} (hx : PE X (.Name x npos) (tVar i)) (hi : EvE X ix mi) (hv : EvE X e mv)
    (ha : ∀ v, assign (.Subscript (.Name x npos) ix spos) X.env v = (do
      let ov ← holding [v] (eval (.Name x npos) X.env)
      let iv ← holding [v, ov] (eval ix X.env)
      standAt spos
      holding [v, ov, iv] (setItem ov iv v)
      release [v, ov, iv] []) := by intro _; rfl)
    (hs : swapsWithSole [.Subscript (.Name x npos) ix spos] e pos.line X.env = pure false := by rfl) (hw : swappedStores [.Subscript (.Name x npos) ix spos] e X.env = pure none := by rfl)
    (h1 : (assignEach [.Subscript (.Name x npos) ix spos] X.env).map (·.2) = [assign (.Subscript (.Name x npos) ix spos) X.env] := by rfl) : EvS X (.Assign [.Subscript (.Name x npos) ix spos] e pos) (mSetIx i mi mv) := by
  refine ⟨(ps_asg hv.pe (pg_sub hx hi.pe set_list ha) hs hw h1).imp fun Dn σ H ⟨as, F, ρ, f, R, e, k⟩ => ?_⟩
  unfold mSetIx at e
  cases q : mv ρ with
  | none => rw [q] at e; cases e
  | some p =>
    obtain ⟨r, ρ1⟩ := p
    rw [q] at e
    dsimp only at e
    cases q1 : Wk.cold r ρ1 with
    | none => rw [q1] at e; cases e
    | some p1 =>
      obtain ⟨d, ρ2⟩ := p1
      rw [q1] at e
      dsimp only at e
      cases z : slot ρ2 i with
      | un => simp only [z] at e; cases e
      | val d => simp only [z] at e; cases e
      | own t o =>
        simp only [z] at e
        cases o with
        | dct _ => cases e
        | lst ds =>
          dsimp only at e
          refine ⟨as, F, ρ, r, ρ1, R, q, fun v F1 H1 S1 R1 y => ?_⟩
          obtain ⟨F2, R2, S2, y2, _⟩ := y.cold S1 R1 q1
          obtain ⟨a, ha2, _, _, _⟩ := R2.own_at z
          refine ⟨.ref a, place_get ha2, ?_⟩
          split at e
          · rename_i j ρ3 q3
            refine ⟨as, F2, ρ2, _, ρ3, R2, q3, fun u F3 H3 S3 R3 y3 => ?_⟩
            cases y3
            cases z3 : slot ρ3 i with
            | un => simp only [z3] at e; cases e
            | val d => simp only [z3] at e; cases e
            | own t' o' =>
              simp only [z3] at e
              cases o' with
              | dct _ => cases e
              | lst ds' =>
                dsimp only at e
                cases q4 : ixN ds'.length j with
                | none => rw [q4] at e; cases e
                | some n =>
                  rw [q4] at e
                  cases e
                  obtain ⟨a', h3, _, ⟨us, h4, h5⟩, _⟩ := R3.own_at z3
                  rw [ha2] at h3; cases h3
                  refine ⟨a, us, j, n, rfl, rfl, h4, by rw [h5.length]; exact q4, ?_⟩
                  obtain ⟨R4, S4⟩ := R3.mut z3 ha2 (o' := .lst (ds'.set n d)) (u := .lst (us.set n v)) ⟨_, upd_same, h5.set (y2.up S3.mono) n⟩
                  exact k σ F3 _ (S2.trans (S3.trans S4)) R4
          · cases e
/-! ### several names at once -/
/-- no name of an own object -/
def cool (r : RV) (ρ : Sl) : Option (RV × Sl) := match r with
  | .sl i => match cold (.sl i) ρ with
    | none => none
    | some (d, ρ1) => some (.val d, ρ1)
  | r => some (r, ρ)

theorem cool_len {r r' : RV} (e : cool r ρ = some (r', ρ')) : ρ'.length = ρ.length := by
  cases r with
  | val d => cases e; rfl
  | tmp o => cases e; rfl
  | sl i =>
    unfold cool at e
    dsimp only at e
    cases q : Wk.cold (.sl i) ρ with
    | none => rw [q] at e; cases e
    | some p => rw [q] at e; cases e; exact cold_len q
theorem RepR.cool {r r' : RV} {v : V} {F0 H0 : Hp} {σ0 : Stt} {ρ0 : Sl} (S : Step F0 H0 σ0 ρ0 F H σ ρ) (R : Rep K w as F H σ ρ) (h : RepR K w H0 F H σ ρ v r) (e : Wk.cool r ρ = some (r', ρ')) :
    ∃ F', Rep K w as F' H σ ρ' ∧ Step F0 H0 σ0 ρ0 F' H σ ρ' ∧ RepR K w H0 F' H σ ρ' v r' ∧ Same F F' ∧ Step F H σ ρ F' H σ ρ' ∧ ∀ j, r' ≠ .sl j := by
  cases r with
  | val d => cases e; exact ⟨F, R, S, h, Same.refl _, .refl, fun _ z => nomatch z⟩
  | tmp o => cases e; exact ⟨F, R, S, h, Same.refl _, .refl, fun _ z => nomatch z⟩
  | sl i =>
    unfold Wk.cool at e
    dsimp only at e
    cases q : Wk.cold (.sl i) ρ with
    | none => rw [q] at e; cases e
    | some p =>
      obtain ⟨d, ρ1⟩ := p
      rw [q] at e; cases e
      obtain ⟨F1, R1, S1, y, m⟩ := RepR.cold (H0 := H) (r := .sl i) (v := v) .refl R h q
      exact ⟨F1, R1, S.trans S1, y, m, S1, fun _ z => nomatch z⟩
/-- behind a store elsewhere -/
theorem RepR.aside {r : RV} {v : V} {H0 : Hp} {i : Nat} {x : Option V} {s : SV} (h : RepR K w H0 F H σ ρ v r) (n : ∀ j, r ≠ .sl j) (o : ∀ b o', r = .tmp o' → v = .ref b → Own (σ.set i x) (ρ.set i s) b → Own σ ρ b) : RepR K w H0 F H (σ.set i x) (ρ.set i s) v r := by
  cases r with
  | val d => exact h
  | sl j => exact absurd rfl (n j)
  | tmp o' =>
    obtain ⟨a, rfl, h0, hf, q, nO⟩ := h
    exact ⟨a, rfl, h0, hf, q, fun z => nO (o a o' rfl rfl z)⟩
def mPar2 (i j : Nat) (ma mb : Sl → Option (RV × Sl)) : Sl → Option Fl := fun ρ => match ma ρ with
  | none => none
  | some (ra, ρ1) => match mb ρ1 with
    | none => none
    | some (rb, ρ2) => match cool ra ρ2 with
      | none => none
      | some (ra', ρ3) => match cool rb ρ3 with
        | none => none
        | some (rb', ρ4) => match putR i ra' ρ4 with
          | none => none
          | some ρ5 => match putR j rb' ρ5 with
            | none => none
            | some ρ6 => some (.nx ρ6)
def svOf : RV → SV
  | .val d => .val d
  | .tmp o => .own none o
  | .sl _ => .un
theorem putR_shape {i : Nat} {r : RV} (n : ∀ j, r ≠ .sl j) (e : putR i r ρ = some ρ') : i < ρ.length ∧ ∃ s, ρ' = ρ.set i s ∧ s = svOf r := by
  unfold putR at e
  split at e
  case isFalse => cases e
  rename_i hi
  cases r with
  | val d => cases e; exact ⟨hi, _, rfl, rfl⟩
  | tmp o => cases e; exact ⟨hi, _, rfl, rfl⟩
  | sl j => exact absurd rfl (n j)
theorem RepR.put_plain {r : RV} {v : V} {i : Nat} {F0 H0 : Hp} {σ0 : Stt} {ρ0 : Sl} (S : Step F0 H0 σ0 ρ0 F H σ ρ) (R : Rep K w as F H σ ρ) (h : RepR K w H0 F H σ ρ v r) (n : ∀ j, r ≠ .sl j) (e : putR i r ρ = some ρ') :
    Step F0 H0 σ0 ρ0 F H (σ.set i (some v)) ρ' ∧ Rep K w as F H (σ.set i (some v)) ρ' := by
  obtain ⟨hi, s, rfl, hs⟩ := putR_shape n e
  cases r with
  | val d => cases hs; exact ⟨S.put R hi (fun _ _ _ z => nomatch z), R.put hi ⟨v, rfl, h⟩ (fun _ _ _ z => nomatch z)⟩
  | sl j => exact absurd rfl (n j)
  | tmp o =>
    cases hs
    obtain ⟨a, rfl, h0, hf, q, nO⟩ := h
    refine ⟨S.put R hi (fun t o b e1 e2 => ?_), R.put hi ⟨a, rfl, hf, q, fun j z => nomatch z⟩ (fun t o b e1 e2 => ?_)⟩
    · cases e1; cases e2; exact ⟨rfl, h0⟩
    · cases e1; cases e2; exact ⟨rfl, nO⟩
theorem put_own {i : Nat} {v : V} {r : RV} {H0 : Hp} {b : Addr} (n : ∀ j, r ≠ .sl j) (e : putR i r ρ = some ρ') (hl : ρ.length = σ.length) (h : RepR K w H0 F H σ ρ v r) (z : Own (σ.set i (some v)) ρ' b) : Own σ ρ b ∨ (v = .ref b ∧ H0 b = none ∧ ∃ o, r = .tmp o) := by
  obtain ⟨hi, s, rfl, hs⟩ := putR_shape n e
  obtain ⟨j, t, o, z1, z2⟩ := z
  by_cases ej : i = j
  · subst ej
    rw [slot_set_same hi] at z1
    rw [place_set_same (by omega)] at z2
    cases r with
    | val d => rw [hs] at z1; cases z1
    | sl j => exact absurd rfl (n j)
    | tmp o' =>
      obtain ⟨a, rfl, h0, _⟩ := h
      cases z2
      exact .inr ⟨rfl, h0, o', rfl⟩
  · rw [slot_set_ne ej] at z1
    rw [place_set_ne ej] at z2
    exact .inl ⟨j, t, o, z1, z2⟩
theorem es_par2 {i j : Nat} {x y : Str} {a b : Expr} {px py pt pos : Pos} {kt k2 pt2} {ma mb : Sl → Option (RV × Sl)} (hc : X.calm = true) (hN : X.N.Nodup) (hi : X.N[i]? = some x) (hj : X.N[j]? = some y) (hij : i ≠ j)
    (hx : X.env.scope.names.lookup x = some .local) (hy : X.env.scope.names.lookup y = some .local) (ha : EvE X a ma) (hb : EvE X b mb) (hsa : starEach [a, b] X.env = (false, eval a X.env) :: starEach [b] X.env) (hsb : starEach [b] X.env = (false, eval b X.env) :: starEach [] X.env)
    (hw : swappedStores [.Tuple [.Name x px, .Name y py] kt pt] (.Tuple [a, b] k2 pt2) X.env = pure (some [x, y]))
    (hs : swapsWithSole [.Tuple [.Name x px, .Name y py] kt pt] (.Tuple [a, b] k2 pt2) pos.line X.env = pure false := by rfl) : EvS X (.Assign [.Tuple [.Name x px, .Name y py] kt pt] (.Tuple [a, b] k2 pt2) pos) (mPar2 i j ma mb) := by
  refine ⟨(ps_par hc hN hi hj hij hx hy (pa_cons ha.pe (pa_cons hb.pe pa_nil hsb) hsa) hw hs).imp fun Dn σ H ⟨as, F, ρ, f, R, e, k⟩ => ?_⟩
  unfold mPar2 at e
  cases q1 : ma ρ with
  | none => rw [q1] at e; cases e
  | some p =>
    obtain ⟨ra, ρ1⟩ := p
    rw [q1] at e
    dsimp only at e
    cases q2 : mb ρ1 with
    | none => rw [q2] at e; cases e
    | some p =>
      obtain ⟨rb, ρ2⟩ := p
      rw [q2] at e
      dsimp only at e
      cases q3 : Wk.cool ra ρ2 with
      | none => rw [q3] at e; cases e
      | some p =>
        obtain ⟨ra', ρ3⟩ := p
        rw [q3] at e
        dsimp only at e
        cases q4 : Wk.cool rb ρ3 with
        | none => rw [q4] at e; cases e
        | some p =>
          obtain ⟨rb', ρ4⟩ := p
          rw [q4] at e
          dsimp only at e
          cases q5 : putR i ra' ρ4 with
          | none => rw [q5] at e; cases e
          | some ρ5 =>
            rw [q5] at e
            dsimp only at e
            cases q6 : putR j rb' ρ5 with
            | none => rw [q6] at e; cases e
            | some ρ6 =>
              rw [q6] at e
              cases e
              refine ⟨as, F, ρ, ra, ρ1, R, q1, fun v F1 H1 S1 R1 y1 => ⟨as, F1, ρ1, rb, ρ2, R1, q2, fun u F2 H2 S2 R2 y2 => ⟨v, u, rfl, ?_⟩⟩⟩
              have S12 := S1.trans S2
              obtain ⟨F3, R3, S3, y3, m3, T3, n3⟩ := (y1.step S2).cool S12 R2 q3
              have y2' : RepR X.K X.w H1 F3 H2 σ ρ3 u rb := y2.step T3
              obtain ⟨F4, R4, S4, y4, m4, T4, n4⟩ := y2'.cool (S2.trans T3) R3 q4
              have y3' := y3.step T4
              have S04 := S3.trans T4
              obtain ⟨S5, R5⟩ := y3'.put_plain S04 R4 n3 q5
              have y5 : RepR X.K X.w H1 F4 H2 (σ.set i (some v)) ρ5 u rb' := by
                obtain ⟨hi5, s5, e5, _⟩ := putR_shape n3 q5
                rw [e5]
                refine y4.aside n4 fun b o2 er eb z => ?_
                rw [← e5] at z
                rcases put_own n3 q5 R4.len y3' z with z | ⟨ev, _, o1, e1⟩
                · exact z
                · exfalso
                  -- both new, made one after the other
                  subst er e1
                  obtain ⟨a2, e2, h2, _⟩ := y4
                  rw [eb] at e2; cases e2
                  have : ra = .tmp o1 := by
                    cases ra with
                    | tmp o => cases q3; rfl
                    | val d => cases q3
                    | sl k' =>
                      unfold Wk.cool at q3
                      dsimp only at q3
                      cases z2 : Wk.cold (.sl k') ρ2 with
                      | none => rw [z2] at q3; cases q3
                      | some p => rw [z2] at q3; cases q3
                  subst this
                  obtain ⟨a1, e3, _, _, h3, _⟩ := y1
                  rw [ev] at e3; cases e3
                  exact h3.there h2
              obtain ⟨S6, R6⟩ := (y5.low S1.there).put_plain S5 R5 n4 q6
              exact k _ F4 H2 S6 R6
end
end Wk
set_option Elab.async false
set_option linter.all false
set_option maxRecDepth 100000
set_option maxHeartbeats 4000000
namespace Wk
open PySem PySem.Spec PyProof.Rows L2
section
variable {K : PySem.W.Frag} {w : World} {as : List V} {F H F1 H1 F2 H2 F' H' : Hp} {σ σ1 σ2 σ' : Stt} {ρ ρ1 ρ2 ρ' : Sl} {X : Cx}
/-! ### one operand -/
def UnD (K : PySem.W.Frag) (w : World) (r : V → Hp → VK → Prop) (f : D → Option RV) : Prop := ∀ (x : V) (d : D) (F H : Hp) (Q : VK) (rv : RV), Same F H → RdV K F H x d → f d = some rv → (∀ v H', NewV K w F H H' v rv → Q v H') → r x H Q
def m1 (f : D → Option RV) (ma : Sl → Option (RV × Sl)) : Sl → Option (RV × Sl) := fun ρ => match ma ρ with
  | none => none
  | some (ra, ρ1) => match rd ρ1 ra with
    | none => none
    | some x => match f x with
      | none => none
      | some r => some (r, ρ1)
theorem ev_un {op : UnaryOp} {a : Expr} {pos : Pos} {r : V → Hp → VK → Prop} {f : D → Option RV} {ma : Sl → Option (RV × Sl)} (hr : UnR X (unaryOp op) r) (ho : UnD X.K X.w r f) (ha : EvE X a ma) : EvE X (.UnaryOp op a pos) (m1 f ma) := by
  refine ⟨(pe_un hr ha.pe).imp fun σ H Q ⟨as, F, ρ, r', ρ', R, e, k⟩ => ?_⟩
  unfold m1 at e
  cases q : ma ρ with
  | none => rw [q] at e; cases e
  | some p =>
    obtain ⟨ra, ρ1⟩ := p
    rw [q] at e
    dsimp only at e
    cases q1 : rd ρ1 ra with
    | none => rw [q1] at e; cases e
    | some x =>
      rw [q1] at e
      dsimp only at e
      cases q2 : f x with
      | none => rw [q2] at e; cases e
      | some rr =>
        rw [q2] at e; cases e
        refine ⟨as, F, ρ, ra, _, R, q, fun v F1 H1 S1 R1 y => ho v x F1 H1 Q _ R1.sub (y.read R1 q1) q2 fun z H2 nz => ?_⟩
        obtain ⟨F2, S2, R2, y2⟩ := nz.fin R1
        exact k z F2 H2 (S1.trans S2) R2 (y2.low S1.there)
def negD : D → Option RV
  | .int i => some (.val (.int (-i)))
  | _ => none
theorem ud_neg : UnD K w (rU fun i => .int (-i)) negD := by
  intro x d F H Q rv sm hx he k
  unfold negD at he
  split at he
  · cases he; rw [hx.int]; exact ⟨_, rfl, k _ _ new_int⟩
  · cases he
/-! ### powers -/
def CPowA (i j : Int) : Prop := 0 ≤ j ∧ (Builtin.Int.intBits i : Int) * j ≤ 2 ^ 27
instance (i j : Int) : Decidable (CPowA i j) := by unfold CPowA; infer_instance
theorem op_powA : OpR X (binaryOp .Pow) (rI CPowA fun i j => .int (i ^ j.toNat)) := opI fun _ _ _ _ _ _ _ hc q => pow_int hc.1 hc.2 q
def powD : D → D → Option RV := intD CPowA fun i j => i ^ j.toNat
theorem od_pow : OpD K w (rI CPowA fun i j => .int (i ^ j.toNat)) powD := od_int fun _ _ h => h
theorem od_div : OpD K w (rI CDivW fun i j => .int (i / j)) divD := od_int fun _ _ h => h
theorem od_mod : OpD K w (rI (fun _ j => 0 < j) fun i j => .int (i % j)) modD := od_int fun _ _ h => h
/-! ### comparisons as tests -/
theorem tB_imp {t : TE} {m : Sl → Option (RV × Sl)} (h : ∀ σ H Q, tE K w m σ H Q → t σ H Q) {σ : Stt} {H : Hp} {Q : Bool → Hp → Prop} (q : tT' K w (mB m) σ H Q) : t σ H fun x H' => ∃ k, x = .bl k ∧ Q k H' := by
  obtain ⟨as, F, ρ, b, ρ', R, e, k⟩ := q
  unfold mB at e
  split at e
  · rename_i c ρ1 q1
    cases e
    refine h σ H _ ⟨as, F, ρ, _, _, R, q1, fun v F1 H1 S1 R1 y => ?_⟩
    cases y
    exact ⟨_, rfl, k F1 H1 S1 R1⟩
  · cases e
theorem et_cmp {op : CmpOp} {a b : Expr} {pos : Pos} {r : R2} {f : D → D → Option RV} {ma mb : Sl → Option (RV × Sl)} (hr : OpR X (compareOp op) r) (ho : OpD X.K X.w r f) (ha : EvE X a ma) (hb : EvE X b mb) (hm : behindInMarks op b = false) : EvT X (.Compare a [op] [b] pos) (mB (m2 f ma mb)) :=
  ⟨(pt_cmpR hr ha.pe hb.pe hm).imp fun σ H Q h => tB_imp (fun _ _ _ q => tOp_imp ho q) h⟩
theorem isN_imp {m : Sl → Option (RV × Sl)} {neg : Bool} {σ : Stt} {H : Hp} {Q : VK} (h : tE K w (mIsN neg m) σ H Q) : (tE K w m) σ H fun x H1 => Q (.bl (if neg = true then !decide (x = .non) else decide (x = .non))) H1 := by
  obtain ⟨as, F, ρ, r, ρ', R, e, k⟩ := h
  unfold mIsN at e
  cases q : m ρ with
  | none => rw [q] at e; cases e
  | some p =>
    obtain ⟨r1, ρ1⟩ := p
    rw [q] at e
    dsimp only at e
    cases q1 : rd ρ1 r1 with
    | none => rw [q1] at e; cases e
    | some d =>
      rw [q1] at e; cases e
      refine ⟨as, F, ρ, r1, _, R, q, fun v F1 H1 S1 R1 y => ?_⟩
      have h := (y.read R1 q1).is_non
      show Q (.bl (if neg = true then !decide (v = .non) else decide (v = .non))) H1
      rw [h]
      exact k _ F1 H1 S1 R1 (.bl _)
theorem et_isN {a : Expr} {pos : Pos} {j p'} {m : Sl → Option (RV × Sl)} (ha : EvE X a m) : EvT X (.Compare a [.Is] [.Constant .none j p'] pos) (mB (mIsN false m)) :=
  ⟨(pt_cmp (pc_isN ha.pe) rfl).imp fun σ H Q h => tB_imp (t := tIsN (tE X.K X.w m)) (fun σ H Q q => by have z := isN_imp q; simp only [Bool.false_eq_true, if_false] at z; exact z) h⟩
theorem et_notN {a : Expr} {pos : Pos} {j p'} {m : Sl → Option (RV × Sl)} (ha : EvE X a m) : EvT X (.Compare a [.IsNot] [.Constant .none j p'] pos) (mB (mIsN true m)) :=
  ⟨(pt_cmp (pc_notN ha.pe) rfl).imp fun σ H Q h => tB_imp (t := tNotN (tE X.K X.w m)) (fun σ H Q q => by have z := isN_imp q; simp only [if_true] at z; exact z) h⟩
theorem chain_imp {r r' : R2} {f g : D → D → Option RV} {ma mb mc : Sl → Option (RV × Sl)} (ho : OpD K w r f) (ho' : OpD K w r' g) {σ : Stt} {H : Hp} {Q : VK} (h : tE K w (mChain f g ma mb mc) σ H Q) : tChain r r' (tE K w ma) (tE K w mb) (tE K w mc) σ H Q := by
  obtain ⟨as, F, ρ, rr, ρ', R, e, k⟩ := h
  unfold mChain at e
  cases q : ma ρ with
  | none => rw [q] at e; cases e
  | some p =>
    obtain ⟨ra, ρ1⟩ := p
    rw [q] at e
    dsimp only at e
    cases q1 : mb ρ1 with
    | none => rw [q1] at e; cases e
    | some p1 =>
      obtain ⟨rb, ρ2⟩ := p1
      rw [q1] at e
      dsimp only at e
      refine ⟨as, F, ρ, ra, ρ1, R, q, fun v F1 H1 S1 R1 y1 => ⟨as, F1, ρ1, rb, ρ2, R1, q1, fun u F2 H2 S2 R2 y2 => ?_⟩⟩
      cases q2 : rd ρ2 ra with
      | none => rw [q2] at e; cases e
      | some x =>
        cases q3 : rd ρ2 rb with
        | none => rw [q2, q3] at e; cases e
        | some y =>
          rw [q2, q3] at e
          dsimp only at e
          cases q4 : f x y with
          | none => rw [q4] at e; cases e
          | some rv =>
            rw [q4] at e
            refine ho v u x y F2 H2 _ _ R2.sub ((y1.step S2).read R2 q2) (y2.read R2 q3) q4 fun z H3 nz => ?_
            cases rv with
            | tmp o => cases e
            | sl i => cases e
            | val d =>
              cases d with
              | bool t =>
                rcases nz with ⟨rfl, nz⟩ | ⟨a, o, h1, _, _, nz⟩
                case inr =>
                  subst h1
                  cases nz
                cases nz
                refine ⟨t, rfl, ?_⟩
                cases t with
                | false =>
                  cases e
                  rw [if_neg Bool.false_ne_true]
                  exact k _ F2 _ (S1.trans S2) R2 (.bl false)
                | true =>
                  rw [if_pos rfl]
                  dsimp only at e
                  cases q5 : mc ρ2 with
                  | none => rw [q5] at e; cases e
                  | some p5 =>
                    obtain ⟨rc, ρ3⟩ := p5
                    rw [q5] at e
                    dsimp only at e
                    refine ⟨as, F2, ρ2, rc, ρ3, R2, q5, fun z' F4 H4 S4 R4 y4 => ?_⟩
                    cases q6 : rd ρ3 rb with
                    | none => rw [q6] at e; cases e
                    | some y' =>
                      cases q7 : rd ρ3 rc with
                      | none => rw [q6, q7] at e; cases e
                      | some zz =>
                        rw [q6, q7] at e
                        dsimp only at e
                        cases q8 : g y' zz with
                        | none => rw [q8] at e; cases e
                        | some rv' =>
                          rw [q8] at e; cases e
                          refine ho' u z' y' zz F4 H4 _ _ R4.sub ((y2.step S4).read R4 q6) (y4.read R4 q7) q8 fun z3 H5 nz => ?_
                          obtain ⟨F5, S5, R5, y5⟩ := nz.fin R4
                          exact k z3 F5 H5 (S1.trans (S2.trans (S4.trans S5))) R5 (y5.low fun b hb => S1.there b (S2.there b (S4.there b hb)))
              | _ => cases e
theorem et_chain {op op' : CmpOp} {a b c : Expr} {pos : Pos} {r r' : R2} {f g : D → D → Option RV} {ma mb mc : Sl → Option (RV × Sl)} (hr : OpR X (compareOp op) r) (ho : OpD X.K X.w r f) (hr' : OpR X (compareOp op') r') (ho' : OpD X.K X.w r' g)
    (ha : EvE X a ma) (hb : EvE X b mb) (hc : EvE X c mc) (hm : lastMarks [op, op'] [b, c] = false := by with_unfolding_all rfl) : EvT X (.Compare a [op, op'] [b, c] pos) (mB (mChain f g ma mb mc)) :=
  ⟨(pt_chain hr hr' ha.pe hb.pe hc.pe hm).imp fun σ H Q h => tB_imp (fun _ _ _ q => chain_imp ho ho' q) h⟩
/-! ### methods of values -/
def MethD (K : PySem.W.Frag) (w : World) (T : String) (r : V → List V → Hp → VK → Prop) (f : D → List D → Option RV) : Prop := ∀ (x : V) (d : D) (vs : List V) (ds : List D) (F H : Hp) (Q : VK) (rv : RV), Same F H → RdV K F H x d → RdVs K F H vs ds → f d ds = some rv → (∀ v H', NewV K w F H H' v rv → Q v H') → r x vs H Q
/-- is it a T? -/
def isTy (T : String) (d : D) : Bool := match d with
  | .str _ => T == "str"
  | .int _ => T == "int"
  | .list _ => T == "list"
  | _ => false
theorem tyV_of {T : String} {x : V} {d : D} (h : RdV K F H x d) (sm : Same F H) (e : isTy T d = true) : tyV K T x H := by
  cases d with
  | str z => rw [h.str]; exact beq_iff_eq.mp e
  | int z => rw [h.int]; exact beq_iff_eq.mp e
  | list ds =>
    obtain ⟨a, vs, rfl, ha, _⟩ := h.list sm
    exact .inl ⟨beq_iff_eq.mp e, vs, SqL.of ha⟩
  | _ => cases e
def mMeth (T : String) (f : D → List D → Option RV) (mo : Sl → Option (RV × Sl)) (ma : Sl → Option (List RV × Sl)) : Sl → Option (RV × Sl) := fun ρ => match mo ρ with
  | none => none
  | some (ro, ρ1) => match rd ρ1 ro with
    | none => none
    | some o => if isTy T o = true then (match ma ρ1 with
      | none => none
      | some (rs, ρ2) => match rdAll ρ2 rs, rd ρ2 ro with
        | some ds, some o' => (match f o' ds with
          | none => none
          | some rv => some (rv, ρ2))
        | _, _ => none) else none
theorem ev_meth {T : String} {o e : Expr} {es : List Expr} {name : Str} {id : String} {apos cpos : Pos} {r : V → List V → Hp → VK → Prop} {f : D → List D → Option RV} {mo : Sl → Option (RV × Sl)} {ma : Sl → Option (List RV × Sl)} (pa : PlainAttrs T) (hslot : Slot T name id)
    (hty : typeOf (.builtin id) = pure (.type "method_descriptor")) (hm : MtR X id r) (hd : MethD X.K X.w T r f) (ho : EvE X o mo) (ha : EvA X (e :: es) ma) (hbase : attributeBase o name X.env (eval o X.env) = eval o X.env := by rfl)
    (hfew : ((backTo cpos (starEach (e :: es) X.env)).all (fun x => !x.1) && (backToKw cpos (keywordEach [] X.env)).all (fun x => x.1.isSome)
      && decide ((e :: es).length + ([] : List Keyword).length + (if ([] : List Keyword).isEmpty then 0 else 1) < 30)) = true := by rfl)
    (hline : (apos.endLine == cpos.line) = true := by rfl) (hs : starEach (e :: es) X.env = (false, eval e X.env) :: starEach es X.env := by rfl) (hplain : (backTo cpos (starEach es X.env)).any (·.1) = false := by rfl) :
    EvE X (.Call (.Attribute o name apos) (e :: es) [] cpos) (mMeth T f mo ma) := by
  refine ⟨(pe_bm pa hslot hty hm ho.pe ha.pa hbase hfew hline hs hplain).imp fun σ H Q ⟨as, F, ρ, rr, ρ', R, eq, k⟩ => ?_⟩
  unfold mMeth at eq
  cases q : mo ρ with
  | none => rw [q] at eq; cases eq
  | some p =>
    obtain ⟨ro, ρ1⟩ := p
    rw [q] at eq
    dsimp only at eq
    cases q1 : rd ρ1 ro with
    | none => rw [q1] at eq; cases eq
    | some o1 =>
      rw [q1] at eq
      dsimp only at eq
      split at eq
      case isFalse => cases eq
      rename_i hT
      refine ⟨as, F, ρ, ro, ρ1, R, q, fun v F1 H1 S1 R1 y1 => ⟨tyV_of (y1.read R1 q1) R1.sub hT, ?_⟩⟩
      cases q2 : ma ρ1 with
      | none => rw [q2] at eq; cases eq
      | some p2 =>
        obtain ⟨rs, ρ2⟩ := p2
        rw [q2] at eq
        dsimp only at eq
        cases q3 : rdAll ρ2 rs with
        | none => rw [q3] at eq; cases eq
        | some ds =>
          cases q4 : rd ρ2 ro with
          | none => rw [q3, q4] at eq; cases eq
          | some o' =>
            rw [q3, q4] at eq
            dsimp only at eq
            cases q5 : f o' ds with
            | none => rw [q5] at eq; cases eq
            | some rv =>
              rw [q5] at eq; cases eq
              refine ⟨as, F1, ρ1, rs, _, R1, q2, fun vs F2 H2 S2 R2 y2 => hd v o' vs ds F2 H2 Q _ R2.sub ((y1.step S2).read R2 q4) (y2.reads R2 q3) q5 fun z H3 nz => ?_⟩
              obtain ⟨F3, S3, R3, y3⟩ := nz.fin R2
              exact k z F3 H3 (S1.trans (S2.trans S3)) R3 (y3.low fun b hb => S1.there b (S2.there b hb))
/-- the first place of an equal item -/
def firstD (d : D) : List D → Option Nat
  | [] => none
  | z :: zs => if PyData.eqv z d = true then some 0 else (firstD d zs).map (· + 1)
theorem firstD_ok {d : D} : ∀ {ds : List D} {j : Nat}, firstD d ds = some j → ∃ z, ds[j]? = some z ∧ PyData.eqv z d = true ∧ ∀ (m : Nat) (z' : D), m < j → ds[m]? = some z' → PyData.eqv z' d = false
  | [], _, h => by cases h
  | z :: zs, j, h => by
    unfold firstD at h
    split at h
    · rename_i e
      cases h
      exact ⟨z, rfl, e, fun m _ hm => absurd hm (Nat.not_lt_zero _)⟩
    · rename_i e
      cases q : firstD d zs with
      | none => rw [q] at h; cases h
      | some i =>
        rw [q] at h
        cases h
        obtain ⟨y, h1, h2, h3⟩ := firstD_ok q
        refine ⟨y, by simpa using h1, h2, fun m z' hm hz => ?_⟩
        cases m with
        | zero =>
          have : z = z' := by simpa using hz
          subst this
          exact Bool.eq_false_iff.mpr e
        | succ m => exact h3 m z' (Nat.lt_of_succ_lt_succ hm) (by simpa using hz)
def indexD : D → List D → Option RV
  | .list ds, [d] => if (okD d && okD (.list ds)) = true then (firstD d ds).map fun j => .val (.int (j : Nat)) else none
  | _, _ => none
theorem md_index : MethD K w "list" (rIndexD K) indexD := by
  intro x d vs ds F H Q rv sm hx hv he k
  unfold indexD at he
  split at he
  · rename_i ds' d'
    split at he
    case isFalse => cases he
    rename_i hc
    rw [Bool.and_eq_true] at hc
    cases q : firstD d' ds' with
    | none => rw [q] at he; cases he
    | some j =>
      rw [q] at he; cases he
      obtain ⟨v, rfl, hu⟩ := hv.one
      obtain ⟨z, h1, h2, h3⟩ := firstD_ok q
      have hl := (hx.rp sm).dps hc.2
      obtain ⟨a, us, rfl, ha, ra⟩ := hx.list sm
      exact ⟨a, v, d', ds', j, z, rfl, rfl, hl, (hu.rp sm).dps hc.1, hc.2, hc.1, h1, h2, h3, k _ _ new_int⟩
  · cases he
/-- texts -/
def strsD : List D → Option (List Str)
  | [] => some []
  | .str i :: ds => (strsD ds).map (i :: ·)
  | _ => none
theorem strsD_eq : ∀ {ds : List D} {ns : List Str}, strsD ds = some ns → ds = ns.map .str
  | [], ns, h => by cases h; rfl
  | d :: ds, ns, h => by
    cases d with
    | str i =>
      unfold strsD at h
      cases q : strsD ds with
      | none => rw [q] at h; cases h
      | some ms => rw [q] at h; cases h; rw [strsD_eq q]; rfl
    | _ => cases h
theorem rp_strs : ∀ {ns : List Str} {vs : List V}, RpAll K F vs (ns.map .str) → vs = ns.map .str
  | [], _, h => by cases h; rfl
  | n :: ns, _, h => by
    cases h with
    | cons a b => cases a; rw [rp_strs b]; rfl
theorem RpAll.strs : ∀ (ns : List Str), RpAll K H (ns.map V.str) (ns.map PyData.str)
  | [] => .nil
  | n :: ns => .cons (.str n) (RpAll.strs ns)
def joinD : D → List D → Option RV
  | .str a, [.list ds] => match strsD ds with
    | none => none
    | some ys => if (ys.map (·.length)).sum + ys.length * a.length ≤ 16777216 then some (.val (.str (Txt.join a ys))) else none
  | .str a, [.tuple ds] => match strsD ds with
    | none => none
    | some ys => if (ys.map (·.length)).sum + ys.length * a.length ≤ 16777216 then some (.val (.str (Txt.join a ys))) else none
  | _, _ => none
theorem md_join : MethD K w "str" (fun x xs H Q => ∃ a p, ∃ ys : List Str, x = .str a ∧ xs = [.ref p] ∧ (SqL K H p (ys.map V.str) ∨ SqT K H p (ys.map V.str)) ∧ (ys.map (·.length)).sum + ys.length * a.length ≤ 16777216 ∧ Q (.str (Txt.join a ys)) H) joinD := by
  intro x d vs ds F H Q rv sm hx hv he k
  unfold joinD at he
  split at he
  · rename_i a ds'
    split at he
    · cases he
    · rename_i ys q
      split at he
      case isFalse => cases he
      rename_i hl
      cases he
      obtain ⟨v, rfl, hu⟩ := hv.one
      obtain ⟨p, us, rfl, ha, ra⟩ := hu.list sm
      rw [strsD_eq q] at ra
      have e := rp_strs ra
      subst e
      exact ⟨a, p, ys, hx.str, rfl, .inl (SqL.of ha), hl, k _ _ new_str⟩
  · rename_i a ds'
    split at he
    · cases he
    · rename_i ys q
      split at he
      case isFalse => cases he
      rename_i hl
      cases he
      obtain ⟨v, rfl, hu⟩ := hv.one
      obtain ⟨p, us, rfl, ha, ra⟩ := hu.tuple sm
      rw [strsD_eq q] at ra
      have e := rp_strs ra
      subst e
      exact ⟨a, p, ys, hx.str, rfl, .inr (Same.sqt sm ha), hl, k _ _ new_str⟩
  · cases he
def splitD : D → List D → Option RV
  | .str a, [.str b] => if (b.length == 0) = false ∧ a.length + 2 ≤ sizeLine then some (.tmp (.lst ((Txt.split a b).map .str))) else none
  | _, _ => none
theorem md_split : MethD K w "str" (fun x xs H Q => ∃ a b, x = .str a ∧ xs = [.str b] ∧ (b.length == 0) = false ∧ a.length + 2 ≤ sizeLine ∧ rNewStrs (Txt.split a b) H Q) splitD := by
  intro x d vs ds F H Q rv sm hx hv he k
  unfold splitD at he
  split at he
  · rename_i a b
    split at he
    case isFalse => cases he
    rename_i hl
    cases he
    obtain ⟨v, rfl, hu⟩ := hv.one
    exact ⟨a, b, hx.str, by rw [hu.str], hl.1, hl.2, fun p hp => k _ _ (new_lst hp (RpAll.strs _))⟩
  · cases he
end
end Wk
set_option Elab.async false
set_option linter.all false
set_option maxRecDepth 100000
set_option maxHeartbeats 4000000
namespace Wk
open PySem PySem.Spec PyProof.Rows L2
/-- a def of the top, as its callers see it -/
structure Cal (P : Program) (w : World) (K : PySem.W.Frag) (mg : Str → Option Value) (base : Heap) (k : Nat) (x : Str) (ps : List Str) (np n : Nat) (m : Sl → Option Fl) : Prop where
  ex : ∃ f fd, FnOk P w K mg base CX0 k f fd ps (spF K w np n m) ∧ mg x = some (.ref f) ∧ PySem.W.keepIn K (.ref f) = true ∧ L2.Binds K fd ps []
section
variable {X : Cx}
theorem ev_call {x : Str} {p pos : Pos} {e : Expr} {es : List Expr} {k : Nat} {ps : List Str} {np n : Nat} {m : Sl → Option Fl} {ma : Sl → Option (List RV × Sl)} (ms : List Bool)
    (C : Cal X.prog X.w X.K X.mg X.base k x ps np n m) (hr : Room k X.A) (hg : Gl X x) (ha : EvA X (e :: es) ma)
    (hdb : (x == ("__debug__" : Str)) = false := by decide) (he : starEach (e :: es) X.env = (false, eval e X.env) :: starEach es X.env := by rfl) (hpl : (backTo pos (starEach es X.env)).any (·.1) = false := by rfl) :
    EvE X (.Call (.Name x p) (e :: es) [] pos) (mFn' np n m ms [] ma) := by
  obtain ⟨f, fd, G, hm, hk, hb⟩ := C.ex
  exact ev_fn ms [] G hr hg hm hk hb .nil (fun _ => .nil) ha hdb he hpl
end
/-- a def stands at the top -/
def Stands (K : PySem.W.Frag) (mg : Str → Option Value) (x : Str) (st : Stmt) : Prop := ∃ f fd, FunD K x x (defArgs st) (defBody st) (defScope st) [] [] f fd ∧ mg x = some (.ref f)
theorem cal_mk {P : Program} {w : World} {K : PySem.W.Frag} {mg : Str → Option Value} {base : Heap} {x : Str} {st : Stmt} {N ps : List Str} {k np n : Nat} {m : Sl → Option Fl} (S : Stands K mg x st) (sc : FnScope N ps (defScope st)) (hnp : ps.length = np) (hn : N.length = n)
    (hb : ∀ (kV doc pm : Value) (an : Option Addr) (cdv ct : Value) (us : List Value), us.length = ps.length → bindArgs (PySem.W.fnOf x x (defArgs st) (defBody st) (defScope st) .none kV doc pm an cdv ct) ⟨us, []⟩ = pure (ps.zip us))
    (hbody : ∀ (f : Addr) (cdv : Value) (A : Around) (outer : List PySem.Env) (s : Shared) (H : Hp) (E : XK), Room k (A.deeper (envOfC x (defScope st) s.heap.objs.size f cdv)) → EvSs (cxOf CX0 P w K mg base N x (defScope st) f cdv A outer s H E).nox (defBody st) m) :
    Cal P w K mg base (k + 1) x ps np n m := by
  obtain ⟨f, fd, F, g⟩ := S
  subst hnp hn
  exact ⟨f, fd, fn_ok F sc (hbody f), g, F.kp, F.bindsN hb⟩
theorem hu65 {A : Around} {k : Nat} (hr : Room k A) : A.units + 65 < cLine := by have := hr.un; omega
theorem hu64 {A : Around} {k : Nat} (hr : Room k A) : A.units + 64 < cLine := by have := hr.un; omega
end Wk
set_option Elab.async false
set_option linter.all false
set_option maxRecDepth 100000
set_option maxHeartbeats 4000000
namespace Wk
open PySem PySem.Spec PyProof.Rows L2
abbrev leD : D → D → Option RV := cmpD fun i j => decide (i ≤ j)
abbrev gtD : D → D → Option RV := cmpD fun i j => decide (j < i)
abbrev geD : D → D → Option RV := cmpD fun i j => decide (j ≤ i)
abbrev ltD : D → D → Option RV := cmpD fun i j => decide (i < j)
section
variable {X : Cx}
theorem op_ltA (hu : X.A.units + 65 < cLine) : OpR X (compareOp .Lt) (rI0 fun i j => .bl (decide (i < j))) := op_lt
theorem od_lt {K : PySem.W.Frag} {w : World} : OpD K w (rI0 fun i j => .bl (decide (i < j))) ltD := od_cmp
theorem ev_gstr {x y : Str} {pos : Pos} (hg : Gl X x) (hm : ∃ t, X.mg x = some (.str y t)) (hd : (x == ("__debug__" : Str)) = false := by decide) : EvE X (.Name x pos) (mC (.str y)) := by
  obtain ⟨t, hm⟩ := hm
  exact ev_C (pe_glob (v := .str y) hg hm ⟨t, rfl⟩ hd) fun _ => .str y
theorem ev_gint {x : Str} {i : Int} {pos : Pos} (hg : Gl X x) (hm : ∃ t, X.mg x = some (.int i t)) (hd : (x == ("__debug__" : Str)) = false := by decide) : EvE X (.Name x pos) (mC (.int i)) := by
  obtain ⟨t, hm⟩ := hm
  exact ev_C (pe_glob (v := .int i) hg hm ⟨t, rfl⟩ hd) fun _ => .int i
theorem ev_gtup {x : Str} {ys : List Str} {pos : Pos} (hg : Gl X x) (hm : ∃ a, X.mg x = some (.ref a) ∧ ∀ H, SqT X.K H a (ys.map .str)) (hd : (x == ("__debug__" : Str)) = false := by decide) : EvE X (.Name x pos) (mC (.tuple (ys.map .str))) := by
  obtain ⟨a, hm, h⟩ := hm
  exact ev_C (pe_glob (v := .ref a) hg hm rfl hd) fun F => .tup (h F) (RpAll.strs ys)
end
end Wk
set_option Elab.async false
set_option linter.all false
set_option maxRecDepth 100000
set_option maxHeartbeats 4000000
/-! sets of keys of any heap kind -/
namespace WkS
open PySem PySem.Spec PyProof.Rows L2
section
variable {P : Program} {w : World} {C : Type} [DecidableEq C]
structure SetKd (knd : HeapKind P w C) : Prop where
  same : ∀ {h h' : Heap} {k : C} {a b : Addr} {o : Obj} {es : Array (Int × Value)} {ep : Nat} {t : SetTable}, knd.is h k b → h.get? a = some o → o.data = .set es ep t → Heap.SameBut a h h' → knd.is h' k b
  up : ∀ {h h' : Heap} {k : C} {b : Addr}, knd.is h k b → (∀ c o, h.get? c = some o → h'.get? c = some o) → knd.is h' k b
  cls : ∀ {A : Around} {E : Value → Shared → Prop} {s : Shared} {k : C} {b : Addr} {Q : Bool → Shared → Prop}, knd.is s.heap k b → Q false s → wpAny (model P w) A (ofAClassStatement 8 (.ref b)) Q E s
  byv : ∀ {A : Around} {E : Value → Shared → Prop} {s : Shared} {k : C} {b : Addr} {Q : Bool → Shared → Prop}, knd.is s.heap k b → (∀ r, Q r s) → wpAny (model P w) A (hashByValue 8 (.ref b)) Q E s
def rowsK (knd : HeapKind P w C) (L : List (Addr × C)) : List (Int × Value) := L.map fun p => (knd.hash p.2, Value.ref p.1)
structure KSet (knd : HeapKind P w C) (h : Heap) (a : Addr) (L : List (Addr × C)) (es : Array (Int × Value)) (ep : Nat) (t : SetTable) : Prop where
  ob : ∃ o, h.get? a = some o ∧ o.ExactSet ∧ o.data = .set es ep t
  rows : es.toList = rowsK knd L
  tab : TabOk t (L.map fun p => knd.hash p.2)
  nd : (L.map (·.2)).Nodup
  tup : ∀ p ∈ L, knd.is h p.2 p.1
  led : w.params.followText "set-order" = true ∨ t.led = true
  room : L.length * 5 < t.mask * 3
  few : L.length < 64
variable {knd : HeapKind P w C} {A : Around} {E : Value → Shared → Prop} {s : Shared}
theorem seenK (SK : SetKd knd) {k : C} {b : Addr} {Q : Bool → Shared → Prop} (hk : knd.is s.heap k b) {ys : List Value} (hy : ∀ y ∈ ys, ∃ k' c, y = Value.ref c ∧ knd.is s.heap k' c) (h : Q false s) :
    wpAny (model P w) A (searchCouldBeSeen (.ref b) ys) Q E s := by
  unfold searchCouldBeSeen
  refine wpAny_bind (wpAny_forIn_list _ (fun rest r s' => r.1 = none ∧ s' = s ∧ ∀ y ∈ rest, ∃ k' c, y = Value.ref c ∧ knd.is s.heap k' c) _ ?turn ?fin _ _ ⟨rfl, rfl, hy⟩)
  case fin =>
    rintro ⟨r1, r2⟩ s' ⟨hr, e, _⟩
    cases e
    cases (show r1 = none from hr)
    exact wpAny_pure h
  case turn =>
    intro v rest r s' hyp
    obtain ⟨hr, e, hall⟩ := hyp
    cases e
    obtain ⟨k', c, ev, hc⟩ := hall v List.mem_cons_self
    cases ev
    have more : ∀ y ∈ rest, ∃ k' c, y = Value.ref c ∧ knd.is s.heap k' c := fun u m => hall u (List.mem_cons_of_mem _ m)
    dsimp only
    rcases Bool.eq_false_or_eq_true (b == c || (carriedByValue (.ref b) && carriedByValue (.ref c))) with q | q
    · exact wp_if_pos q (wpAny_pure ⟨rfl, rfl, more⟩)
    · refine wp_if_neg (by rw [q]; decide) (wpAny_bind (knd.quiet hk ?_))
      refine wp_if_neg (by decide) (wpAny_bind (knd.quiet hc ?_))
      refine wp_if_neg (by decide) (wpAny_bind (SK.cls hk ?_))
      refine wp_if_neg (by decide) (wpAny_bind (SK.cls hc ?_))
      exact wp_if_neg (by decide) (wpAny_pure ⟨rfl, rfl, more⟩)
variable {a : Addr} {L : List (Addr × C)} {es : Array (Int × Value)} {ep : Nat} {t : SetTable}
theorem KSet.size (R : KSet knd s.heap a L es ep t) : es.size = L.length := by
  have h := congrArg List.length R.rows
  unfold rowsK at h
  rw [Array.length_toList, List.length_map] at h
  exact h
theorem KSet.fits (R : KSet knd s.heap a L es ep t) : t.fits es.size = true := by
  have h1 := R.tab.sz
  rw [List.length_map] at h1
  have h2 := R.size
  have h3 := R.room
  unfold SetTable.fits SetTable.fill
  rw [R.tab.dm, Bool.and_eq_true, beq_iff_eq, decide_eq_true_eq]
  show t.place.size = es.size ∧ t.place.size + 0 ≤ t.mask
  omega
theorem KSet.entry (R : KSet knd s.heap a L es ep t) {i : Nat} {p : Addr × C} (h : L[i]? = some p) : es[i]? = some (knd.hash p.2, Value.ref p.1) := by
  rw [← Array.getElem?_toList, R.rows]
  unfold rowsK
  rw [List.getElem?_map, h] <;> rfl
theorem KSet.gw (R : KSet knd s.heap a L es ep t) : ¬ t.gaveWay = true := by
  unfold SetTable.gaveWay
  rw [mask_odd R.tab.mok]
  decide
/-- THE SEARCH: from the c-th step of the way on -/
theorem search_from (R : KSet knd s.heap a L es ep t) {x : Addr} {k : C} (hx : knd.is s.heap k x) (SK : SetKd knd) (hu : knd.room A) {K : Nat} (hKf : K < 10 * SetTable.turns t.mask)
    (hK : way t.mask (knd.hash k) K ∉ t.place.toList) (hKb : ∀ c, c < K → way t.mask (knd.hash k) c ∈ t.place.toList) {Q : SetFound → Shared → Prop}
    (hin : k ∈ L.map (·.2) → Q (.there none) s) (hout : k ∉ L.map (·.2) → Q (.free (way t.mask (knd.hash k) K) false) s) :
    ∀ (f c : Nat) (stand : Option SetTable.Probe), stand.getD (t.probeStart (knd.hash k)) = nth t.mask (runAt t.mask (SetTable.bits (knd.hash k) % (t.mask + 1)) (SetTable.bits (knd.hash k))) c → c ≤ K → K - c < f →
      (∀ (i : Nat) p, L[i]? = some p → p.2 = k → ∃ c', c ≤ c' ∧ c' < K ∧ t.place.toList[i]? = some (way t.mask (knd.hash k) c')) →
      wpAny (model P w) A (setSearchFrom a (.ref x) (knd.hash k) true f stand) Q E s
  | 0, c, stand, _, _, hf, _ => absurd hf (Nat.not_lt_zero _)
  | f + 1, c, stand, hst, hc, hf, hre => by
    obtain ⟨o, ho, hex, hd⟩ := R.ob
    rw [setSearchFrom_succ]
    refine wpAny_bind (wpAny_setState_of ho hd R.fits ?_)
    dsimp only
    refine wp_if_neg R.gw ?_
    try refine wpAny_bind (wpAny_pure ?_)
    have hnd : (nth t.mask (runAt t.mask (SetTable.bits (knd.hash k) % (t.mask + 1)) (SetTable.bits (knd.hash k))) c).dummy = none := by
      have key : ∀ (n : Nat) (p : SetTable.Probe), p.dummy = none → (nth t.mask p n).dummy = none := by
        intro n
        induction n with
        | zero => intro p h; exact h
        | succ n ih =>
          intro p h
          refine ih (adv t.mask p) ?_
          unfold adv
          split <;> exact h
      exact key c _ rfl
    have sh : ∀ q, nth t.mask (nth t.mask (runAt t.mask (SetTable.bits (knd.hash k) % (t.mask + 1)) (SetTable.bits (knd.hash k))) c) q = nth t.mask (runAt t.mask (SetTable.bits (knd.hash k) % (t.mask + 1)) (SetTable.bits (knd.hash k))) (c + q) := fun q => (nth_add t.mask c _ q).symm
    have e1 : ∀ q, (nth t.mask (nth t.mask (runAt t.mask (SetTable.bits (knd.hash k) % (t.mask + 1)) (SetTable.bits (knd.hash k))) c) q).j = way t.mask (knd.hash k) (c + q) := fun q => congrArg SetTable.Probe.j (sh q)
    have spec := go_spec t R.tab.ris R.tab.dm (fun i => (es[i]?.map (·.1)).getD 0) (knd.hash k) (10 * SetTable.turns t.mask) (K - c) _ hnd (by omega)
      (fun q hq => by rw [e1]; exact hKb (c + q) (by omega)) (by rw [e1, show c + (K - c) = K by omega]; exact hK)
    have hashAt : ∀ (i : Nat) p, L[i]? = some p → (fun i => (es[i]?.map (·.1)).getD 0) i = knd.hash p.2 := fun i p hp => by
      show (es[i]?.map (·.1)).getD 0 = _
      rw [R.entry hp] <;> rfl
    rcases spec with ⟨q, i, hq, hi, hh, hno, hpr⟩ | ⟨hno, hpr⟩
    · -- a candidate
      have hpr' : t.probe (fun i => (es[i]?.map (·.1)).getD 0) (knd.hash k) (stand.getD (t.probeStart (knd.hash k))) = some (.candidate (way t.mask (knd.hash k) (c + q)) i (nth t.mask (runAt t.mask (SetTable.bits (knd.hash k) % (t.mask + 1)) (SetTable.bits (knd.hash k))) (c + (q + 1)))) := by
        rw [hst, ← e1, ← sh]
        exact hpr
      rw [hpr']
      dsimp only
      rw [e1] at hi
      -- the entry
      have hil : i < L.length := by
        have h1 : i < t.place.toList.length := (List.getElem?_eq_some_iff.mp hi).1
        have h2 := R.tab.sz
        rw [List.length_map] at h2
        rw [Array.length_toList] at h1
        omega
      have hp : L[i]? = some L[i] := List.getElem?_eq_getElem hil
      generalize hpe : L[i] = p at hp
      have hmem : p ∈ L := List.mem_of_getElem? hp
      have hpt := R.tup p hmem
      have rest : wpAny (model P w) A (searchRest a (.ref x) (knd.hash k) true f es t (way t.mask (knd.hash k) (c + q)) i (nth t.mask (runAt t.mask (SetTable.bits (knd.hash k) % (t.mask + 1)) (SetTable.bits (knd.hash k))) (c + (q + 1)))) Q E s := by
        unfold searchRest
        rw [R.entry hp]
        dsimp only
        refine wpAny_bind (wpAny_holding (knd.eqBool hu hpt hx ?_))
        refine wpAny_bind (wpAny_setState_of ho hd R.fits ?_)
        dsimp only
        by_cases hkk : p.2 = k
        · refine wp_if_pos (by simp [hkk]) ?_
          refine wpAny_pure (hin ?_)
          exact List.mem_map.mpr ⟨p, hmem, hkk⟩
        · refine wp_if_neg (by simp [hkk]) ?_
          try refine wpAny_bind (wpAny_pure ?_)
          rw [sameMem]
          dsimp only
          have hsl : t.slot (way t.mask (knd.hash k) (c + q)) = .live i := slot_live R.tab.ris hi
          simp only [if_true, hsl, R.entry hp]
          refine wpAny_bind (wpAny_isSame_ref_self (wpAny_bind (wpAny_pure ?_)))
          simp only [if_true]
          refine wp_if_neg (by simp [hkk]) ?_
          refine search_from R hx SK hu hKf hK hKb hin hout f (c + (q + 1)) _ rfl (by omega) (by omega) fun i0 p0 h0 hk0 => ?_
          obtain ⟨c', a1, a2, a3⟩ := hre i0 p0 h0 hk0
          refine ⟨c', ?_, a2, a3⟩
          -- it isn't passed
          rcases Nat.lt_or_ge c' (c + q) with z | z
          · exfalso
            refine hno (c' - c) i0 (by omega) (by rw [e1, show c + (c' - c) = c' by omega]; exact a3) ?_
            exact (hashAt i0 p0 h0).trans (congrArg (knd.hash) hk0)
          · rcases Nat.lt_or_ge (c + q) c' with y | y
            · omega
            · exfalso
              have ec : c' = c + q := Nat.le_antisymm y z
              rw [ec] at a3
              have s0 := slot_live R.tab.ris a3
              rw [hsl] at s0
              injection s0 with s0
              rw [← s0, hp] at h0
              exact hkk ((congrArg Prod.snd (Option.some.inj h0)).trans hk0)
      by_cases hl : t.led = true
      · refine wp_if_neg (by simp [hl]) ?_
        try refine wpAny_bind (wpAny_pure ?_)
        exact rest
      · refine wp_if_pos (by simp [hl]) ?_
        refine wpAny_bind (seenK SK hx (fun y hy => ?_) ?_)
        · obtain ⟨e, he, ee⟩ := List.mem_map.mp hy
          have he1 : e ∈ es ∧ e.1 = knd.hash k := by simpa using he
          have he2 : e ∈ es.toList := by simpa using he1.1
          rw [R.rows] at he2
          obtain ⟨p2, hp2, e2⟩ := List.mem_map.mp he2
          refine ⟨p2.2, p2.1, ?_, R.tup p2 hp2⟩
          rw [← ee, ← e2]
        · refine wp_if_neg (by decide) ?_
          try refine wpAny_bind (wpAny_pure ?_)
          exact rest
    · -- the empty slot
      have hpr' : t.probe (fun i => (es[i]?.map (·.1)).getD 0) (knd.hash k) (stand.getD (t.probeStart (knd.hash k))) = some (.empty (way t.mask (knd.hash k) K) none) := by
        have e2 : way t.mask (knd.hash k) K = (nth t.mask (nth t.mask (runAt t.mask (SetTable.bits (knd.hash k) % (t.mask + 1)) (SetTable.bits (knd.hash k))) c) (K - c)).j := by
          rw [e1, show c + (K - c) = K by omega]
        rw [hst, e2]
        exact hpr
      rw [hpr']
      dsimp only
      refine wpAny_pure (hout fun hm => ?_)
      obtain ⟨p0, h0, hk0⟩ := List.mem_map.mp hm
      obtain ⟨i0, hi0, e0⟩ := List.getElem_of_mem h0
      have h00 : L[i0]? = some p0 := by rw [List.getElem?_eq_getElem hi0, e0]
      obtain ⟨c', a1, a2, a3⟩ := hre i0 p0 h00 hk0
      refine hno (c' - c) i0 (by omega) (by rw [e1, show c + (c' - c) = c' by omega]; exact a3) ?_
      exact (hashAt i0 p0 h00).trans (congrArg (knd.hash) hk0)

/-- the search as adding asks for it -/
theorem search_at (R : KSet knd s.heap a L es ep t) {x : Addr} {k : C} (hx : knd.is s.heap k x) (SK : SetKd knd) (hu : knd.room A) {Q : SetFound → Shared → Prop}
    (hin : k ∈ L.map (·.2) → Q (.there none) s)
    (hout : ∀ K, k ∉ L.map (·.2) → way t.mask (knd.hash k) K ∉ t.place.toList → (∀ c, c < K → way t.mask (knd.hash k) c ∈ t.place.toList) → Q (.free (way t.mask (knd.hash k) K) false) s) :
    wpAny (model P w) A (setSearch a (.ref x) (knd.hash k) true) Q E s := by
  have hroom := R.room
  obtain ⟨K, hKf, hK, hKb⟩ := R.tab.first (by rw [List.length_map]; omega) (knd.hash k)
  have hbig : K < 100000 := by
    have : 10 * SetTable.turns t.mask ≤ 1420 := by
      unfold SetTable.turns
      rcases R.tab.mok with e | e | e <;> omega
    omega
  unfold setSearch
  refine search_from R hx SK hu hKf hK hKb hin (fun hn => hout K hn hK hKb) 100000 0 none rfl (Nat.zero_le _) (by omega) fun i p hp hk => ?_
  have hi : (L.map fun p => knd.hash p.2)[i]? = some (knd.hash k) := by rw [List.getElem?_map, hp, ← hk] <;> rfl
  have hil : i < t.place.toList.length := by
    have h1 : i < L.length := (List.getElem?_eq_some_iff.mp hp).1
    have h2 := R.tab.sz
    rw [List.length_map] at h2
    rw [Array.length_toList]
    omega
  have hj := List.getElem?_eq_getElem hil
  obtain ⟨c, hc, e⟩ := R.tab.before hK hi hj
  exact ⟨c, Nat.zero_le _, hc, by rw [hj, e]⟩
theorem rows_put (L : List (Addr × C)) (p : Nat) (x : Addr) (k : C) : rowsK knd (L.take p ++ (x, k) :: L.drop p) = (rowsK knd L).take p ++ (knd.hash k, Value.ref x) :: (rowsK knd L).drop p := by
  unfold rowsK
  rw [List.map_append, List.map_cons, List.map_take, List.map_drop]
theorem order_rows (L : List (Addr × C)) (es : Array (Int × Value)) (order : Array Nat) (hr : es.toList = rowsK knd L) (hp : order.toList.Perm (List.range L.length)) :
    ∃ L2, (order.filterMap (es[·]?)).toList = rowsK knd L2 ∧ L2.Perm L ∧ (L2.map fun p => knd.hash p.2) = order.toList.map fun i => (es.map (·.1)).getD i 0 := by
  have hsz : es.size = L.length := by
    have h := congrArg List.length hr
    unfold rowsK at h
    rw [Array.length_toList, List.length_map] at h
    exact h
  have ent : ∀ i (h : i < L.length), es[i]? = some (knd.hash (L[i]).2, Value.ref (L[i]).1) := fun i h => by
    rw [← Array.getElem?_toList, hr]
    unfold rowsK
    rw [List.getElem?_map, List.getElem?_eq_getElem h] <;> rfl
  have key : ∀ l : List Nat, (∀ i ∈ l, i < L.length) → ∃ L2 : List (Addr × C), l.filterMap (fun i => es[i]?) = rowsK knd L2 ∧ L2 = l.filterMap (fun i => L[i]?) ∧ (L2.map fun p => knd.hash p.2) = l.map fun i => (es.map (·.1)).getD i 0 := by
    intro l
    induction l with
    | nil => intro _; exact ⟨[], rfl, rfl, rfl⟩
    | cons i l ih =>
      intro hl
      have hi := hl i List.mem_cons_self
      obtain ⟨L2, e1, e2, e3⟩ := ih fun j hj => hl j (List.mem_cons_of_mem _ hj)
      refine ⟨L[i] :: L2, ?_, ?_, ?_⟩
      · rw [List.filterMap_cons_some (ent i hi), e1] <;> rfl
      · rw [List.filterMap_cons_some (List.getElem?_eq_getElem hi), e2]
      · rw [List.map_cons, List.map_cons, e3]
        have hi2 : i < (es.map (·.1)).size := by rw [Array.size_map, hsz]; exact hi
        have e4 : (es.map (·.1)).getD i 0 = knd.hash (L[i]).2 := by
          have e5 : (es.map (·.1))[i]? = some (knd.hash (L[i]).2) := by rw [Array.getElem?_map, ent i hi] <;> rfl
          simp [Array.getD_eq_getD_getElem?, e5]
        rw [e4]
  obtain ⟨L2, e1, e2, e3⟩ := key order.toList fun i hi => List.mem_range.mp (hp.mem_iff.mp hi)
  refine ⟨L2, by first | (rw [Array.toList_filterMap]; exact e1) | simpa using e1, ?_, e3⟩
  have h1 : L2.Perm ((List.range L.length).filterMap fun i => L[i]?) := by
    rw [e2]
    exact hp.filterMap _
  have h2 : (List.range L.length).filterMap (fun i => L[i]?) = L := by
    have key2 : ∀ n, n ≤ L.length → (List.range n).filterMap (fun i => L[i]?) = L.take n := by
      intro n
      induction n with
      | zero => intro _; rfl
      | succ n ih =>
        intro hn
        have hlt : n < L.length := hn
        rw [List.range_succ, List.filterMap_append, ih (Nat.le_of_lt hlt), List.take_succ, List.getElem?_eq_getElem hlt]
        rw [List.filterMap_cons_some (List.getElem?_eq_getElem hlt)] <;> rfl
    rw [key2 L.length (Nat.le_refl _), List.take_length]
  rw [h2] at h1
  exact h1

/-- the table laid anew, larger -/
theorem relay_at (SK : SetKd knd) {o : Obj} (ho : s.heap.get? a = some o) (hex : o.ExactSet) (hd : o.data = .set es ep t) (hrows : es.toList = rowsK knd L) (hsz : t.place.size = es.size) (hdm : t.dummies = #[]) (hfl : es.size ≤ t.mask)
    (nd : (L.map (·.2)).Nodup) (tup : ∀ p ∈ L, knd.is s.heap p.2 p.1) (ld : w.params.followText "set-order" = true ∨ t.led = true) (few : L.length < 64) {wanted M : Nat}
    (hw : SetTable.sizeAbove wanted - 1 = M) (hM : MaskOk M) (hw2 : SetTable.sizeAbove wanted ≤ 128) (hn : L.length * 5 < M * 3) {Q : Unit → Shared → Prop}
    (hQ : ∀ h' L' es' ep' t', Heap.SameBut a s.heap h' → KSet knd h' a L' es' ep' t' → L'.Perm L → Q () { s with heap := h' }) : wpAny (model P w) A (setRelay a wanted) Q E s := by
  have hsl : es.size = L.length := by
    have h := congrArg List.length hrows
    unfold rowsK at h
    rw [Array.length_toList, List.length_map] at h
    exact h
  have hfits : t.fits es.size = true := by
    unfold SetTable.fits SetTable.fill
    rw [hdm, Bool.and_eq_true, beq_iff_eq, decide_eq_true_eq]
    show t.place.size = es.size ∧ t.place.size + 0 ≤ t.mask
    omega
  obtain ⟨t', order, e, hp, T, em, el, ep', ed⟩ := relaid_ok t (hs := es.map (·.1)) (wanted := wanted) hw hM (by rw [Array.size_map, hsl]; omega)
  rw [Array.size_map, hsl] at hp
  obtain ⟨L2, r1, r2, r3⟩ := order_rows L es order hrows hp
  rw [← r3] at T
  have hs2 : (order.filterMap (es[·]?)).size = es.size := by
    have h := congrArg List.length r1
    unfold rowsK at h
    rw [Array.length_toList, List.length_map, r2.length_eq] at h
    rw [h, hsl]
  rw [setRelay_eq]
  refine wpAny_bind (wpAny_setState_of ho hd hfits ?_)
  dsimp only
  refine wp_if_neg (by rw [sizeLine_eq]; omega) ?_
  try refine wpAny_bind (wpAny_pure ?_)
  rw [e]
  dsimp only
  refine wpAny_bind ?_
  refine wp_if_neg (by rw [hs2]; simp) ?_
  try refine wpAny_bind (wpAny_pure ?_)
  refine wpAny_pure ?_
  dsimp only
  refine wpAny_storeSet_of ho hd ?_ (by rw [hs2, hsl, sizeLine_eq]; omega)
  have sb : Heap.SameBut a s.heap (s.heap.update a (Obj.putSet (order.filterMap (es[·]?)) t')) := Heap.SameBut.update ..
  refine hQ _ L2 (order.filterMap (es[·]?)) (ep + 1) t' sb ?_ r2
  refine ⟨⟨_, store_at ho hd, ⟨hex.1, hex.2.1, hex.2.2⟩, rfl⟩, r1, T, ?_, fun p hpm => SK.same (tup p (r2.mem_iff.mp hpm)) ho hd sb, by rw [el]; exact ld, ?_, by rw [r2.length_eq]; exact few⟩
  · exact (r2.map (·.2)).nodup_iff.mpr nd
  · rw [r2.length_eq, em]
    exact hn

theorem SetKd.byv2 (SK : SetKd knd) {β : Type} {k : C} {b : Addr} {c : Bool} {f : Bool → Sem β} {Q : β → Shared → Prop} (hk : knd.is s.heap k b) (h : ∀ r, wpAny (model P w) A (f r) Q E s) :
    wpAny (model P w) A (if c = true then (hashByValue 8 (.ref b) >>= f) else (pure true >>= f)) Q E s := by
  cases c with
  | true => exact wp_if_pos rfl (wpAny_bind (SK.byv hk h))
  | false => exact wp_if_neg (by decide) (wpAny_bind (wpAny_pure (h true)))
theorem noPlain (r : Bool) {t1 : SetTable} {hs : List Int} (T : TabOk t1 hs) : ∃ t2, t2 = (if r = true then t1 else { t1 with plain := false }) ∧ TabOk t2 hs ∧ t2.mask = t1.mask ∧ t2.led = t1.led ∧ t2.fill = t1.fill := by
  cases r with
  | true => exact ⟨t1, rfl, T, rfl, rfl, rfl⟩
  | false => exact ⟨{ t1 with plain := false }, rfl, ⟨T.ris, T.dm, T.sz, T.mok, T.bd, T.reach⟩, rfl, rfl, rfl⟩
/-- ADDING -/
theorem add_at (R : KSet knd s.heap a L es ep t) {x : Addr} {k : C} (hx : knd.is s.heap k x) (SK : SetKd knd) (hu : knd.room A) (hfew : L.length + 1 < 64) {Q : Bool → Shared → Prop}
    (hQ : ∀ b h' L' es' ep' t', Heap.SameBut a s.heap h' → KSet knd h' a L' es' ep' t' → (k ∈ L.map (·.2) → L' = L) → (k ∉ L.map (·.2) → L'.Perm ((x, k) :: L)) → Q b { s with heap := h' }) :
    wpAny (model P w) A (setAddHashed a (.ref x) (knd.hash k)) Q E s := by
  obtain ⟨o, ho, hex, hd⟩ := R.ob
  have hsl := R.size
  have hroom := R.room
  unfold setAddHashed
  refine wpAny_holding ?_
  rw [show (100000 : Nat) = 99999 + 1 from rfl, setAddHashedIn_succ]
  refine wpAny_bind (wpAny_setState_of ho hd R.fits ?_)
  dsimp only
  refine wp_if_neg (by simp [byScan, Value.scannable]) ?_
  try refine wpAny_bind (wpAny_pure ?_)
  refine wpAny_bind (search_at R hx SK hu (fun hm => ?_) fun K hm hK hb => ?_)
  · dsimp only
    exact wpAny_pure (hQ false s.heap L es ep t (Heap.SameBut.refl a s.heap) R (fun _ => rfl) fun z => absurd hm z)
  · dsimp only
    refine wpAny_bind (wpAny_setState_of ho hd R.fits ?_)
    dsimp only
    obtain ⟨q1, q2, q3, q4, q5, q6, q7, q8, q9⟩ := R.tab.put hK hb
    generalize hpt : t.put (way t.mask (knd.hash k) K) = pt at q1 q3 q4 q5 q6 q7 q8 q9 ⊢
    obtain ⟨t1, p⟩ := pt
    dsimp only at q1 q3 q4 q5 q6 q7 q8 q9 ⊢
    subst q1
    refine SK.byv2 hx fun r => ?_
    obtain ⟨t2, et2, q3', q4', q5', q9'⟩ := noPlain r q3
    rw [q4] at q4'
    rw [q5] at q5'
    rw [q9] at q9'
    rw [show (if r = true then t1 else { t1 with plain := false }) = t2 from et2.symm]
    clear q3 q4 q5 q9 q6 q7 q8 hpt et2
    rename TabOk t2 _ => q3
    rename t2.mask = _ => q4
    rename t2.led = _ => q5
    rename t2.fill = _ => q9
    have hin : (SetTable.insertAt es (SetTable.below t.place (way t.mask (knd.hash k) K)) (knd.hash k, Value.ref x)).toList = rowsK knd (L.take (SetTable.below t.place (way t.mask (knd.hash k) K)) ++ (x, k) :: L.drop (SetTable.below t.place (way t.mask (knd.hash k) K))) := by
      rw [SetTable.toList_insertAt, rows_put, R.rows]
    generalize hpp : SetTable.below t.place (way t.mask (knd.hash k) K) = p at q2 q3 hin ⊢
    have pm := put_perm L p (x, k)
    have hlen : (L.take p ++ (x, k) :: L.drop p).length = L.length + 1 := pm.length_eq
    have hhs : (L.take p ++ (x, k) :: L.drop p).map (fun p => knd.hash p.2) = (L.map fun p => knd.hash p.2).take p ++ knd.hash k :: (L.map fun p => knd.hash p.2).drop p := by
      rw [List.map_append, List.map_cons, List.map_take, List.map_drop]
    rw [← hhs] at q3
    have nd1 : ((L.take p ++ (x, k) :: L.drop p).map (·.2)).Nodup := by
      refine (pm.map (·.2)).nodup_iff.mpr ?_
      rw [List.map_cons]
      exact List.nodup_cons.mpr ⟨hm, R.nd⟩
    have hes : (SetTable.insertAt es p (knd.hash k, Value.ref x)).size = L.length + 1 := by
      have h := congrArg List.length hin
      unfold rowsK at h
      rw [Array.length_toList, List.length_map, hlen] at h
      exact h
    generalize SetTable.insertAt es p (knd.hash k, Value.ref x) = es1 at hin hes ⊢
    generalize L.take p ++ (x, k) :: L.drop p = L1 at pm hlen q3 nd1 hin
    refine wpAny_bind (wpAny_storeSet_of ho hd ?_ (by rw [hes, sizeLine_eq]; omega))
    have sb : Heap.SameBut a s.heap (s.heap.update a (Obj.putSet es1 t2)) := Heap.SameBut.update ..
    have ho1 := store_at (es' := es1) (t' := t2) ho hd
    generalize s.heap.update a (Obj.putSet es1 t2) = h1 at sb ho1 ⊢
    have tup1 : ∀ p ∈ L1, knd.is h1 p.2 p.1 := fun p hp => by
      rcases List.mem_cons.mp (pm.mem_iff.mp hp) with e | hp
      · rw [e]; exact SK.same hx ho hd sb
      · exact SK.same (R.tup p hp) ho hd sb
    have ld1 : w.params.followText "set-order" = true ∨ t2.led = true := by rw [q5]; exact R.led
    by_cases hf : t2.tooFull = true
    · first
        | (refine wpAny_bind ?_; refine wp_if_pos (by simp [hf]) ?_)
        | (refine wp_if_pos (by simp [hf]) ?_; refine wpAny_bind ?_)
      have hfull : (L.length + 1) * 5 ≥ t2.mask * 3 := by
        have h := hf
        unfold SetTable.tooFull at h
        rw [decide_eq_true_eq, q9, List.length_map] at h
        exact h
      rw [hsl]
      have hsz1 : t2.place.size = es1.size := by
        have h := q3.sz
        rw [List.length_map, hlen] at h
        rw [h, hes]
      have cases2 : (t.mask = 7 ∧ L.length = 4) ∨ (t.mask = 31 ∧ L.length = 18) := by
        rcases R.tab.mok with e | e | e
        · left; rw [q4, e] at hfull; rw [e] at hroom; exact ⟨e, by omega⟩
        · right; rw [q4, e] at hfull; rw [e] at hroom; exact ⟨e, by omega⟩
        · exfalso; rw [q4, e] at hfull; omega
      have go : ∀ M, SetTable.sizeAbove (SetTable.grown (L.length + 1)) - 1 = M → MaskOk M → SetTable.sizeAbove (SetTable.grown (L.length + 1)) ≤ 128 → (L.length + 1) * 5 < M * 3 →
          wpAny (model P w) A (setRelay a (SetTable.grown (L.length + 1))) (fun _ s' => wpAny (model P w) A (pure true) Q E s') E { s with heap := h1 } := fun M h1' h2' h3' h4' => by
        refine relay_at SK (s := { s with heap := h1 }) ho1 ⟨hex.1, hex.2.1, hex.2.2⟩ rfl hin hsz1 q3.dm (by rw [hes, q4]; rcases cases2 with ⟨e, e2⟩ | ⟨e, e2⟩ <;> omega) nd1 tup1 ld1 (by rw [hlen]; exact hfew) h1' h2' h3' (by rw [hlen]; exact h4') ?_
        intro h2 L2 es2 ep2 t3 sb2 R2 pm2
        refine wpAny_pure (hQ true h2 L2 es2 ep2 t3 (sb.trans sb2) R2 (fun z => absurd z hm) fun _ => pm2.trans pm)
      rcases cases2 with ⟨_, e2⟩ | ⟨_, e2⟩
      · refine go 31 (by rw [e2, size_20]) (.inr (.inl rfl)) (by rw [e2, size_20]; decide) (by omega)
      · refine go 127 (by rw [e2, size_76]) (.inr (.inr rfl)) (by rw [e2, size_76]; decide) (by omega)
    · first
        | refine wp_if_neg (by simp [hf]) ?_
        | (refine wpAny_bind ?_; refine wp_if_neg (by simp [hf]) ?_; refine wpAny_pure ?_)
      refine wpAny_pure (hQ true h1 L1 es1 (ep + 1) t2 sb ⟨⟨_, ho1, ⟨hex.1, hex.2.1, hex.2.2⟩, rfl⟩, hin, q3, nd1, tup1, ld1, ?_, by rw [hlen]; exact hfew⟩ (fun z => absurd z hm) fun _ => pm)
      have h := hf
      unfold SetTable.tooFull at h
      rw [decide_eq_true_eq, q9, List.length_map] at h
      rw [hlen]
      omega
end
end WkS
set_option Elab.async false
set_option linter.all false
set_option maxRecDepth 100000
set_option maxHeartbeats 4000000
namespace WkS
open PySem PySem.Spec PyProof.Rows L2
section
variable {P : Program} {w : World}
/-- how the items of a sequence come into a new set: what stands behind i of them -/
structure Adder (P : Program) (w : World) (S : Addr) (items : Array Value) (U : Around → Prop) (Iv : Nat → Heap → Prop) : Prop where
  step : ∀ {A : Around} {E : Value → Shared → Prop} {s : Shared} {Q : Bool → Shared → Prop} (i : Nat) (v : Value), items[i]? = some v → U A → Iv i s.heap →
    (∀ b h' tk, s.toks ≤ tk → Iv (i + 1) h' → Heap.SameBut S s.heap h' → Q b { s with heap := h', toks := tk }) → wpAny (model P w) A (setAdd S v) Q E s
variable {A : Around} {E : Value → Shared → Prop} {s : Shared}
/-- set.update's loop, by an adder; h0 is the heap ahead, of which nothing is lost -/
theorem set_loop {J : Addr} {fp wr : List Addr} {G : Array GenState → Array GenState → Prop} {Pv : Nat → Value → Prop} {St : Nat → Shared → Prop} {R : Result → Shared → Prop} {items : Array Value} {U : Around → Prop} {Iv : Nat → Heap → Prop} {h0 : Heap}
    (W : WalksS P w A.in1 J fp wr G items.size Pv St) (S : Addr) (hS : S ∉ fp) (T : Adder P w S items U Iv) (hval : ∀ i v, Pv i v → items[i]? = some v)
    (hIv : ∀ i h h', Iv i h → (∀ b o, b ∉ wr → h.get? b = some o → h'.get? b = some o) → Iv i h') (hS0 : h0.get? S = none) (hu : U A.in1) :
    ∀ (k i : Nat) (s : Shared), items.size - i = k → i ≤ items.size → St i s → Iv i s.heap →
      (∀ s', Moved (S :: wr) G s s' → Iv items.size s'.heap → R (.ok (.ret .none)) s') →
      codeAny (model P w) A (.builtin "set.update.loop" ⟨[.ref S, .ref J], []⟩) R s := by
  have nS : S ∉ wr := fun z => hS (W.sub _ z)
  have more : ∀ b ∈ wr, b ∈ S :: wr := fun b z => List.mem_cons_of_mem _ z
  intro k
  induction k with
  | zero =>
    intro i s hk hi st iv fin
    obtain rfl : i = items.size := by omega
    refine codeAny_builtin PyProof.Rows.F.entry_set_update_loop ?_
    rw [Around.under_plainId PyProof.Rows.F.plain_set_update_loop _]
    show wpAny _ A.in1 (pyNext (.ref J) >>= _) _ _ s
    refine wpAny_bind (W.done s _ _ st fun s1 mv => ?_)
    show wpAny _ A.in1 (ret Value.none) _ _ s1
    exact wpAny_pure (fin s1 (mv.mono more) (hIv _ _ _ iv mv.heap))
  | succ k ih =>
    intro i s hk hi st iv fin
    have lt : i < items.size := by omega
    refine codeAny_builtin PyProof.Rows.F.entry_set_update_loop ?_
    rw [Around.under_plainId PyProof.Rows.F.plain_set_update_loop _]
    show wpAny _ A.in1 (pyNext (.ref J) >>= _) _ _ s
    refine wpAny_bind (W.item i s _ _ lt st fun v s1 pv st1 mv => ?_)
    show wpAny _ A.in1 (holding [v] (setAdd S v) >>= _) _ _ s1
    refine wpAny_bind (wpAny_holding (T.step i v (hval i v pv) hu (hIv _ _ _ iv mv.heap) fun b h' tk le iv1 sb => ?_))
    refine wpAny_pure ⟨plainId_quiet PyProof.Rows.F.plain_set_update_loop _, ih (i + 1) _ (by omega) lt (W.frame _ s1 _ _ st1 le fun c hc o e => ?_) iv1 fun s2 mv2 iv2 => ?_⟩
    · rw [sb.2 c (fun z => hS (z ▸ hc))]; exact e
    · refine fin s2 (Moved.trans W.gtrans ((mv.mono more).then_heap le fun c o hc e => ?_) mv2) iv2
      rw [sb.2 c (fun z => hc (by rw [z]; exact List.mem_cons_self))]; exact e
set_option maxRecDepth 100000 in
set_option maxHeartbeats 3200000 in
theorem call_set_tuple {l : Addr} {items : Array Value} {U : Around → Prop} {Iv : Nat → Heap → Prop} {Q : Value → Shared → Prop} (hh : A.handled = none) (hl : s.heap.IsTuple l items) (T : Adder P w s.heap.objs.size items U Iv) (hu : U A.in1.in1.in1)
    (hIv : ∀ i h h', Iv i h → (∀ b o, b ≠ s.heap.objs.size + 1 → h.get? b = some o → h'.get? b = some o) → Iv i h')
    (h0 : Iv 0 ((s.heap.push { cls := .type "set", dict := none, data := .set #[] 0 (.fresh 0 0 (!w.params.followText "set-order")) }).push { cls := .type "tuple_iterator", data := .fields #[.ref l, .int 0 0] }))
    (h : ∀ (h' : Heap) (tk : Nat), Iv items.size h' → (∀ b o, s.heap.get? b = some o → h'.get? b = some o) → Q (.ref s.heap.objs.size) { s with heap := h', toks := tk }) :
    wpAny (model P w) A (call (.type "set") [.ref l]) Q E s := by
  obtain ⟨c, tl, hmro⟩ := F.called_set.mro
  have hmade := F.called_set.made
  have hsub := F.called_set.sub
  refine wpAny_call (codeAny_of_tree ?_)
  show wpAny _ _ (callAny (.type "set") _) _ _ _
  refine wpAny_pure ⟨Code.quiet_builtin _ (by decide +kernel), codeAny_builtin F.entry_type_call ?_⟩
  rw [Around.under_plain (weight_type_call_type "set" [.ref l] []) rfl]
  have h1 := F.called_set.notType
  have h2 := F.called_set.canCreate
  have hct := F.typeCall_set_1 (.ref l)
  repeat (any_goals (first | assumption | wp_step))

  refine codeAny_mono (code_set_led1 (.ref l) (E := E) (Q₁ := fun obj s₁ => obj = .ref s.heap.objs.size ∧ s₁ = { s with heap := s.heap.push { cls := .type "set", dict := none, data := .set #[] 0 (.fresh 0 0 (!w.params.followText "set-order")) } }) ⟨rfl, rfl⟩) fun r s₁ hr => ?_
  cases r with
  | error e => exact hr
  | ok fl =>
    cases fl with
    | ret obj =>
      obtain ⟨rfl, rfl⟩ := hr
      have hS : (s.heap.push { cls := .type "set", dict := none, data := .set #[] 0 (.fresh 0 0 (!w.params.followText "set-order")) }).get? s.heap.objs.size = some { cls := .type "set", dict := none, data := .set #[] 0 (.fresh 0 0 (!w.params.followText "set-order")) } := Heap.get?_push_size _ rfl
      have hT : Shared.TypeIs { s with heap := s.heap.push { cls := .type "set", dict := none, data := .set #[] 0 (.fresh 0 0 (!w.params.followText "set-order")) } } (.ref s.heap.objs.size) "set" := ⟨_, hS, rfl⟩
      have hli := F.called_set.init.lookup
      have hbi := F.called_set.init.bind (.ref s.heap.objs.size)
      repeat (any_goals (first | assumption | wp_step))

      refine codeAny_mono (codeAny_call_builtin (R := wants (fun r s₂ => r = .none ∧ ∃ h' tk, s₂ = { s with heap := h', toks := tk } ∧ Iv items.size h' ∧
          (∀ b o, s.heap.get? b = some o → h'.get? b = some o)) E) F.called_set.init.plain F.entry_set_init (check_set_init_1 hT ?_)) fun r₂ s₂ hr₂ => ?_
      · obtain ⟨ol, hol, hcl, nl, hdl⟩ := hl
        obtain ⟨ocls, odict, odata, oslots⟩ := ol
        simp only at hcl hdl
        subst hcl; subst hdl
        have hol' : (s.heap.push { cls := .type "set", dict := none, data := .set #[] 0 (.fresh 0 0 (!w.params.followText "set-order")) }).get? l = some { cls := .type "tuple", dict := odict, data := .seq items nl, slots := oslots } := Heap.get?_push_of_some _ hol
        have hsls := F.sub_tuple_set
        have hslf := F.sub_tuple_frozenset
        have hne : (Value.type "tuple" == Value.type "dict") = false := by decide
        have hl1 : (s.heap.push { cls := .type "set", dict := none, data := .set #[] 0 (.fresh 0 0 (!w.params.followText "set-order")) }).IsTuple l items := ⟨_, hol', rfl, nl, rfl⟩
        unfold Builtin.«set.__init__» noKeywords Builtin.Frozenset.updateFrom
        generalize hPI : pyIter = PI
        wp_walk
        subst hPI

        refine wpAny_pyIter_tuple hl1 ?_
        refine wpAny_bind (wpAny_runValue ?_)
        have hlS : l < s.heap.objs.size := Heap.lt_size hol
        have hh3 : A.in1.in1.in1.handled = none := by simp [hh]
        have hz1 : (s.heap.push { cls := .type "set", dict := none, data := .set #[] 0 (.fresh 0 0 (!w.params.followText "set-order")) }).objs.size = s.heap.objs.size + 1 := Heap.size_push ..
        have hneI : l ≠ (s.heap.push { cls := .type "set", dict := none, data := .set #[] 0 (.fresh 0 0 (!w.params.followText "set-order")) }).objs.size := by
          rw [Heap.size_push]; exact Nat.ne_of_lt (Nat.lt_succ_of_lt hlS)
        have hSf : s.heap.objs.size ∉ [(s.heap.push { cls := .type "set", dict := none, data := .set #[] 0 (.fresh 0 0 (!w.params.followText "set-order")) }).objs.size, l] := by
          rw [Heap.size_push]; simp only [List.mem_cons, List.mem_singleton, List.not_mem_nil, or_false, not_or]
          exact ⟨Nat.ne_of_lt (Nat.lt_succ_self _), Nat.ne_of_gt hlS⟩
        refine set_loop (h0 := s.heap) ((Walks.tuple hh3 _ l hneI items).toS) s.heap.objs.size hSf T (fun i v q => q) (fun i h h' x y => hIv i h h' x fun b o z => y b o (by rw [hz1]; simpa using z)) (by
            cases q : s.heap.get? s.heap.objs.size with
            | none => rfl
            | some o => exact absurd (Heap.lt_size q) (Nat.lt_irrefl _)) hu (items.size - 0) 0 _ (by omega) (Nat.zero_le _)
          ⟨⟨_, Heap.get?_push_size _ rfl, rfl, rfl⟩, (hl1.push _)⟩ ?hS0 ?hR
        case hS0 => exact h0
        case hR =>
          intro s' hm hS'
          obtain ⟨h', g2, d', tk', os'⟩ := s'
          have eg : g2 = s.gens := hm.gens
          have ed : d' = s.drawn := hm.drawn
          have eo : os' = s.os := hm.os
          subst eg; subst ed; subst eo
          show wpAny _ _ _ _ _ _
          refine wpAny_pure ?_
          show wpAny _ _ (ret Value.none) _ _ _
          refine wpAny_pure ⟨rfl, h', tk', rfl, hS', fun b o e => ?_⟩
          have hb0 : b < s.heap.objs.size := Heap.lt_size e
          have hb1 : b ≠ s.heap.objs.size := Nat.ne_of_lt hb0
          have hb2 : b ≠ (s.heap.push { cls := .type "set", dict := none, data := .set #[] 0 (.fresh 0 0 (!w.params.followText "set-order")) }).objs.size := by
            rw [Heap.size_push]; exact Nat.ne_of_lt (Nat.lt_succ_of_lt hb0)
          exact hm.heap b o (by simp only [List.mem_cons, List.mem_singleton, List.not_mem_nil, or_false, not_or]; exact ⟨hb1, hb2⟩) (Heap.get?_push_of_some _ (Heap.get?_push_of_some _ e))

      · cases r₂ with
        | error e => exact hr₂
        | ok fl₂ =>
          cases fl₂ with
          | ret r =>
            obtain ⟨rfl, h', tk, rfl, hS', hk'⟩ := hr₂
            repeat (any_goals (first | assumption | wp_step))
            exact h _ _ hS' hk'
          | _ => exact hr₂.elim
    | _ => exact hr.elim

set_option maxRecDepth 100000 in
set_option maxHeartbeats 3200000 in
theorem call_set_list {l : Addr} {items : Array Value} {U : Around → Prop} {Iv : Nat → Heap → Prop} {Q : Value → Shared → Prop} (hh : A.handled = none) (hl : s.heap.IsList l items) (T : Adder P w s.heap.objs.size items U Iv) (hu : U A.in1.in1.in1)
    (hIv : ∀ i h h', Iv i h → (∀ b o, b ≠ s.heap.objs.size + 1 → h.get? b = some o → h'.get? b = some o) → Iv i h')
    (h0 : Iv 0 ((s.heap.push { cls := .type "set", dict := none, data := .set #[] 0 (.fresh 0 0 (!w.params.followText "set-order")) }).push { cls := .type "list_iterator", data := .fields #[.ref l, .int 0 0] }))
    (h : ∀ (h' : Heap) (tk : Nat), Iv items.size h' → (∀ b o, s.heap.get? b = some o → h'.get? b = some o) → Q (.ref s.heap.objs.size) { s with heap := h', toks := tk }) :
    wpAny (model P w) A (call (.type "set") [.ref l]) Q E s := by
  obtain ⟨c, tl, hmro⟩ := F.called_set.mro
  have hmade := F.called_set.made
  have hsub := F.called_set.sub
  refine wpAny_call (codeAny_of_tree ?_)
  show wpAny _ _ (callAny (.type "set") _) _ _ _
  refine wpAny_pure ⟨Code.quiet_builtin _ (by decide +kernel), codeAny_builtin F.entry_type_call ?_⟩
  rw [Around.under_plain (weight_type_call_type "set" [.ref l] []) rfl]
  have h1 := F.called_set.notType
  have h2 := F.called_set.canCreate
  have hct := F.typeCall_set_1 (.ref l)
  repeat (any_goals (first | assumption | wp_step))

  refine codeAny_mono (code_set_led1 (.ref l) (E := E) (Q₁ := fun obj s₁ => obj = .ref s.heap.objs.size ∧ s₁ = { s with heap := s.heap.push { cls := .type "set", dict := none, data := .set #[] 0 (.fresh 0 0 (!w.params.followText "set-order")) } }) ⟨rfl, rfl⟩) fun r s₁ hr => ?_
  cases r with
  | error e => exact hr
  | ok fl =>
    cases fl with
    | ret obj =>
      obtain ⟨rfl, rfl⟩ := hr
      have hS : (s.heap.push { cls := .type "set", dict := none, data := .set #[] 0 (.fresh 0 0 (!w.params.followText "set-order")) }).get? s.heap.objs.size = some { cls := .type "set", dict := none, data := .set #[] 0 (.fresh 0 0 (!w.params.followText "set-order")) } := Heap.get?_push_size _ rfl
      have hT : Shared.TypeIs { s with heap := s.heap.push { cls := .type "set", dict := none, data := .set #[] 0 (.fresh 0 0 (!w.params.followText "set-order")) } } (.ref s.heap.objs.size) "set" := ⟨_, hS, rfl⟩
      have hli := F.called_set.init.lookup
      have hbi := F.called_set.init.bind (.ref s.heap.objs.size)
      repeat (any_goals (first | assumption | wp_step))

      refine codeAny_mono (codeAny_call_builtin (R := wants (fun r s₂ => r = .none ∧ ∃ h' tk, s₂ = { s with heap := h', toks := tk } ∧ Iv items.size h' ∧
          (∀ b o, s.heap.get? b = some o → h'.get? b = some o)) E) F.called_set.init.plain F.entry_set_init (check_set_init_1 hT ?_)) fun r₂ s₂ hr₂ => ?_
      · obtain ⟨ol, hol, hcl, nl, hdl⟩ := hl
        obtain ⟨ocls, odict, odata, oslots⟩ := ol
        simp only at hcl hdl
        subst hcl; subst hdl
        have hol' : (s.heap.push { cls := .type "set", dict := none, data := .set #[] 0 (.fresh 0 0 (!w.params.followText "set-order")) }).get? l = some { cls := .type "list", dict := odict, data := .seq items nl, slots := oslots } := Heap.get?_push_of_some _ hol
        have hsls := F.sub_list_set
        have hslf := F.sub_list_frozenset
        have hne : (Value.type "list" == Value.type "dict") = false := by decide
        have hl1 : (s.heap.push { cls := .type "set", dict := none, data := .set #[] 0 (.fresh 0 0 (!w.params.followText "set-order")) }).IsList l items := ⟨_, hol', rfl, nl, rfl⟩
        unfold Builtin.«set.__init__» noKeywords Builtin.Frozenset.updateFrom
        generalize hPI : pyIter = PI
        wp_walk
        subst hPI

        refine wpAny_pyIter_list hl1 ?_
        refine wpAny_bind (wpAny_runValue ?_)
        have hlS : l < s.heap.objs.size := Heap.lt_size hol
        have hh3 : A.in1.in1.in1.handled = none := by simp [hh]
        have hz1 : (s.heap.push { cls := .type "set", dict := none, data := .set #[] 0 (.fresh 0 0 (!w.params.followText "set-order")) }).objs.size = s.heap.objs.size + 1 := Heap.size_push ..
        have hneI : l ≠ (s.heap.push { cls := .type "set", dict := none, data := .set #[] 0 (.fresh 0 0 (!w.params.followText "set-order")) }).objs.size := by
          rw [Heap.size_push]; exact Nat.ne_of_lt (Nat.lt_succ_of_lt hlS)
        have hSf : s.heap.objs.size ∉ [(s.heap.push { cls := .type "set", dict := none, data := .set #[] 0 (.fresh 0 0 (!w.params.followText "set-order")) }).objs.size, l] := by
          rw [Heap.size_push]; simp only [List.mem_cons, List.mem_singleton, List.not_mem_nil, or_false, not_or]
          exact ⟨Nat.ne_of_lt (Nat.lt_succ_self _), Nat.ne_of_gt hlS⟩
        refine set_loop (h0 := s.heap) ((Walks.list hh3 _ l hneI items).toS) s.heap.objs.size hSf T (fun i v q => q) (fun i h h' x y => hIv i h h' x fun b o z => y b o (by rw [hz1]; simpa using z)) (by
            cases q : s.heap.get? s.heap.objs.size with
            | none => rfl
            | some o => exact absurd (Heap.lt_size q) (Nat.lt_irrefl _)) hu (items.size - 0) 0 _ (by omega) (Nat.zero_le _)
          ⟨⟨_, Heap.get?_push_size _ rfl, rfl, rfl⟩, (hl1.push _)⟩ ?hS0 ?hR
        case hS0 => exact h0
        case hR =>
          intro s' hm hS'
          obtain ⟨h', g2, d', tk', os'⟩ := s'
          have eg : g2 = s.gens := hm.gens
          have ed : d' = s.drawn := hm.drawn
          have eo : os' = s.os := hm.os
          subst eg; subst ed; subst eo
          show wpAny _ _ _ _ _ _
          refine wpAny_pure ?_
          show wpAny _ _ (ret Value.none) _ _ _
          refine wpAny_pure ⟨rfl, h', tk', rfl, hS', fun b o e => ?_⟩
          have hb0 : b < s.heap.objs.size := Heap.lt_size e
          have hb1 : b ≠ s.heap.objs.size := Nat.ne_of_lt hb0
          have hb2 : b ≠ (s.heap.push { cls := .type "set", dict := none, data := .set #[] 0 (.fresh 0 0 (!w.params.followText "set-order")) }).objs.size := by
            rw [Heap.size_push]; exact Nat.ne_of_lt (Nat.lt_succ_of_lt hb0)
          exact hm.heap b o (by simp only [List.mem_cons, List.mem_singleton, List.not_mem_nil, or_false, not_or]; exact ⟨hb1, hb2⟩) (Heap.get?_push_of_some _ (Heap.get?_push_of_some _ e))

      · cases r₂ with
        | error e => exact hr₂
        | ok fl₂ =>
          cases fl₂ with
          | ret r =>
            obtain ⟨rfl, h', tk, rfl, hS', hk'⟩ := hr₂
            repeat (any_goals (first | assumption | wp_step))
            exact h _ _ hS' hk'
          | _ => exact hr₂.elim
    | _ => exact hr.elim


end
end WkS
set_option Elab.async false
set_option linter.all false
set_option maxRecDepth 100000
set_option maxHeartbeats 4000000
namespace Wk
open PySem PySem.Spec PyProof.Rows L2 WkS
section
variable {X : Cx} {pins : List (Addr × Obj)} {σ : Stt} {H : Hp} {s : Shared}
theorem keyDs_cons {d : D} {ds : List D} {ks : List NestedKey} (e : keyD.keyDs (d :: ds) = some ks) : ∃ k r, keyD d = some k ∧ keyD.keyDs ds = some r ∧ ks = k :: r := by
  unfold keyD.keyDs at e
  cases h1 : keyD d with
  | none => rw [h1] at e; cases e
  | some k =>
    cases h2 : keyD.keyDs ds with
    | none => rw [h1, h2] at e; cases e
    | some r => rw [h1, h2] at e; cases e; exact ⟨k, r, rfl, rfl, rfl⟩
mutual
theorem nestedOf (I : Inv X pins σ H s) : ∀ (d : D) (v : V) (u : Value) (k : NestedKey), Rp X.K H v d → keyD d = some k → RelV v u → NestedIs s.heap k u
  | .none, _, u, k, h, e, r => by
    cases h
    unfold keyD at e
    cases e
    cases (show u = Value.none from r)
    exact .none
  | .bool b, _, u, k, h, e, r => by
    cases h
    unfold keyD at e
    cases e
    cases (show u = Value.bool b from r)
    exact .bool rfl
  | .int i, _, u, k, h, e, r => by
    cases h
    unfold keyD at e
    cases e
    obtain ⟨t, rfl⟩ := (show ∃ t, u = Value.int i t from r)
    exact .int i t
  | .str x, _, u, k, h, e, r => by
    cases h
    unfold keyD at e
    cases e
    obtain ⟨t, rfl⟩ := (show ∃ t, u = Value.str x t from r)
    exact .text x t
  | .list ds, _, u, k, h, e, r => by unfold keyD at e; cases e
  | .dict _, _, _, _, _, e, _ => by unfold keyD at e; cases e
  | .tuple ds, _, u, k, h, e, r => by
    unfold keyD at e
    cases q : keyD.keyDs ds with
    | none => rw [q] at e; cases e
    | some ks =>
      rw [q] at e
      cases e
      cases h with
      | @tup a xs _ h1 h2 =>
        cases (show u = Value.ref a from r)
        obtain ⟨its, rv, ⟨o, ho, hc, n, hd⟩, _⟩ := I.tuple h1
        exact .tup ho hc hd (nestedAll I ds xs its ks h2 q (by simpa using rv))
theorem nestedAll (I : Inv X pins σ H s) : ∀ (ds : List D) (vs : List V) (us : List Value) (ks : List NestedKey), RpAll X.K H vs ds → keyD.keyDs ds = some ks → Vals vs us → NestedAll s.heap ks us
  | [], _, us, ks, h, e, r => by
    cases h
    unfold keyD.keyDs at e
    cases e
    cases r
    exact .nil
  | d :: ds, _, us, ks, h, e, r => by
    obtain ⟨k, r', h1, h2, rfl⟩ := keyDs_cons e
    cases h with
    | cons q1 q2 =>
      cases r with
      | cons p1 p2 => exact .cons (nestedOf I d _ _ k q1 h1 p1) (nestedAll I ds _ _ r' q2 h2 p2)
end
end

/-! ### nested keys in sets -/
section
variable {P : Program} {w : World} {A : Around} {E : Value → Shared → Prop} {s : Shared}
mutual
theorem cls_key : ∀ (k : NestedKey) (v : Value) (n : Nat) (A : Around) (E : Value → Shared → Prop) (s : Shared) (Q : Bool → Shared → Prop), NestedIs s.heap k v → k.depth ≤ n → Q false s → wpAny (model P w) A (ofAClassStatement n v) Q E s
  | .none, v, n, A, E, s, Q, h, _, q => by
    cases h
    cases n <;> exact wpAny_pure q
  | .num i, v, n, A, E, s, Q, h, _, q => by
    cases h <;> cases n <;> exact wpAny_pure q
  | .text x, v, n, A, E, s, Q, h, _, q => by
    cases h
    cases n <;> exact wpAny_pure q
  | .tup ks, v, n, A, E, s, Q, h, hn, q => by
    cases h with
    | @tup a o vs m _ ho hc hd hk =>
      cases n with
      | zero => unfold NestedKey.depth at hn; omega
      | succ n =>
        unfold ofAClassStatement
        refine wpAny_bind (wpAny_typeOf (T := "tuple") ⟨o, ho, hc⟩ ?_)
        dsimp only
        have e : (("tuple" : String) == "tuple") = true := by decide
        simp only [e, if_true, Bool.not_true, Bool.false_eq_true, if_false]
        try refine wpAny_bind (wpAny_pure ?_)
        try simp only [Bool.not_true, Bool.false_eq_true, if_false]
        show wpAny _ _ (seqItems? (.ref a) >>= _) _ _ s
        refine wpAny_bind (wpAny_seqItems ho hd ?_)
        dsimp only
        refine wpAny_bind ?_
        show wpAny _ _ (forIn vs _ _) _ _ s
        rw [← Array.forIn_toList]
        refine wpAny_forIn_list _ (fun rest r s' => r.1 = none ∧ s' = s ∧ ∀ v ∈ rest, v ∈ vs.toList) _ ?_ ?_ _ _ ⟨rfl, rfl, fun _ z => z⟩
        · rintro v rest r s' ⟨hr, rfl, hall⟩
          refine wpAny_bind (cls_keys ks vs.toList n A E s' hk (by unfold NestedKey.depth at hn; omega) v (hall v List.mem_cons_self) _ ?_)
          simp only [Bool.false_eq_true, if_false]
          exact wpAny_pure ⟨rfl, rfl, fun u z => hall u (List.mem_cons_of_mem _ z)⟩
        · rintro ⟨r1, r2⟩ s' ⟨hr, rfl, _⟩
          simp only at hr
          subst hr
          exact wpAny_pure q
theorem cls_keys : ∀ (ks : List NestedKey) (vs : List Value) (n : Nat) (A : Around) (E : Value → Shared → Prop) (s : Shared), NestedAll s.heap ks vs → NestedKey.depthAll ks ≤ n → ∀ v ∈ vs, ∀ (Q : Bool → Shared → Prop), Q false s → wpAny (model P w) A (ofAClassStatement n v) Q E s
  | [], _, n, A, E, s, h, _, v, hv, Q, q => by cases h; cases hv
  | k :: ks, _, n, A, E, s, h, hn, v, hv, Q, q => by
    cases h with
    | cons h1 h2 =>
      unfold NestedKey.depthAll at hn
      rcases List.mem_cons.mp hv with e | e
      · rw [e]; exact cls_key k _ n A E s Q h1 (by omega) q
      · exact cls_keys ks _ n A E s h2 (by omega) v e Q q
end
mutual
theorem byv_key : ∀ (k : NestedKey) (v : Value) (n : Nat) (A : Around) (E : Value → Shared → Prop) (s : Shared) (Q : Bool → Shared → Prop), NestedIs s.heap k v → (∀ r, Q r s) → wpAny (model P w) A (hashByValue n v) Q E s
  | .none, v, n, A, E, s, Q, h, q => by
    cases h
    cases n <;> exact wpAny_pure (q true)
  | .num i, v, n, A, E, s, Q, h, q => by
    cases h <;> cases n <;> exact wpAny_pure (q true)
  | .text x, v, n, A, E, s, Q, h, q => by
    cases h
    cases n <;> exact wpAny_pure (q false)
  | .tup ks, v, n, A, E, s, Q, h, q => by
    cases h with
    | @tup a o vs m _ ho hc hd hk =>
      cases n with
      | zero => exact wpAny_pure (q false)
      | succ n =>
        unfold hashByValue
        refine wpAny_bind (wpAny_specialOf (T := "tuple") ⟨o, ho, hc⟩ PySem.F.slot_tuple_hash.lookup ?_)
        show wpAny _ _ (seqItems? (.ref a) >>= _) _ _ s
        refine wpAny_bind (wpAny_seqItems ho hd ?_)
        refine wpAny_bind ?_
        show wpAny _ _ (forIn vs _ _) _ _ s
        rw [← Array.forIn_toList]
        refine wpAny_forIn_list _ (fun rest r s' => r.1 = none ∧ s' = s ∧ (∀ v ∈ rest, v ∈ vs.toList)) _ ?_ ?_ _ _ ⟨rfl, rfl, fun _ z => z⟩
        · rintro v rest r s' ⟨hr, rfl, hall⟩
          refine wpAny_bind (byv_keys ks vs.toList n A E s' hk v (hall v List.mem_cons_self) _ fun b => ?_)
          cases b with
          | true =>
            simp only [Bool.not_true, Bool.false_eq_true, if_false]
            exact wpAny_pure ⟨rfl, rfl, fun u z => hall u (List.mem_cons_of_mem _ z)⟩
          | false =>
            simp only [Bool.not_false, if_true]
            exact wpAny_pure (wpAny_pure (q false))
        · rintro ⟨r1, r2⟩ s' ⟨hr, rfl, _⟩
          cases (show r1 = none from hr)
          exact wpAny_pure (q true)
theorem byv_keys : ∀ (ks : List NestedKey) (vs : List Value) (n : Nat) (A : Around) (E : Value → Shared → Prop) (s : Shared), NestedAll s.heap ks vs → ∀ v ∈ vs, ∀ (Q : Bool → Shared → Prop), (∀ r, Q r s) → wpAny (model P w) A (hashByValue n v) Q E s
  | [], _, n, A, E, s, h, v, hv, Q, q => by cases h; cases hv
  | k :: ks, _, n, A, E, s, h, v, hv, Q, q => by
    cases h with
    | cons h1 h2 =>
      rcases List.mem_cons.mp hv with e | e
      · rw [e]; exact byv_key k _ n A E s Q h1 q
      · exact byv_keys ks _ n A E s h2 v e Q q
end
theorem setKd_nested : SetKd (nestedKind P w) where
  same := fun x ho hd sb => ⟨NestedIs.at (fun b ob vs n hb hc => by
    refine (sb.2 b fun e => ?_).trans hb
    subst e
    rw [ho] at hb
    cases hb
    rw [hd] at hc
    cases hc) _ _ x.1, x.2⟩
  up := fun x hk => ⟨NestedIs.at (fun b ob vs n hb _ => hk b ob hb) _ _ x.1, x.2⟩
  cls := fun x q => cls_key _ _ 8 _ _ _ _ x.1 x.2 q
  byv := fun x q => byv_key _ _ 8 _ _ _ _ x.1 q
end
/-- how many are new, from the left -/
def dl {κ : Type} [DecidableEq κ] : List κ → List κ → Nat
  | _, [] => 0
  | seen, x :: xs => if x ∈ seen then dl (seen ++ [x]) xs else dl (seen ++ [x]) xs + 1
theorem dl_nodup {κ : Type} [DecidableEq κ] : ∀ (xs seen : List κ), (seen ++ xs).Nodup → dl seen xs = xs.length
  | [], _, _ => rfl
  | x :: xs, seen, h => by
    unfold dl
    have h1 : x ∉ seen := fun z => by
      have := List.nodup_append.mp h
      exact this.2.2 x z x List.mem_cons_self rfl
    rw [if_neg h1, dl_nodup xs (seen ++ [x]) (by simpa using h)]
    rfl
theorem dl_le {κ : Type} [DecidableEq κ] : ∀ (xs seen : List κ), dl seen xs ≤ xs.length
  | [], _ => Nat.le_refl _
  | x :: xs, seen => by
    have := dl_le xs (seen ++ [x])
    unfold dl
    split <;> simp <;> omega
theorem dl_all {κ : Type} [DecidableEq κ] : ∀ (xs seen : List κ), dl seen xs = xs.length → xs.Nodup ∧ ∀ x ∈ xs, x ∉ seen
  | [], _, _ => ⟨List.nodup_nil, fun _ h => nomatch h⟩
  | x :: xs, seen, h => by
    have le := dl_le xs (seen ++ [x])
    unfold dl at h
    split at h
    · rw [List.length_cons] at h; omega
    · rename_i hx
      rw [List.length_cons] at h
      obtain ⟨h1, h2⟩ := dl_all xs (seen ++ [x]) (by omega)
      refine ⟨List.nodup_cons.mpr ⟨fun z => h2 x z (List.mem_append_right _ (List.mem_singleton.mpr rfl)), h1⟩, fun y hy => ?_⟩
      rcases List.mem_cons.mp hy with e | hy
      · rw [e]; exact hx
      · exact fun z => h2 y hy (List.mem_append_left _ z)
theorem dl_iff {κ : Type} [DecidableEq κ] (xs : List κ) : dl [] xs = xs.length ↔ xs.Nodup := ⟨fun h => (dl_all xs [] h).1, fun h => dl_nodup xs [] h⟩
theorem dl_step {κ : Type} [DecidableEq κ] {xs : List κ} {i : Nat} {x : κ} (h : xs[i]? = some x) : dl (xs.take i) (xs.drop i) = (if x ∈ xs.take i then 0 else 1) + dl (xs.take (i + 1)) (xs.drop (i + 1)) := by
  have hi := (List.getElem?_eq_some_iff.mp h).1
  have e : xs[i] = x := (List.getElem?_eq_some_iff.mp h).2
  rw [List.drop_eq_getElem_cons hi, List.take_add_one, h, e]
  show dl _ (x :: _) = _ + dl (xs.take i ++ [x]) _
  conv => lhs; unfold dl
  split <;> omega
end Wk
set_option Elab.async false
set_option linter.all false
set_option maxRecDepth 100000
set_option maxHeartbeats 4000000
namespace Wk
open PySem PySem.Spec PyProof.Rows L2 WkS
theorem KSetKeep {P : Program} {w : World} {C : Type} [DecidableEq C] {knd : HeapKind P w C} {h h' : Heap} {a : Addr} {L : List (Addr × C)} {es : Array (Int × Value)} {ep : Nat} {t : SetTable} (R : KSet knd h a L es ep t) (ha : ∀ o, h.get? a = some o → h'.get? a = some o) (ht : ∀ p ∈ L, knd.is h' p.2 p.1) : KSet knd h' a L es ep t := by
  obtain ⟨o, ho, r⟩ := R.ob
  exact ⟨⟨o, ha o ho, r⟩, R.rows, R.tab, R.nd, ht, R.led, R.room, R.few⟩
theorem kset_fresh {P : Program} {w : World} {C : Type} [DecidableEq C] {knd : HeapKind P w C} {h : Heap} {a : Addr} (ho : h.get? a = some { cls := .type "set", dict := none, data := .set #[] 0 (.fresh 0 0 (!w.params.followText "set-order")) }) : KSet knd h a [] #[] 0 (.fresh 0 0 (!w.params.followText "set-order")) where
  ob := ⟨_, ho, ⟨rfl, rfl, rfl⟩, rfl⟩
  rows := rfl
  tab := ⟨List.Pairwise.nil, rfl, rfl, .inl rfl, fun x hx => (nomatch hx), fun i h j hi => by simp at hi⟩
  nd := List.nodup_nil
  tup := fun p hp => nomatch hp
  led := by
    cases q : w.params.followText "set-order" with
    | false => exact .inr rfl
    | true => exact .inl rfl
  room := by
    show 0 * 5 < 7 * 3
    decide
  few := by
    show 0 < 64
    decide
section
variable {P : Program} {w : World} {A : Around} {E : Value → Shared → Prop} {s : Shared}
/-- the state behind i keys -/
def IvK (P : Program) (w : World) (h0 : Heap) (S : Addr) (ks : List (Addr × NestedKey)) (i : Nat) (h : Heap) : Prop :=
  (∀ b o, h0.get? b = some o → h.get? b = some o) ∧ ∃ L es ep t, KSet (nestedKind P w) h S L es ep t ∧ (∀ k, k ∈ L.map (·.2) ↔ k ∈ (ks.map (·.2)).take i) ∧
    L.length + dl ((ks.map (·.2)).take i) ((ks.map (·.2)).drop i) = dl [] (ks.map (·.2)) ∧ (∀ p ∈ L, p ∈ ks) ∧ L.length ≤ i
theorem adderK {h0 : Heap} {S : Addr} {ks : List (Addr × NestedKey)} {items : Array Value} (hS : h0.get? S = none) (hit : items.toList = ks.map fun p => Value.ref p.1) (hk : ∀ p ∈ ks, (nestedKind P w).is h0 p.2 p.1) (few : ks.length < 64) :
    Adder P w S items (fun A => A.units + 8 < cLine) (IvK P w h0 S ks) where
  step := by
    intro A E s Q i v hv hu iv fin
    obtain ⟨hkp, L, es, ep, t, R, mem, cnt, sub, le⟩ := iv
    have q : items.toList[i]? = some v := by rw [Array.getElem?_toList]; exact hv
    rw [hit, List.getElem?_map] at q
    cases e : ks[i]? with
    | none => rw [e] at q; cases q
    | some p =>
      rw [e] at q
      cases q
      have hi : i < ks.length := (List.getElem?_eq_some_iff.mp e).1
      have ek : (ks.map (·.2))[i]? = some p.2 := by rw [List.getElem?_map, e]; rfl
      have hp : p ∈ ks := List.mem_of_getElem? e
      have hx : (nestedKind P w).is s.heap p.2 p.1 := setKd_nested.up (hk p hp) hkp
      unfold setAdd
      refine wpAny_holding (wpAny_bind ((nestedKind P w).pyHash hu hx ?_))
      refine add_at (s := { s with toks := s.toks + (nestedKind P w).draws p.2 }) R hx setKd_nested hu (by omega) fun b h' L' es' ep' t' sb R' c1 c2 => ?_
      refine fin b h' _ (Nat.le_add_right _ _) ⟨fun c o z => (sb.2 c fun y => by rw [y, hS] at z; cases z).trans (hkp c o z), L', es', ep', t', R', ?_⟩ sb
      have step := dl_step ek
      by_cases c : p.2 ∈ L.map (·.2)
      · have eL := c1 c
        subst eL
        have c' := (mem p.2).mp c
        rw [if_pos c'] at step
        refine ⟨fun k => ?_, by omega, sub, by omega⟩
        rw [mem, List.take_add_one, ek]
        refine ⟨fun z => List.mem_append_left _ z, fun z => ?_⟩
        rcases List.mem_append.mp z with z | z
        · exact z
        · rw [List.mem_singleton.mp z]; exact c'
      · have pm := c2 c
        have c' : p.2 ∉ (ks.map (·.2)).take i := fun z => c ((mem p.2).mpr z)
        rw [if_neg c'] at step
        have len := pm.length_eq
        rw [List.length_cons] at len
        refine ⟨fun k => ?_, by omega, fun z hz => ?_, by omega⟩
        · rw [(pm.map (·.2)).mem_iff, List.map_cons, List.take_add_one, ek]
          show k ∈ p.2 :: L.map (·.2) ↔ k ∈ (ks.map (·.2)).take i ++ [p.2]
          rw [List.mem_cons, List.mem_append, List.mem_singleton, mem]
          exact Or.comm
        · rcases List.mem_cons.mp (pm.mem_iff.mp hz) with z | z
          · rw [z]; exact hp
          · exact sub _ z
theorem ivK_keep {h0 : Heap} {S : Addr} {ks : List (Addr × NestedKey)} (hS : S = h0.objs.size) (hk : ∀ p ∈ ks, (nestedKind P w).is h0 p.2 p.1) (i : Nat) (h h' : Heap) (iv : IvK P w h0 S ks i h) (k : ∀ b o, b ≠ S + 1 → h.get? b = some o → h'.get? b = some o) : IvK P w h0 S ks i h' := by
  obtain ⟨hkp, L, es, ep, t, R, mem, cnt, sub, le⟩ := iv
  have kp : ∀ b o, h0.get? b = some o → h'.get? b = some o := fun b o e => k b o (Nat.ne_of_lt (Nat.lt_succ_of_lt (hS ▸ Heap.lt_size e))) (hkp b o e)
  exact ⟨kp, L, es, ep, t, KSetKeep R (fun o e => k S o (Nat.ne_of_lt (Nat.lt_succ_self S)) e) (fun p hp => setKd_nested.up (hk p (sub p hp)) kp), mem, cnt, sub, le⟩
/-- .. and behind i texts -/
def IvS (P : Program) (w : World) (S : Addr) (xs : List Str) (i : Nat) (h : Heap) : Prop :=
  ∃ n, h.SetOf (PySem.strKind P w) S (fun k => decide (k ∈ xs.take i)) n ∧ n + dl (xs.take i) (xs.drop i) = dl [] xs ∧ n ≤ i
theorem adderS {S : Addr} {xs : List Str} {items : Array Value} (hit : StrsAre items.toList xs) (few : xs.length + 1 < scanBound) : Adder P w S items (fun _ => True) (IvS P w S xs) where
  step := by
    intro A E s Q i v hv hu iv fin
    obtain ⟨n, R, cnt, le⟩ := iv
    have hi : i < xs.length := by
      have h1 := (Array.getElem?_eq_some_iff.mp hv).1
      have h2 := hit.length
      rw [Array.length_toList] at h2
      omega
    obtain ⟨x, t, ex, rfl⟩ : ∃ x t, xs[i]? = some x ∧ v = .str x t := by
      have gen : ∀ {vs : List Value} {ys : List Str} (j : Nat) (v : Value), StrsAre vs ys → vs[j]? = some v → ∃ x t, ys[j]? = some x ∧ v = .str x t := by
        intro vs ys j v r
        induction r generalizing j with
        | nil => intro z; simp at z
        | cons x t _ ih =>
          intro z
          cases j with
          | zero => simp at z; exact ⟨x, t, rfl, z.symm⟩
          | succ j => simpa using ih j (by simpa using z)
      exact gen i v hit (by rw [Array.getElem?_toList]; exact hv)
    have step := dl_step ex
    unfold setAdd
    refine wpAny_holding (wpAny_bind ((PySem.strKind P w).pyHash (k := x) (strKind_is _ _ _ _) ?_))
    refine wpAny_setAddHashed_of (knd := PySem.strKind P w) (s := { s with toks := s.toks + 1 }) (strKind_is _ _ _ _) rfl R (by omega) fun h' sb R' => ?_
    refine fin _ h' _ (Nat.le_add_right _ _) ?_ sb
    by_cases c : x ∈ xs.take i
    · rw [if_pos c] at step
      refine ⟨n, SetOf_congr R' (fun k => ?_) (by simp [c]), by omega, by omega⟩
      rw [List.take_add_one, ex]
      by_cases ek : k = x
      · subst ek; simp [c]
      · simp [ek]
    · rw [if_neg c] at step
      refine ⟨n + 1, SetOf_congr R' (fun k => ?_) (by simp [c]), by omega, by omega⟩
      rw [List.take_add_one, ex]
      simp [List.mem_append]
theorem ivS_keep {S : Addr} {xs : List Str} (i : Nat) (h h' : Heap) (iv : IvS P w S xs i h) (k : ∀ b o, b ≠ S + 1 → h.get? b = some o → h'.get? b = some o) : IvS P w S xs i h' := by
  obtain ⟨n, ⟨o, es, ep, t, ho, r⟩, q⟩ := iv
  exact ⟨n, ⟨o, es, ep, t, k S o (Nat.ne_of_lt (Nat.lt_succ_self S)) ho, r⟩, q⟩
end
end Wk
set_option Elab.async false
set_option linter.all false
set_option maxRecDepth 100000
set_option maxHeartbeats 4000000
namespace Wk
open PySem PySem.Spec PyProof.Rows L2 WkS
def isTup : D → Bool
  | .tuple _ => true
  | _ => false
def setNs (ds : List D) : Option Nat := match strsD ds with
  | some xs => if xs.length + 1 < 4096 then some (dl [] xs) else none
  | none => match keyD.keyDs ds with
    | none => none
    | some ks => if ds.all isTup = true ∧ (∀ k ∈ ks, k.depth ≤ 8) ∧ ds.length < 64 then some (dl [] ks) else none
def setN : D → Option Nat
  | .tuple ds => setNs ds
  | .list ds => setNs ds
  | _ => none
def mLenSet (m : Sl → Option (RV × Sl)) : Sl → Option (RV × Sl) := fun ρ => match m ρ with
  | none => none
  | some (r, ρ1) => match rd ρ1 r with
    | none => none
    | some d => match setN d with
      | none => none
      | some n => some (.val (.int n), ρ1)
section
variable {X : Cx} {pins : List (Addr × Obj)} {σ : Stt} {H : Hp} {s : Shared}
theorem refsK (I : Inv X pins σ H s) : ∀ (ds : List D) (vs : List V) (us : List Value) (ks : List NestedKey), RpAll X.K H vs ds → keyD.keyDs ds = some ks → ds.all isTup = true → Vals vs us →
    ∃ ps : List (Addr × NestedKey), us = ps.map (fun p => Value.ref p.1) ∧ ps.map (·.2) = ks ∧ ∀ p ∈ ps, NestedIs s.heap p.2 (.ref p.1)
  | [], _, us, ks, h, e, _, r => by
    cases h
    unfold keyD.keyDs at e
    cases e
    cases r
    exact ⟨[], rfl, rfl, fun p hp => nomatch hp⟩
  | d :: ds, _, us, ks, h, e, t, r => by
    obtain ⟨k, r', h1, h2, rfl⟩ := keyDs_cons e
    rw [List.all_cons, Bool.and_eq_true] at t
    cases h with
    | cons q1 q2 =>
      cases r with
      | cons p1 p2 =>
        obtain ⟨ps, e1, e2, e3⟩ := refsK I ds _ _ r' q2 h2 t.2 p2
        cases d with
        | tuple xs =>
          have n := nestedOf I _ _ _ k q1 h1 p1
          cases q1 with
          | @tup a _ _ y1 y2 =>
            cases p1
            refine ⟨(a, k) :: ps, by rw [e1]; rfl, by rw [List.map_cons, e2], fun p hp => ?_⟩
            rcases List.mem_cons.mp hp with z | z
            · rw [z]; exact n
            · exact e3 p z
        | _ => cases t.1
theorem strsOf : ∀ (xs : List Str) (vs : List V) (us : List Value), RpAll X.K H vs (xs.map PyData.str) → Vals vs us → StrsAre us xs
  | [], _, us, h, r => by cases h; cases r; exact .nil
  | x :: xs, _, us, h, r => by
    cases h with
    | cons q1 q2 =>
      cases r with
      | cons p1 p2 =>
        cases q1
        obtain ⟨t, rfl⟩ := (show ∃ t, _ = Value.str x t from p1)
        exact .cons x t (strsOf xs _ _ q2 p2)
/-- the set is made and its length is asked -/
theorem lenset_run {l : Addr} {ds : List D} {vs : List V} {us : List Value} {n : Nat} {Q : VK} {pos : Pos} (hu : X.A.units + 65 < cLine) (hc : X.calm = true) (I : Inv X pins σ H s) (r : RpAll X.K H vs ds) (rv : Vals vs us) (en : setNs ds = some n) (isT : Bool)
    (hl : if isT = true then s.heap.IsTuple l us.toArray else s.heap.IsList l us.toArray) (k : Q (.int n) H) :
    wpAny (model X.prog X.w) X.A (call (.type "set") [.ref l]) (fun v s' => wpAny (model X.prog X.w) X.A (call (.builtin "len") [v]) (EP X pins σ Q) X.xe s') X.xe s := by
  have go : ∀ {U : Around → Prop} {Iv : Nat → Heap → Prop}, Adder X.prog X.w s.heap.objs.size us.toArray U Iv → U X.A.in1.in1.in1 →
      (∀ i h h', Iv i h → (∀ b o, b ≠ s.heap.objs.size + 1 → h.get? b = some o → h'.get? b = some o) → Iv i h') →
      (∀ h : Heap, (∀ b o, s.heap.get? b = some o → h.get? b = some o) → h.get? s.heap.objs.size = some { cls := .type "set", dict := none, data := .set #[] 0 (.fresh 0 0 (!X.w.params.followText "set-order")) } → Iv 0 h) →
      (∀ h', Iv us.toArray.size h' → ∃ o es ep t, h'.get? s.heap.objs.size = some o ∧ o.ExactSet ∧ o.data = .set es ep t ∧ t.fits es.size = true ∧ es.size = n) →
      wpAny (model X.prog X.w) X.A (call (.type "set") [.ref l]) (fun v s' => wpAny (model X.prog X.w) X.A (call (.builtin "len") [v]) (EP X pins σ Q) X.xe s') X.xe s := fun T u kp z fin => by
    have z0 : ∀ o', (∀ b o, s.heap.get? b = some o → ((s.heap.push { cls := .type "set", dict := none, data := .set #[] 0 (.fresh 0 0 (!X.w.params.followText "set-order")) }).push o').get? b = some o) ∧ ((s.heap.push { cls := .type "set", dict := none, data := .set #[] 0 (.fresh 0 0 (!X.w.params.followText "set-order")) }).push o').get? s.heap.objs.size = some { cls := .type "set", dict := none, data := .set #[] 0 (.fresh 0 0 (!X.w.params.followText "set-order")) } :=
      fun o' => ⟨fun b o e => Heap.get?_push_of_some _ (Heap.get?_push_of_some _ e), Heap.get?_push_of_some _ (Heap.get?_push_size _ rfl)⟩
    have last : ∀ (h' : Heap) (tk : Nat), _ → _ → _ := fun h' tk (iv : _) (hk : ∀ b o, s.heap.get? b = some o → h'.get? b = some o) =>
      (show wpAny (model X.prog X.w) X.A (call (.builtin "len") [.ref s.heap.objs.size]) (EP X pins σ Q) X.xe { s with heap := h', toks := tk } from by
        obtain ⟨o, es, ep, t, ho, hex, hd, hf, hn⟩ := fin h' iv
        have I2 : Inv X pins σ H { s with heap := h', toks := tk } := I.kept hk
        have sz : us.toArray.size ≤ us.length := by simp
        refine call_len_set (s := { s with heap := h', toks := tk }) ho hex hd hf ?_ ⟨.int n, H, I2.tok _, ⟨_, by rw [hn]⟩, k⟩
        have h5 : n ≤ 4096 := by
          unfold setNs at en
          split at en
          · rename_i xs _
            split at en
            · cases en; have := dl_le xs []; omega
            · cases en
          · split at en
            · cases en
            · rename_i ks ek
              split at en
              · rename_i cc
                cases en
                have h1 := dl_le ks []
                have h2 : ks.length = ds.length := by
                  have gen : ∀ (ds : List D) (ks : List NestedKey), keyD.keyDs ds = some ks → ks.length = ds.length := by
                    intro ds
                    induction ds with
                    | nil => intro ks e; unfold keyD.keyDs at e; cases e; rfl
                    | cons d ds ih => intro ks e; obtain ⟨k, r', _, e2, rfl⟩ := keyDs_cons e; simp [ih r' e2]
                  exact gen ds ks ek
                have := cc.2.2
                omega
              · cases en
        omega)
    cases isT with
    | true => exact call_set_tuple (I.ok.hd hc) hl T u kp (z _ (z0 _).1 (z0 _).2) last
    | false => exact call_set_list (I.ok.hd hc) hl T u kp (z _ (z0 _).1 (z0 _).2) last
  unfold setNs at en
  split at en
  · rename_i xs ex
    split at en
    · rename_i hz
      cases en
      rw [strsD_eq ex] at r
      have sa := strsOf xs vs us r rv
      have hlen : us.toArray.size = xs.length := by rw [List.size_toArray]; exact sa.length
      refine go (adderS (S := s.heap.objs.size) (xs := xs) (by simpa using sa) (by unfold scanBound; omega)) trivial ivS_keep (fun h _ hs => ?_) fun h' iv => ?_
      · refine ⟨0, ⟨_, #[], 0, _, hs, ⟨rfl, rfl, rfl⟩, rfl, ?_, ?_, ?_, rfl, rfl⟩, by simp [List.take_zero], Nat.le_refl _⟩
        · intro e he; exact absurd he (by simp)
        · intro k; simp
        · unfold scanBound; decide
      · obtain ⟨n', ⟨o, es, ep, t, ho, hex, hd, _, _, _, hf, hn⟩, cnt, _⟩ := iv
        refine ⟨o, es, ep, t, ho, hex, hd, hf, ?_⟩
        rw [hlen, List.take_length, List.drop_length] at cnt
        rw [hn]
        simpa [dl] using cnt
    · cases en
  · split at en
    · cases en
    · rename_i ks ek
      split at en
      · rename_i cc
        cases en
        obtain ⟨h1, h2, h3⟩ := cc
        obtain ⟨ps, e1, e2, e3⟩ := refsK I ds vs us ks r ek h1 rv
        have hps : ps.length = ds.length := by rw [← r.length, rv.length, e1, List.length_map]
        have hk : ∀ p ∈ ps, (nestedKind X.prog X.w).is s.heap p.2 p.1 := fun p hp => ⟨e3 p hp, h2 p.2 (by rw [← e2]; exact List.mem_map.mpr ⟨p, hp, rfl⟩)⟩
        have free : s.heap.get? s.heap.objs.size = none := by
          cases q : s.heap.get? s.heap.objs.size with
          | none => rfl
          | some o => exact absurd (Heap.lt_size q) (Nat.lt_irrefl _)
        have hlen : us.toArray.size = ps.length := by rw [List.size_toArray, e1, List.length_map]
        refine go (adderK (h0 := s.heap) (S := s.heap.objs.size) (ks := ps) free (by simpa using e1) hk (by omega)) (by show X.A.units + 1 + 1 + 1 + 8 < cLine; omega) (ivK_keep rfl hk) (fun h kp hs => ?_) fun h' iv => ?_
        · exact ⟨kp, [], #[], 0, _, kset_fresh hs, fun k => by simp, by simp, fun p hp => (nomatch hp), Nat.le_refl _⟩
        · obtain ⟨_, L, es, ep, t, R, mem, cnt, _⟩ := iv
          obtain ⟨o, ho, hex, hd⟩ := R.ob
          refine ⟨o, es, ep, t, ho, hex, hd, (KSet.fits (s := { s with heap := h' }) R), ?_⟩
          have lm : us.toArray.size = (ps.map (·.2)).length := by rw [hlen, List.length_map]
          rw [lm, List.take_length, List.drop_length] at cnt
          rw [KSet.size (s := { s with heap := h' }) R, ← e2]
          simpa [dl] using cnt
      · cases en
theorem ev_len_set {a : Expr} {m : Sl → Option (RV × Sl)} {p p2 q pos : Pos} (hu : X.A.units + 65 < cLine) (hc : X.calm = true) (hg : Gl X "len") (hm : X.mg "len" = none) (hg2 : Gl X "set") (hm2 : X.mg "set" = none) (ha : EvE X a m)
    (na : starEach [a] X.env = (false, eval a X.env) :: starEach [] X.env := by rfl) : EvE X (.Call (.Name "len" p) [.Call (.Name "set" p2) [a] [] q] [] pos) (mLenSet m) := by
  refine ⟨⟨fun pins s σ H Q I h => ?_⟩⟩
  obtain ⟨as, F, ρ, r, ρ', R, e, k⟩ := h
  unfold mLenSet at e
  cases q0 : m ρ with
  | none => rw [q0] at e; cases e
  | some pr =>
    obtain ⟨r0, ρ1⟩ := pr
    rw [q0] at e
    dsimp only at e
    cases q1 : rd ρ1 r0 with
    | none => rw [q1] at e; cases e
    | some d =>
      rw [q1] at e
      dsimp only at e
      cases q2 : setN d with
      | none => rw [q2] at e; cases e
      | some n =>
        rw [q2] at e
        cases e
        refine Call_ (ld_blt I hg hm boot_len ?_)
        refine PyProof.Rows.callWith_builtin1 (PyProof.Rows.args_cons ?_ rfl) rfl rfl
        refine Call_ (ld_blt I hg2 hm2 boot_set ?_)
        refine PyProof.Rows.callWith_type1 (PyProof.Rows.args_cons (thn (ha.pe.run pins s σ H (fun v H1 => ∃ F1, Step F H σ ρ F1 H1 σ ρ' ∧ Rep X.K X.w as F1 H1 σ ρ' ∧ RdV X.K F1 H1 v d) I ⟨as, F, ρ, r0, ρ', R, q0, fun v F1 H1 S1 R1 y => ⟨F1, S1, R1, y.read R1 q1⟩⟩) fun u s1 ⟨v, H1, I1, rv, F1, S1, R1, rdv⟩ => PyProof.Rows.args_nil ?_) na) na rfl
        have fin : Q (.int n) H1 := k (.int n) F1 H1 S1 R1 (.int n)
        cases d with
        | tuple ds =>
          obtain ⟨b, vs, rfl, hs, hr⟩ := rdv.tuple R1.sub
          cases (show u = Value.ref b from rv)
          obtain ⟨its, rv', p1, _⟩ := I1.tuple (Same.sqt R1.sub hs)
          refine wpAny_mono (lenset_run (pos := pos) hu hc I1 (hr.up R1.sub) rv' (show setNs ds = some n from q2) true p1 fin) (fun v s2 h2 => PyProof.Rows.args_nil h2) fun _ _ z => z
        | list ds =>
          obtain ⟨b, vs, rfl, hs, hr⟩ := rdv.list R1.sub
          cases (show u = Value.ref b from rv)
          obtain ⟨its, rv', p1, _⟩ := I1.list (SqL.of hs)
          refine wpAny_mono (lenset_run (pos := pos) hu hc I1 (hr.up R1.sub) rv' (show setNs ds = some n from q2) false p1.isList fin) (fun v s2 h2 => PyProof.Rows.args_nil h2) fun _ _ z => z
        | _ => cases q2
end
end Wk
set_option Elab.async false
set_option linter.all false
set_option maxRecDepth 100000
set_option maxHeartbeats 4000000
namespace Wk
open PySem PySem.Spec PyProof.Rows L2
open AutoSeq1 (wpAny_loadPart')

/-! ### enumerate of a tuple -/
theorem enumT_new (l : Addr) (items : Array Value) (n : Nat) (dct : Option Addr) (sl : Array (Option Value)) :
    Meets (Builtin.«enumerate.__new__» ⟨[.type "enumerate", .ref l], []⟩) (fun _ R s => s.heap.get? l = some { cls := .type "tuple", dict := dct, data := .seq items n, slots := sl } ∧
      R (.ok (.ret (.ref (s.heap.push { cls := .type "tuple_iterator", data := .fields #[.ref l, .int 0 0] }).objs.size)))
        { s with heap := (s.heap.push { cls := .type "tuple_iterator", data := .fields #[.ref l, .int 0 0] }).push { cls := .type "enumerate", data := .fields #[.none, .bool false, .ref s.heap.objs.size, rawInt 0, .none, .none] } }) :=
  .of_wp fun prog w A R s h => by
    obtain ⟨hp, g, d, tk, os⟩ := s; obtain ⟨hl, h⟩ := h
    have hsub := sub_enumerate
    have hL : Heap.IsTuple (Shared.heap ⟨hp, g, d, tk, os⟩) l items := ⟨_, hl, rfl, n, rfl⟩
    wp_walk using wpAny_loadPart' hl
    refine wpAny_stack_any fun st => wpAny_pure ?_
    split
    · rename_i c _ _ _ _ _
      cases (c == Value.type "enumerate")
      · wp_walk using wpAny_loadPart' hl, wpAny_pyIter_tuple hL
        exact ⟨_, rfl, h⟩
      · wp_walk using wpAny_loadPart' hl, wpAny_pyIter_tuple hL
        exact ⟨_, rfl, h⟩
    · wp_walk using wpAny_loadPart' hl, wpAny_pyIter_tuple hL
      exact ⟨_, rfl, h⟩
section
variable {prog : Program} {w : World} {A : Around} {E : Value → Shared → Prop} {s : Shared}
theorem call_enumT {l : Addr} {items : Array Value} {Q : Value → Shared → Prop} (hL : s.heap.IsTuple l items)
    (h : ∀ h', IsEnum h' (s.heap.objs.size + 1) s.heap.objs.size 0 .none → h'.IsTupleIter s.heap.objs.size l 0 →
      (∀ b o, s.heap.get? b = some o → h'.get? b = some o) → Q (.ref (s.heap.objs.size + 1)) { s with heap := h' }) :
    wpAny (model prog w) A (call (.type "enumerate") [.ref l]) Q E s := by
  obtain ⟨⟨c, dct, dt, sl⟩, hl, hc, n, hd⟩ := hL
  cases (show c = .type "tuple" from hc)
  cases (show dt = .seq items n from hd)
  refine callType_new PySem.F.called_enumerate (by decide) (PySem.F.typeCall_enumerate_1 _) (PySem.F.newCall_enumerate_1 _) (fun obj => PySem.F.args_object_init_2 obj _) PySem.F.entry_enumerate_new
    (enumT_new l items n dct sl) ⟨hl, ?_⟩
  have hz : (s.heap.push { cls := .type "tuple_iterator", data := .fields #[.ref l, .int 0 0] }).objs.size = s.heap.objs.size + 1 := Heap.size_push ..
  have he := Heap.get?_push_size (s.heap.push { cls := .type "tuple_iterator", data := .fields #[.ref l, .int 0 0] })
      (o := { cls := .type "enumerate", data := .fields #[.none, .bool false, .ref s.heap.objs.size, rawInt 0, .none, .none] }) rfl
  show _ ∧ _
  rw [hz] at he ⊢
  exact ⟨⟨_, he, rfl⟩, h _ he ⟨_, Heap.get?_push_of_some _ (Heap.get?_push_size _ rfl), rfl, rfl⟩ fun b o x => Heap.get?_push_of_some _ (Heap.get?_push_of_some _ x)⟩
theorem next_enumT_end {e it l : Addr} {i : Nat} {items : Array Value} {old : Value} {Q : Option Value → Shared → Prop} (hh : A.handled = none)
    (he : IsEnum s.heap e it i old) (hit : s.heap.IsTupleIter it l i) (hl : s.heap.IsTuple l items) (hx : items[i]? = none)
    (hQ : ∀ h', Heap.ExtBut it s.heap h' → Q none { s with heap := h' }) : wpAny (model prog w) A (pyNext (.ref e)) Q E s := by
  have hT : s.TypeIs (.ref e) "enumerate" := ⟨_, he, rfl⟩
  unfold pyNext
  refine wpAny_bind (wpAny_attempt (wpAny_callSpecial?_slot (name := Str.ofString "__next__") hT PySem.F.slot_enumerate_next
    (wpAny_call_entry PySem.F.slot_enumerate_next hT PySem.F.entry_enumerate_next ?_ (PySem.F.args_enumerate_next_1 _))))
  show wpAny _ _ (field (.ref e) 2 >>= _) _ _ _
  refine wpAny_bind (wpAny_field he rfl (x := .ref it) rfl ?_)
  refine wpAny_bind (wpAny_nextOf_tuple_end hh hit hl hx fun h' x he' ⟨o, ho, hc⟩ => ?_)
  exact wpAny_bind (wpAny_isInstance (T := "StopIteration") (b := true) ⟨o, ho, hc⟩ isSubtype_stop (wpAny_pure (hQ _ he')))
end
def IteT (K : PySem.W.Frag) (a : Addr) : It :=
  ⟨fun i H => ∃ (xs : List V) (x : V), SqT K H a xs ∧ xs[i]? = some x, fun i H v H' => ∃ T x, v = .ref T ∧ H T = none ∧ H' = upd H T (.tup [.int (i : Nat), x]) ∧ ∀ xs, SqT K H a xs → xs[i]? = some x, fun i H => ∃ xs : List V, SqT K H a xs ∧ xs.length ≤ i⟩
theorem turn_enumT {P : Program} {w : World} {K : PySem.W.Frag} {elts : List Expr} {kk : Nat} {tpos : Pos} (a e it : Addr) (nt : a ≠ it) :
    Turn P w K (.Tuple elts kk tpos) (IteT K a) [e, it] e (fun i h => (∃ old, IsEnum h e it ((i : Nat) : Int) old) ∧ h.IsTupleIter it a i ∧ e ≠ it ∧ e ≠ a) where
  mem := by simp
  obj := fun i h st b hb => by
    obtain ⟨⟨old, he⟩, ⟨o, ho, hc, hd⟩, _⟩ := st
    have e' : b = e ∨ b = it := by simpa using hb
    rcases e' with z | z
    · rw [z]; exact ⟨_, he, fun v q => nomatch q⟩
    · rw [z]; exact ⟨o, ho, fun v q => by rw [hd] at q; cases q⟩
  keep := fun i h h' st k => let ⟨⟨old, he⟩, hi, hne⟩ := st; ⟨⟨old, k e (by simp) _ he⟩, hi.at fun o q => k it (by simp) o q, hne⟩
  item := by
    intro X hP hw hK hc i pins s σ H E I hf st hg
    subst hP hw hK
    obtain ⟨⟨old, he⟩, hit, hne, hea⟩ := st
    obtain ⟨xs, x, hq, hx⟩ := hg
    obtain ⟨its, rv, p, hz⟩ := I.tuple hq
    have p' : s.heap.IsTuple a its.toArray := p
    obtain ⟨u, hu, ru⟩ := rv.get hx
    have hel : e < s.heap.objs.size := Heap.lt_size he
    have hil : it < s.heap.objs.size := by obtain ⟨_, q, _⟩ := hit; exact Heap.lt_size q
    have D := Draws.tuple (prog := X.prog) (w := X.w) (A := X.A.in1) (I.ok.hd hc) it a nt its.toArray
    have li : i < its.toArray.size := by
      rw [List.size_toArray]
      exact (List.getElem?_eq_some_iff.mp hu).1
    refine wpAny_pyNext_enum_itemD D he ⟨hit, p'⟩ li hne (by simp [hne, hea]) fun x' h' tk hp ho hit' hT hsz hk => ?_
    have ex' : x' = u := by
      have q : its[i]? = some x' := by simpa using hp
      rw [hu] at q
      exact (Option.some.inj q).symm
    subst ex'
    refine ⟨_, rfl, wpAny_letOwnedTupleGo_enum (s := { s with heap := h', toks := tk + 1 }) ho fun h'' he' sb => ?_⟩
    have hT2 : h''.get? s.heap.objs.size = some { cls := .type "tuple", data := .seq #[.int i tk, x'] } := (sb.2 _ (Nat.ne_of_gt hel)).trans hT
    have new : ObjOk X.prog X.w (upd H s.heap.objs.size (.tup [.int (i : Nat), x])) h'' s.heap.objs.size (.tup [.int (i : Nat), x]) :=
      ⟨by show 2 ≤ sizeLine; decide, [.int i tk, x'], .cons ⟨_, rfl⟩ (.cons ru .nil), ⟨_, hT2, rfl, _, rfl⟩⟩
    have I1 : Inv X pins σ (upd H s.heap.objs.size (.tup [.int (i : Nat), x])) { s with heap := h'', toks := tk + 1 } :=
      I.turnedNew (ch := [e, it]) (fun b ob hb q => (sb.2 b (fun z => hb (by simp [z]))).trans (hk b ob (fun z => hb (by simp [z])) (fun z => hb (by simp [z])) q)) hf (Nat.le_refl _) new
    refine ⟨.ref s.heap.objs.size, _, I1, rfl, ⟨_, x, rfl, I.hok.fresh (Nat.le_refl _), rfl, fun ys hy => by rw [I.tuple_inj hy hq]; exact hx⟩, ⟨⟨x', ?_⟩, hit'.1.at fun o q => (sb.2 it (Ne.symm hne)).trans q, hne, hea⟩, fun b hb => ?_⟩
    · have e1 : ((i + 1 : Nat) : Int) = (i : Int) + 1 := by omega
      rw [e1]; exact he'
    · have hb' : b < s.heap.objs.size := by
        have e' : b = e ∨ b = it := by simpa using hb
        rcases e' with z | z
        · rw [z]; exact hel
        · rw [z]; exact hil
      rw [upd_ne (Nat.ne_of_lt hb')]
      exact (hf b hb).1
  done := by
    intro X hP hw hK hc i pins s σ H E I hf st hg
    subst hP hw hK
    obtain ⟨⟨old, he⟩, hit, hne, hea⟩ := st
    obtain ⟨xs, hq, hx⟩ := hg
    obtain ⟨its, rv, p, hz⟩ := I.tuple hq
    have p' : s.heap.IsTuple a its.toArray := p
    obtain ⟨f0, f1, f2, f3, f4, f5⟩ := hf it (by simp)
    have hl := rv.length
    exact next_enumT_end (I.ok.hd hc) he hit p' (by simp; omega) fun h' eb => ⟨rfl, I.turned (t' := s.toks) (fun b o hb q => eb b o hb q) f0 f1 f3 f4 f5⟩
  self := fun A i s Q E st h => let ⟨⟨_, he⟩, _⟩ := st; wpAny_pyIter_enum he h

/-! ### t[::-1] -/
theorem adjust_rev (n : Nat) : Builtin.Slice.sliceAdjust none none (-1) (n : Int) = ((n : Int) - 1, -1) := by
  unfold Builtin.Slice.sliceAdjust
  simp
theorem places_rev (n : Nat) : Builtin.Slice.slicePlaces ((n : Int) - 1) (-1) (-1) = n := by
  unfold Builtin.Slice.slicePlaces
  simp
  omega
theorem pick_rev (xs : Array Value) : ((List.range xs.size).filterMap fun (m : Nat) => xs[(((xs.size : Nat) : Int) - 1 + (m : Int) * (-1)).toNat]?).toArray = xs.toList.reverse.toArray := by
  have gen : ∀ k, k ≤ xs.toList.length → (List.range k).filterMap (fun (m : Nat) => xs[(((xs.size : Nat) : Int) - 1 + (m : Int) * (-1)).toNat]?) = xs.toList.reverse.take k := by
    intro k
    induction k with
    | zero => intro _; rfl
    | succ k ih =>
      intro hk
      have hlen : xs.toList.length = xs.size := Array.length_toList
      have hk2 : k < xs.size := by omega
      have e1 : (((xs.size : Nat) : Int) - 1 + (k : Int) * (-1)).toNat = xs.size - 1 - k := by omega
      have e2 : xs.toList.reverse[k]? = xs[xs.size - 1 - k]? := by
        rw [List.getElem?_reverse (by omega), hlen, Array.getElem?_toList]
      rw [List.range_succ, List.filterMap_append, ih (by omega), List.take_add_one, e2]
      congr 1
      have hk3 : xs.size - 1 - k < xs.size := by omega
      rw [List.filterMap_cons, e1, Array.getElem?_eq_getElem hk3]
      rfl
  have := gen xs.size (by rw [Array.length_toList]; exact Nat.le_refl _)
  rw [this, List.take_of_length_le (by rw [List.length_reverse, Array.length_toList]; exact Nat.le_refl _)]
section
variable {prog : Program} {w : World} {A : Around} {E : Value → Shared → Prop} {s : Shared}
theorem getItem_tupRev {t sl : Addr} {items : Array Value} {vl vu vs : Value} {Q : Value → Shared → Prop} (ht : IsTup s.heap t items) (hs : s.heap.IsSliceOf sl vl vu vs) (pl : IsPart vl none) (pu : IsPart vu none) (ps : IsPart vs (some (-1)))
    (h : Q (.ref s.heap.objs.size) { s with heap := s.heap.push { cls := .type "tuple", data := .seq items.toList.reverse.toArray } }) (hsz : items.size ≤ sizeLine) : wpAny (model prog w) A (getItem (.ref t) (.ref sl)) Q E s := by
  have htake : sizeOk (.seq items.toList.reverse.toArray) := by
    show items.toList.reverse.toArray.size ≤ sizeLine
    rw [List.size_toArray, List.length_reverse, Array.length_toList]
    exact hsz
  obtain ⟨os, hos, hcs, hds⟩ := id hs
  unfold getItem
  try with_reducible refine wpAny_holding ?_
  first | refine wpAny_bind (wpAny_pure ?_) | skip
  refine wpAny_bind (wpAny_sequenceKey ht.typeIs (by decide) ?_)
  refine wpAny_bind (wpAny_callSpecial?_slot (name := Str.ofString "__getitem__") ht.typeIs PyProof.Rows.slot_tuple_getitem
    (wpAny_call_entry PyProof.Rows.slot_tuple_getitem ht.typeIs PyProof.Rows.entry_tuple_getitem ?_ (PyProof.Rows.args_tuple_getitem _ _)))
  show wpAny _ _ (Builtin.Tuple.tupleItemsOf (.ref t) >>= _) _ _ s
  refine wpAny_bind (tupleItemsOf_ ht ?_)
  refine wpAny_bind (wpAny_typeOf (T := "slice") ⟨os, hos, hcs⟩ ?_)
  rw [if_pos (by decide)]
  refine wpAny_bind ?_
  unfold Builtin.Slice.sliceApplied Builtin.Slice.sliceFields
  refine wpAny_bind (wpAny_bind (wpAny_field hos hds (x := vl) rfl (wpAny_bind (wpAny_field hos hds (x := vu) rfl (wpAny_bind (wpAny_field hos hds (x := vs) rfl (wpAny_pure ?_)))))))
  refine wpAny_bind (HT.slicePart_ ps ?_)
  show wpAny _ _ (if ((-1 : Int) == 0) = true then _ else _) _ _ s
  rw [if_neg (by decide)]
  refine wpAny_bind (HT.slicePart_ pl (wpAny_bind (HT.slicePart_ pu (wpAny_bind (wpAny_pure ?_)))))
  show wpAny _ _ (match Builtin.Slice.sliceAdjust none none (-1) (items.size : Int) with | (lo, hi) => pure (lo, (-1 : Int), Builtin.Slice.slicePlaces lo hi (-1))) _ _ s
  rw [adjust_rev]
  show wpAny _ _ (pure (((items.size : Nat) : Int) - 1, (-1 : Int), Builtin.Slice.slicePlaces (((items.size : Nat) : Int) - 1) (-1) (-1))) _ _ s
  rw [places_rev]
  refine wpAny_pure ?_
  show wpAny _ _ (if (((items.size : Nat) : Int) - 1 == 0 && (-1 : Int) == 1 && items.size == items.size) = true then _ else _) _ _ s
  rw [if_neg (by simp), pick_rev]
  first
    | exact wpAny_bind (m := Builtin.Tuple.tupleExact _) (wpAny_newObj_type (wpAny_pure ⟨_, rfl, wpAny_pure h⟩) htake)
    | exact wpAny_bind (m := Builtin.Tuple.tupleExact _) (wpAny_newObj_type (wpAny_bind (wpAny_pure (wpAny_pure ⟨_, rfl, wpAny_pure h⟩))) htake)
    | exact wpAny_bind (wpAny_bind (m := Builtin.Tuple.tupleExact _) (wpAny_newObj_type (wpAny_pure (wpAny_pure ⟨_, rfl, wpAny_pure h⟩)) htake))
    | exact wpAny_bind (wpAny_bind (m := Builtin.Tuple.tupleExact _) (wpAny_newObj_type (wpAny_pure ⟨_, rfl, wpAny_pure h⟩) htake))
end
def rRevA (K : PySem.W.Frag) : V → Hp → VK → Prop := fun x H Q => ∃ a xs, x = .ref a ∧ ((SqL K H a xs ∧ ∀ p, H p = none → Q (.ref p) (upd H p (.lst xs.reverse))) ∨ (SqT K H a xs ∧ ∀ p, H p = none → Q (.ref p) (upd H p (.tup xs.reverse))))
section
variable {X : Cx}
theorem pe_revA {e : Expr} {te : TE} {k : Nat} {p1 p2 p3 pos : Pos} (he : PE X e te) : PE X (.Subscript e (.Slice none none (some (.UnaryOp .USub (.Constant (.int 1) k p1) p2)) p3) pos) (tUn (rRevA X.K) te) := by
  refine ⟨fun pins s σ H Q I h => Subscript_ (thn (he.run pins s σ H _ I h) fun v s1 ⟨x, H1, I1, r1, q1⟩ => ?_)⟩
  obtain ⟨a, xs, ex, q1⟩ := q1
  subst ex
  cases r1
  have hst : PO X (some (.UnaryOp .USub (.Constant (.int 1) k p1) p2)) (tPart (tUn (rU fun i => .int (-i)) (tC (.int 1)))) := po_some (pe_un un_neg pe_int)
  refine wpAny_Slice (thn (po_none.run pins s1 σ H1 (fun o H2 => o = none ∧ H2 = H1) I1 ⟨rfl, rfl⟩) fun vl s2 ⟨l, H2, I2, pl, el, e2⟩ => ?_)
  subst el e2
  refine thn (po_none.run pins s2 σ H2 (fun o H3 => o = none ∧ H3 = H2) I2 ⟨rfl, rfl⟩) fun vu s3 ⟨u, H3, I3, pu, eu, e3⟩ => ?_
  subst eu e3
  refine thn (hst.run pins s3 σ H3 (fun o H4 => o = some (-1) ∧ H4 = H3) I3 ⟨1, rfl, -1, rfl, rfl, rfl⟩) fun vs s4 ⟨o, H4, I4, ps, eo, e4⟩ => ?_
  subst eo e4
  have I5 : Inv X pins σ H4 { s4 with heap := s4.heap.push { cls := .type "slice", data := .fields #[vl, vu, vs] } } := I4.kept (t' := s4.toks) fun b ob q => Heap.get?_push_of_some _ q
  rcases q1 with ⟨hx, q⟩ | ⟨hx, q⟩
  · obtain ⟨its, r, ht, hz⟩ := I5.list hx
    have hlen := r.length
    refine tail_any (ops := [.ref a, .ref s4.heap.objs.size]) ht.isList.typeIs (PySem.slot_list_getitem.lookup) ?_ (by with_unfolding_all rfl)
    refine wpAny_getItem_list_slice ht.isList (Heap.IsSliceOf.new _ vl vu vs) pl pu ps (by decide) ?_ (by rw [List.size_toArray]; omega)
    rw [PySem.W.krv_pick]
    refine ⟨.ref _, _, I5.laid (t' := s4.toks) (o := .lst xs.reverse) (fun b ob q => Heap.get?_push_of_some _ q) (Nat.le_refl _) ?_, rfl, q _ (I5.hok.fresh (Nat.le_refl _))⟩
    exact ⟨by rw [List.length_reverse]; exact hz, _, 0, r.reverse, Heap.get?_push_size _ rfl⟩
  · obtain ⟨its, r, ht, hz⟩ := I5.tuple hx
    have hlen := r.length
    refine tail_any (ops := [.ref a, .ref s4.heap.objs.size]) ht.typeIs (PyProof.Rows.slot_tuple_getitem.lookup) ?_ (by with_unfolding_all rfl)
    refine getItem_tupRev ht (Heap.IsSliceOf.new _ vl vu vs) pl pu ps ?_ (by rw [List.size_toArray]; omega)
    refine ⟨.ref _, _, I5.laid (t' := s4.toks) (o := .tup xs.reverse) (fun b ob q => Heap.get?_push_of_some _ q) (Nat.le_refl _) ?_, rfl, q _ (I5.hok.fresh (Nat.le_refl _))⟩
    exact ⟨by rw [List.length_reverse]; exact hz, _, r.reverse, IsTup.new _ _⟩
end
theorem RpAll.reverse {K : PySem.W.Frag} {F : Hp} {vs : List V} {ds : List D} (h : RpAll K F vs ds) : RpAll K F vs.reverse ds.reverse := by
  have gen : ∀ {vs : List V} {ds : List D}, RpAll K F vs ds → ∀ {us : List V} {es : List D}, RpAll K F us es → RpAll K F (vs.reverse ++ us) (ds.reverse ++ es) := by
    intro vs
    induction vs with
    | nil => intro ds h us es r; cases h; exact r
    | cons v vs ih =>
      intro ds h us es r
      cases h with
      | cons h1 h2 =>
        rw [List.reverse_cons, List.reverse_cons, List.append_assoc, List.append_assoc]
        exact ih h2 (.cons h1 r)
  simpa using gen h .nil
def revD : D → Option RV
  | .list ds => some (.tmp (.lst ds.reverse))
  | .tuple ds => some (.val (.tuple ds.reverse))
  | _ => none
section
variable {X : Cx}
theorem ud_rev {K : PySem.W.Frag} {w : World} : UnD K w (rRevA K) revD := by
  intro x d F H Q rv sm hx e k
  cases d with
  | list ds =>
    cases e
    obtain ⟨a, vs, rfl, h1, h2⟩ := hx.list sm
    exact ⟨a, vs, rfl, .inl ⟨SqL.of h1, fun p hp => k _ _ (new_lst hp h2.reverse)⟩⟩
  | tuple ds =>
    cases e
    obtain ⟨a, vs, rfl, h1, h2⟩ := hx.tuple sm
    exact ⟨a, vs, rfl, .inr ⟨Same.sqt sm h1, fun p hp => k _ _ (new_tup sm hp h2.reverse)⟩⟩
  | _ => cases e
end
end Wk
set_option Elab.async false
set_option linter.all false
set_option maxRecDepth 100000
set_option maxHeartbeats 4000000
namespace Wk
open PySem PySem.Spec PyProof.Rows L2
section
variable {K : PySem.W.Frag} {w : World} {as : List V} {F H F1 H1 F2 H2 F' H' : Hp} {σ σ1 σ2 σ' : Stt} {ρ ρ1 ρ2 ρ' : Sl} {X : Cx}
theorem m1_imp {r : V → Hp → VK → Prop} {f : D → Option RV} {ma : Sl → Option (RV × Sl)} (ho : UnD K w r f) {σ : Stt} {H : Hp} {Q : VK} (h : tE K w (m1 f ma) σ H Q) : tUn r (tE K w ma) σ H Q := by
  obtain ⟨as, F, ρ, r', ρ', R, e, k⟩ := h
  unfold m1 at e
  cases q : ma ρ with
  | none => rw [q] at e; cases e
  | some p =>
    obtain ⟨ra, ρ1⟩ := p
    rw [q] at e
    dsimp only at e
    cases q1 : rd ρ1 ra with
    | none => rw [q1] at e; cases e
    | some x =>
      rw [q1] at e
      dsimp only at e
      cases q2 : f x with
      | none => rw [q2] at e; cases e
      | some rr =>
        rw [q2] at e; cases e
        refine ⟨as, F, ρ, ra, _, R, q, fun v F1 H1 S1 R1 y => ho v x F1 H1 Q _ R1.sub (y.read R1 q1) q2 fun z H2 nz => ?_⟩
        obtain ⟨F2, S2, R2, y2⟩ := nz.fin R1
        exact k z F2 H2 (S1.trans S2) R2 (y2.low S1.there)
theorem ev_rev {e : Expr} {k : Nat} {p1 p2 p3 pos : Pos} {m : Sl → Option (RV × Sl)} (he : EvE X e m) : EvE X (.Subscript e (.Slice none none (some (.UnaryOp .USub (.Constant (.int 1) k p1) p2)) p3) pos) (m1 revD m) :=
  ⟨(pe_revA he.pe).imp fun _ _ _ h => m1_imp ud_rev h⟩

/-! ### lists, tuples and texts walked -/
def iAny (K : PySem.W.Frag) (tl : TE) : TI := fun σ H R => tl σ H fun x H1 => (∃ z, x = .str z ∧ R (Its z) H1) ∨ ∃ a, x = .ref a ∧ ((∃ xs, SqL K H1 a xs ∧ (xs.length ≤ sizeLine → R (Itl K a) H1)) ∨ ∃ xs, SqT K H1 a xs ∧ (xs.length ≤ sizeLine → R (Itt K a) H1))
theorem pi_any {tg l : Expr} {tl : TE} (hl : PE X l tl) : PI X tg l (iAny X.K tl) := by
  refine ⟨fun pins s σ H R I h => ?_⟩
  refine thn (hl.run pins s σ H _ I h) fun v s1 ⟨x, H1, I1, r1, q1⟩ => ?_
  rcases q1 with ⟨z, e, q⟩ | ⟨a, e, q1⟩
  · subst e
    obtain ⟨t, rfl⟩ := r1
    cases ha : z.cps.all (· < 128)
    · exact wpAny_pyIter_wide ha (pi_one (tk := s1.toks) I1 _ (turn_str _ z t "str_iterator" (.inr rfl)) ⟨_, Heap.get?_push_size _ rfl, rfl, rfl⟩ q)
    · exact wpAny_pyIter_ascii ha (pi_one (tk := s1.toks) I1 _ (turn_str _ z t "str_ascii_iterator" (.inl rfl)) ⟨_, Heap.get?_push_size _ rfl, rfl, rfl⟩ q)
  · subst e
    cases r1
    rcases q1 with ⟨xs, hq, q⟩ | ⟨xs, hq, q⟩
    · obtain ⟨its, rv, p, hz⟩ := I1.list hq
      exact wpAny_pyIter_list p.isList (pi_one (tk := s1.toks) I1 _ (turn_list a _) ⟨_, Heap.get?_push_size _ rfl, rfl, rfl⟩ (q hz))
    · obtain ⟨its, rv, p, hz⟩ := I1.tuple hq
      exact wpAny_pyIter_tuple (show s1.heap.IsTuple a its.toArray from p) (pi_one (tk := s1.toks) I1 _ (turn_tuple a _) ⟨_, Heap.get?_push_size _ rfl, rfl, rfl⟩ (q hz))
def charsD (x : Str) : List D := x.cps.toList.map fun c => .str ⟨#[c]⟩
theorem charsD_len (x : Str) : (charsD x).length = x.cps.size := by unfold charsD; rw [List.length_map, Array.length_toList]
theorem walks_str (x : Str) : Walks K F (Its x) (charsD x) where
  go := fun i H s hi => by rw [charsD_len] at hi; exact hi
  stop := fun H s => by rw [charsD_len]; exact Nat.le_refl _
  yld := fun i d Fc H v H' hd s1 s2 y => by
    obtain ⟨rfl, c, hc, rfl⟩ := y
    unfold charsD at hd
    rw [List.getElem?_map, Array.getElem?_toList, hc] at hd
    cases hd
    exact ⟨Fc, Same.refl _, fun _ _ q => .inl q, Same.refl _, fun _ q => q, s2, .str _⟩
def itemsD : D → Option (List D)
  | .list ds => some ds
  | .tuple ds => some ds
  | .str x => if x.cps.size ≤ 4096 then some (charsD x) else none
  | _ => none
def mItA (m : Sl → Option (RV × Sl)) : Sl → Option (List D × Sl) := fun ρ => match m ρ with
  | none => none
  | some (r, ρ1) => match cold r ρ1 with
    | none => none
    | some (d, ρ2) => match itemsD d with
      | none => none
      | some ds => some (ds, ρ2)
theorem ei_any {tg e : Expr} {bd : Bool} {m : Sl → Option (RV × Sl)} (h : EvE X e m) : EvI X tg e bd (mItA m) := by
  refine ⟨(pi_any h.pe).imp fun σ H Q ⟨as, F, ρ, ds, ρ', R, e, k⟩ => ?_⟩
  unfold mItA at e
  cases q : m ρ with
  | none => rw [q] at e; cases e
  | some p =>
    obtain ⟨r, ρ1⟩ := p
    rw [q] at e
    dsimp only at e
    refine ⟨as, F, ρ, r, ρ1, R, q, fun v F1 H1 S1 R1 y => ?_⟩
    cases q1 : Wk.cold r ρ1 with
    | none => rw [q1] at e; cases e
    | some p1 =>
      obtain ⟨d, ρ2⟩ := p1
      rw [q1] at e
      dsimp only at e
      obtain ⟨F2, R2, S2, y2, _⟩ := y.cold S1 R1 q1
      cases d with
      | list ds' =>
        cases e
        cases y2 with
        | lst h1 h2 => exact .inr ⟨_, rfl, .inl ⟨_, SqL.of (R2.sub _ _ h1), fun hz => k _ F2 H1 S2 R2 (walks_list h1 h2) fun _ => by rw [← h2.length]; exact hz⟩⟩
      | tuple ds' =>
        cases e
        cases y2 with
        | tup h1 h2 => exact .inr ⟨_, rfl, .inr ⟨_, Same.sqt R2.sub h1, fun hz => k _ F2 H1 S2 R2 (walks_tup h1 h2) fun _ => by rw [← h2.length]; exact hz⟩⟩
      | str x =>
        unfold itemsD at e
        dsimp only at e
        by_cases hz : x.cps.size ≤ 4096
        · rw [if_pos hz] at e
          cases e
          cases y2
          exact .inl ⟨x, rfl, k _ F2 H1 S2 R2 (walks_str x) fun _ => by rw [charsD_len, sizeLine_eq]; omega⟩
        · rw [if_neg hz] at e; cases e
      | _ => cases e

/-! ### enumerate -/
def iEnumA (K : PySem.W.Frag) (ta : TA) : TI := fun σ H R => ta σ H fun vs H1 => ∃ a, vs = [.ref a] ∧ ((∃ xs, SqL K H1 a xs ∧ R (Ite K a) H1) ∨ ∃ xs, SqT K H1 a xs ∧ R (IteT K a) H1)
theorem pi_enumA {e : Expr} {ta : TA} {p pos tpos : Pos} {elts : List Expr} {kk : Nat} (hg : Gl X "enumerate") (hm : X.mg "enumerate" = none) (ha : PA X [e] ta) (hs : starEach [e] X.env = [(false, eval e X.env)] := by rfl) :
    PI X (.Tuple elts kk tpos) (.Call (.Name "enumerate" p) [e] [] pos) (iEnumA X.K ta) := by
  refine ⟨fun pins s σ H R I h => ?_⟩
  refine Call_ (ld_blt I hg hm boot_enumerate (PyProof.Rows.callWith_type1 (thn (ha.run pos pins s σ H _ I h) fun us s1 ⟨vs, H1, I1, r1, q1⟩ => ?_) hs rfl))
  obtain ⟨a, ex, q1⟩ := q1
  subst ex
  cases r1 with
  | cons r rr =>
    cases rr
    cases r
    have fresh : ∀ b, b ∈ [s1.heap.objs.size + 1, s1.heap.objs.size] → FpOk X pins H1 b := fun b hb => by
      have e' : b = s1.heap.objs.size + 1 ∨ b = s1.heap.objs.size := by simpa using hb
      have hle : s1.heap.objs.size ≤ b := by rcases e' with z | z <;> rw [z] <;> first | exact Nat.le_add_right _ _ | exact Nat.le_refl _
      exact I1.fpOk hle (I1.hok.fresh hle)
    rcases q1 with ⟨xs, hq, q⟩ | ⟨xs, hq, q⟩
    · obtain ⟨its, rv, p', hz⟩ := I1.list hq
      refine call_enumerate_list p'.isList fun h' he hit hsz hk => wpAny_pyIter_enum he ?_
      exact ⟨s1.heap.objs.size + 1, _, _, _, H1, rfl, I1.kept (t' := s1.toks) hk, turn_enum a (s1.heap.objs.size + 1) s1.heap.objs.size, ⟨⟨.none, he⟩, hit, Nat.succ_ne_self _⟩, fresh, q⟩
    · obtain ⟨its, rv, p', hz⟩ := I1.tuple hq
      obtain ⟨o, ho, _⟩ := id p'
      have hlt : a < s1.heap.objs.size := Heap.lt_size ho
      refine call_enumT (show s1.heap.IsTuple a its.toArray from p') fun h' he hit hk => wpAny_pyIter_enum he ?_
      exact ⟨s1.heap.objs.size + 1, _, _, _, H1, rfl, I1.kept (t' := s1.toks) hk, turn_enumT a (s1.heap.objs.size + 1) s1.heap.objs.size (Nat.ne_of_lt hlt), ⟨⟨.none, he⟩, hit, Nat.succ_ne_self _, Nat.ne_of_gt (Nat.lt_succ_of_lt hlt)⟩, fresh, q⟩
def enumD (ds : List D) : List D := ds.zipIdx.map fun p => .tuple [.int (p.2 : Nat), p.1]
theorem enumD_len (ds : List D) : (enumD ds).length = ds.length := by unfold enumD; rw [List.length_map, List.length_zipIdx]
theorem enumD_at {ds : List D} {i : Nat} {d : D} (h : (enumD ds)[i]? = some d) : ∃ x, ds[i]? = some x ∧ d = .tuple [.int (i : Nat), x] := by
  unfold enumD at h
  rw [List.getElem?_map, List.getElem?_zipIdx] at h
  cases e : ds[i]? with
  | none => rw [e] at h; cases h
  | some x => rw [e] at h; cases h; exact ⟨x, rfl, by simp⟩
theorem walks_enumL {a : Addr} {vs : List V} {ds : List D} (h : F a = some (.lst vs)) (r : RpAll K F vs ds) : Walks K F (Ite K a) (enumD ds) := by
  refine walks_new (vs := []) (fun i H s hi => ?_) (fun H s => ?_) (fun i d H x H' hd s y => ?_)
  · rw [enumD_len] at hi
    obtain ⟨v, q, _⟩ := r.get (List.getElem?_eq_getElem hi)
    exact ⟨vs, v, SqL.of (s _ _ h), q⟩
  · exact ⟨vs, SqL.of (s _ _ h), by rw [enumD_len, r.length]; exact Nat.le_refl _⟩
  · obtain ⟨T, x1, rfl, hT, rfl, y1⟩ := y
    obtain ⟨d1, q1, rfl⟩ := enumD_at hd
    obtain ⟨v, q, rv⟩ := r.get q1
    have e1 := y1 vs (SqL.of (s _ _ h))
    rw [q] at e1; cases e1
    exact ⟨T, _, _, _, _, rfl, hT, rfl, rfl, .int _, rv⟩
theorem walks_enumT {a : Addr} {vs : List V} {ds : List D} (h : SqT K F a vs) (r : RpAll K F vs ds) : Walks K F (IteT K a) (enumD ds) := by
  refine walks_new (vs := []) (fun i H s hi => ?_) (fun H s => ?_) (fun i d H x H' hd s y => ?_)
  · rw [enumD_len] at hi
    obtain ⟨v, q, _⟩ := r.get (List.getElem?_eq_getElem hi)
    exact ⟨vs, v, Same.sqt s h, q⟩
  · exact ⟨vs, Same.sqt s h, by rw [enumD_len, r.length]; exact Nat.le_refl _⟩
  · obtain ⟨T, x1, rfl, hT, rfl, y1⟩ := y
    obtain ⟨d1, q1, rfl⟩ := enumD_at hd
    obtain ⟨v, q, rv⟩ := r.get q1
    have e1 := y1 vs (Same.sqt s h)
    rw [q] at e1; cases e1
    exact ⟨T, _, _, _, _, rfl, hT, rfl, rfl, .int _, rv⟩
def mEnum (ma : Sl → Option (List RV × Sl)) : Sl → Option (List D × Sl) := fun ρ => match mCold ma ρ with
  | some ([.list ds], ρ1) => some (enumD ds, ρ1)
  | some ([.tuple ds], ρ1) => some (enumD ds, ρ1)
  | _ => none
theorem ei_enum {e : Expr} {elts : List Expr} {kk : Nat} {tpos p pos : Pos} {bd : Bool} {ma : Sl → Option (List RV × Sl)} (hg : Gl X "enumerate") (hm : X.mg "enumerate" = none) (ha : EvA X [e] ma)
    (hs : starEach [e] X.env = [(false, eval e X.env)] := by rfl) : EvI X (.Tuple elts kk tpos) (.Call (.Name "enumerate" p) [e] [] pos) bd (mEnum ma) := by
  refine ⟨(pi_enumA hg hm (pa_lim ha.pa) hs).imp fun σ H Q ⟨as, F, ρ, ds, ρ', R, eq, k⟩ => ?_⟩
  unfold mEnum at eq
  split at eq
  · rename_i ds1 ρ1 q
    cases eq
    refine cold_args R q fun vs F2 H2 S2 R2 rr lm => ?_
    cases rr with
    | cons r1 rr =>
      cases rr
      cases r1 with
      | lst h1 h2 => exact ⟨_, rfl, .inl ⟨_, SqL.of (R2.sub _ _ h1), k _ F2 H2 S2 R2 (walks_enumL h1 h2) fun _ => by rw [enumD_len, ← h2.length]; exact lm _ _ (.inl (SqL.of (R2.sub _ _ h1)))⟩⟩
  · rename_i ds1 ρ1 q
    cases eq
    refine cold_args R q fun vs F2 H2 S2 R2 rr lm => ?_
    cases rr with
    | cons r1 rr =>
      cases rr
      cases r1 with
      | tup h1 h2 => exact ⟨_, rfl, .inr ⟨_, Same.sqt R2.sub h1, k _ F2 H2 S2 R2 (walks_enumT h1 h2) fun _ => by rw [enumD_len, ← h2.length]; exact lm _ _ (.inr (Same.sqt R2.sub h1))⟩⟩
  · cases eq

/-! ### x, y, z = a, b, c -/
def mPar3 (i j l : Nat) (ma : Sl → Option (List RV × Sl)) : Sl → Option Fl := fun ρ => match mCold ma ρ with
  | some ([a, b, c], ρ1) => if i < ρ1.length ∧ j < ρ1.length ∧ l < ρ1.length then some (.nx (((ρ1.set i (.val a)).set j (.val b)).set l (.val c))) else none
  | _ => none
theorem es_par3 {i j l : Nat} {x y z : Str} {a b c : Expr} {px py pz pt pos : Pos} {kt k2 pt2} {ma : Sl → Option (List RV × Sl)} (hc : X.calm = true) (hN : X.N.Nodup) (hi : X.N[i]? = some x) (hj : X.N[j]? = some y) (hl : X.N[l]? = some z) (hij : i ≠ j) (hil : i ≠ l) (hjl : j ≠ l)
    (hx : X.env.scope.names.lookup x = some .local) (hy : X.env.scope.names.lookup y = some .local) (hz : X.env.scope.names.lookup z = some .local) (ha : EvA X [a, b, c] ma)
    (hw : swappedStores [.Tuple [.Name x px, .Name y py, .Name z pz] kt pt] (.Tuple [a, b, c] k2 pt2) X.env = pure (some [x, y, z]))
    (hs : swapsWithSole [.Tuple [.Name x px, .Name y py, .Name z pz] kt pt] (.Tuple [a, b, c] k2 pt2) pos.line X.env = pure false := by rfl) :
    EvS X (.Assign [.Tuple [.Name x px, .Name y py, .Name z pz] kt pt] (.Tuple [a, b, c] k2 pt2) pos) (mPar3 i j l ma) := by
  refine ⟨(ps_par3 hc hN hi hj hl hij hil hjl hx hy hz ha.pa hw hs).imp fun Dn σ H ⟨as, F, ρ, f, R, eq, k⟩ => ?_⟩
  unfold mPar3 at eq
  split at eq
  · rename_i d1 d2 d3 ρ1 q
    split at eq
    case isFalse => cases eq
    rename_i hlen
    obtain ⟨l1, l2, l3⟩ := hlen
    cases eq
    refine cold_args R q fun vs F2 H2 S2 R2 rr => ?_
    cases rr with
    | @cons v1 _ _ _ r1 rr => cases rr with
      | @cons v2 _ _ _ r2 rr => cases rr with
        | @cons v3 _ _ _ r3 rr =>
          cases rr
          refine ⟨_, _, _, rfl, k _ F2 H2 ?_ ?_⟩
          · have b1 := R2.put (v := v1) (s := .val d1) l1 ⟨_, rfl, r1⟩ (fun _ _ _ z => nomatch z)
            have a1 := S2.put R2 (v := v1) (s := .val d1) l1 (fun _ _ _ z => nomatch z)
            have b2 := b1.put (v := v2) (s := .val d2) (by rw [List.length_set]; exact l2) ⟨_, rfl, r2⟩ (fun _ _ _ z => nomatch z)
            have a2 := a1.put b1 (v := v2) (s := .val d2) (by rw [List.length_set]; exact l2) (fun _ _ _ z => nomatch z)
            exact a2.put b2 (by rw [List.length_set, List.length_set]; exact l3) (fun _ _ _ z => nomatch z)
          · have b1 := R2.put (v := v1) (s := .val d1) l1 ⟨_, rfl, r1⟩ (fun _ _ _ z => nomatch z)
            have b2 := b1.put (v := v2) (s := .val d2) (by rw [List.length_set]; exact l2) ⟨_, rfl, r2⟩ (fun _ _ _ z => nomatch z)
            exact b2.put (by rw [List.length_set, List.length_set]; exact l3) ⟨_, rfl, r3⟩ (fun _ _ _ z => nomatch z)
  · cases eq
end
end Wk
set_option Elab.async false
set_option linter.all false
set_option maxRecDepth 100000
set_option maxHeartbeats 4000000
namespace Wk
open PySem PySem.Spec PyProof.Rows L2
section
variable {K : PySem.W.Frag} {w : World} {as : List V} {F H F1 H1 F2 H2 F' H' : Hp} {σ σ1 σ2 σ' : Stt} {ρ ρ1 ρ2 ρ' : Sl} {X : Cx}
/-- isinstance(x, (A, B)) -/
def kit2 (t a b : String) : Option Bool := match kitB t a with
  | none => none
  | some true => some true
  | some false => kitB t b
theorem kit2_ok {t a b : String} {r : Bool} (h : kit2 t a b = some r) : PySem.W.kitAny K (.type t) [.type a, .type b] = some r := by
  unfold kit2 at h
  cases q : kitB t a with
  | none => rw [q] at h; cases h
  | some c =>
    rw [q] at h
    refine kitAny_cons (kit_ty q) (fun e => ?_) (fun e => ?_)
    · subst e
      refine kitAny_cons (kit_ty h) (fun e => ?_) (fun e => e)
      subst e
      rfl
    · subst e
      cases h
      rfl
def kit2D (d : D) (a b : String) : Option Bool := match d with
  | .dict _ => none
  | d => kit2 (tyD d) a b
theorem kit2D_eq {d : D} {a b : String} {r : Bool} (h : kit2D d a b = some r) : kit2 (tyD d) a b = some r ∧ isScr d = false := by
  cases d <;> first | exact ⟨h, rfl⟩ | cases h
def mIsi2 (A B : String) (m : Sl → Option (RV × Sl)) : Sl → Option (RV × Sl) := fun ρ => match m ρ with
  | none => none
  | some (r, ρ1) => match rd ρ1 r with
    | none => none
    | some d => match kit2D d A B with
      | none => none
      | some b => some (.val (.bool b), ρ1)
theorem ev_isi2 {e : Expr} {A B : Str} {As Bs : String} {kk : Nat} {p p2 p3 tpos pos : Pos} {m : Sl → Option (RV × Sl)} (hg : Gl X "isinstance") (hm : X.mg "isinstance" = none) (hgA : Gl X A) (hmA : X.mg A = none) (hvA : bootBuiltins A = some (.type As)) (hgB : Gl X B) (hmB : X.mg B = none) (hvB : bootBuiltins B = some (.type Bs)) (he : EvE X e m)
    (hnA : A ≠ "__name__" := by decide) (hdA : (A == ("__debug__" : Str)) = false := by decide) (hnB : B ≠ "__name__" := by decide) (hdB : (B == ("__debug__" : Str)) = false := by decide)
    (h1 : starEach [e, .Tuple [.Name A p2, .Name B p3] kk tpos] X.env = (false, eval e X.env) :: starEach [.Tuple [.Name A p2, .Name B p3] kk tpos] X.env := by rfl)
    (h2 : starEach [.Tuple [.Name A p2, .Name B p3] kk tpos] X.env = (false, eval (.Tuple [.Name A p2, .Name B p3] kk tpos) X.env) :: starEach [] X.env := by rfl)
    (h3 : starEach [.Name A p2, .Name B p3] X.env = (false, eval (.Name A p2) X.env) :: starEach [.Name B p3] X.env := by rfl) (h4 : starEach [.Name B p3] X.env = (false, eval (.Name B p3) X.env) :: starEach [] X.env := by rfl)
    (hpl : (backTo pos (starEach [.Tuple [.Name A p2, .Name B p3] kk tpos] X.env)).any (·.1) = false := by rfl) : EvE X (.Call (.Name "isinstance" p) [e, .Tuple [.Name A p2, .Name B p3] kk tpos] [] pos) (mIsi2 As Bs m) := by
  refine ⟨(pe_callB call_isiT hg hm (by decide +kernel) (pa_cons he.pe (pa_cons (pe_tup (pa_cons (pe_bltn (v := .ty As) hgA hmA hvA rfl hnA hdA) (pa_cons (pe_bltn (v := .ty Bs) hgB hmB hvB rfl hnB hdB) pa_nil h4) h3)) pa_nil h2) h1) (by decide) (by decide) h1 hpl).imp fun σ H Q ⟨as, F, ρ, r, ρ', R, e, k⟩ => ?_⟩
  unfold mIsi2 at e
  cases q : m ρ with
  | none => rw [q] at e; cases e
  | some p =>
    obtain ⟨r1, ρ1⟩ := p
    rw [q] at e
    dsimp only at e
    cases q1 : rd ρ1 r1 with
    | none => rw [q1] at e; cases e
    | some d =>
      rw [q1] at e
      dsimp only at e
      cases q2 : kit2D d As Bs with
      | none => rw [q2] at e; cases e
      | some b =>
        rw [q2] at e; cases e
        refine ⟨as, F, ρ, r1, _, R, q, fun v F1 H1 S1 R1 y => ⟨by show 2 ≤ sizeLine; decide, fun T hT => ?_⟩⟩
        obtain ⟨f, R2, S2⟩ := R1.tmp hT (.tup [.ty As, .ty Bs])
        have y2 := y.read R1 q1
        have y3 : RdV X.K F1 (upd H1 T (.tup [.ty As, .ty Bs])) v d := by
          rcases y2 with y2 | ⟨a, vs, ds, e1, e2, e3, e4⟩
          · exact .inl y2
          · exact .inr ⟨a, vs, ds, e1, e2, upd_same_of hT _ _ _ e3, e4⟩
        exact ⟨v, T, [.ty As, .ty Bs], .type (tyD d), [.type As, .type Bs], b, rfl, upd_same, .cons (.ty As) (.cons (.ty Bs) .nil), y3.tyx R2.sub (kit2D_eq q2).2, kit2_ok (kit2D_eq q2).1, k _ F1 _ (S1.trans S2) R2 (.bl _)⟩

/-! ### list(range(n)) -/
def mListRange (m : Sl → Option (RV × Sl)) : Sl → Option (RV × Sl) := fun ρ => match m ρ with
  | some (.val (.int n), ρ1) => if 0 ≤ n ∧ n ≤ 4096 then some (.tmp (.lst (rangeD 0 n.toNat)), ρ1) else none
  | _ => none
theorem ev_list_range {a : Expr} {p p2 pos pos2 : Pos} {m : Sl → Option (RV × Sl)} (hu : X.A.units + 65 < cLine) (hc : X.calm = true) (hg : Gl X "list") (hm : X.mg "list" = none) (hg2 : Gl X "range") (hm2 : X.mg "range" = none) (ha : EvE X a m)
    (na : starEach [a] X.env = (false, eval a X.env) :: starEach [] X.env := by rfl)
    (nb : starEach [.Call (.Name "range" p2) [a] [] pos2] X.env = (false, eval (.Call (.Name "range" p2) [a] [] pos2) X.env) :: starEach [] X.env := by rfl) : EvE X (.Call (.Name "list" p) [.Call (.Name "range" p2) [a] [] pos2] [] pos) (mListRange m) := by
  refine ⟨(pe_listRg hc hg hm (prg_1 hg2 hm2 ha.pe na) nb).imp fun σ H Q ⟨as, F, ρ, r, ρ', R, e, k⟩ => ?_⟩
  unfold mListRange at e
  split at e
  · rename_i n ρ1 q
    split at e
    case isFalse => cases e
    rename_i hn
    cases e
    refine ⟨as, F, ρ, _, _, R, q, fun v F1 H1 S1 R1 y => ?_⟩
    have y1 : Rp X.K F1 v (.int n) := y
    cases y1
    refine ⟨n, rfl, RgOk.of_le (Int.le_refl 0) (by omega) (by omega) hn.1, fun p hp => ?_⟩
    have rr : RpAll X.K F1 (rgV 0 n) (rangeD 0 n.toNat) := by
      unfold rgV rangeD
      rw [Int.sub_zero]
      generalize List.range n.toNat = l
      induction l with
      | nil => exact .nil
      | cons x l ih => exact .cons (.int _) ih
    obtain ⟨F2, S2, R2, q2⟩ := (new_lst (w := X.w) hp rr).fin R1
    exact k _ F2 _ (S1.trans S2) R2 (q2.low S1.there)
  · cases e
end
end Wk
set_option Elab.async false
set_option linter.all false
set_option maxRecDepth 100000
set_option maxHeartbeats 4000000
namespace Wk
open PySem PySem.Spec PyProof.Rows L2
/-! ### tables -/
def getX (xs : List (NestedKey × Addr × V)) (k : NestedKey) : Option V := (xs.find? fun x => decide (x.1 = k)).map (·.2.2)
def putX (xs : List (NestedKey × Addr × V)) (k : NestedKey) (a : Addr) (v : V) : List (NestedKey × Addr × V) :=
  if (getX xs k).isSome = true then xs.map (fun x => if x.1 = k then (x.1, x.2.1, v) else x) else xs ++ [(k, a, v)]
def dget (kvs : List (D × D)) (k : NestedKey) : Option D := (kvs.find? fun x => decide (keyD x.1 = some k)).map (·.2)
def dput (kvs : List (D × D)) (kd : D) (k : NestedKey) (v : D) : List (D × D) :=
  if (dget kvs k).isSome = true then kvs.map (fun x => if keyD x.1 = some k then (x.1, v) else x) else kvs ++ [(kd, v)]
theorem getX_cons {x : NestedKey × Addr × V} {xs : List (NestedKey × Addr × V)} {k : NestedKey} : getX (x :: xs) k = if x.1 = k then some x.2.2 else getX xs k := by
  unfold getX
  rw [List.find?_cons]
  by_cases e : x.1 = k
  · rw [decide_eq_true e, if_pos e]; rfl
  · rw [decide_eq_false e, if_neg e]
theorem dget_cons {x : D × D} {xs : List (D × D)} {k : NestedKey} : dget (x :: xs) k = if keyD x.1 = some k then some x.2 else dget xs k := by
  unfold dget
  rw [List.find?_cons]
  by_cases e : keyD x.1 = some k
  · rw [decide_eq_true e, if_pos e]; rfl
  · rw [decide_eq_false e, if_neg e]
theorem atKey_cons {x : NestedKey × Addr × Value} {xs : List (NestedKey × Addr × Value)} {k : NestedKey} : atKey (x :: xs) k = if x.1 = k then some x.2 else atKey xs k := by
  unfold atKey
  rw [List.find?_cons]
  by_cases e : x.1 = k
  · rw [decide_eq_true e, if_pos e]; rfl
  · rw [decide_eq_false e, if_neg e]
theorem KX.get {xs : List (NestedKey × Addr × V)} {us : List (NestedKey × Addr × Value)} (r : KX xs us) (k : NestedKey) : RelO (getX xs k) ((atKey us k).map (·.2)) := by
  induction r with
  | nil => exact True.intro
  | @cons p q ps qs h t ih =>
    obtain ⟨h1, h2, h3⟩ := h
    rw [getX_cons, atKey_cons]
    by_cases e : p.1 = k
    · rw [if_pos e, if_pos (h1.symm.trans e)]; exact h3
    · rw [if_neg e, if_neg (fun z => e (h1.trans z))]; exact ih
theorem KX.put {xs : List (NestedKey × Addr × V)} {us : List (NestedKey × Addr × Value)} (r : KX xs us) (k : NestedKey) {a : Addr} {v : V} {u : Value} (rv : RelV v u) : KX (putX xs k a v) (storedH us k a u) := by
  have e : (getX xs k).isSome = (atKey us k).isSome := by rw [(r.get k).isSome_eq, Option.isSome_map]
  unfold putX storedH
  rw [e]
  by_cases q : (atKey us k).isSome = true
  · rw [if_pos q, if_pos q]
    clear e q
    induction r with
    | nil => exact .nil
    | @cons p q ps qs h t ih =>
      obtain ⟨h1, h2, h3⟩ := h
      rw [List.map_cons, List.map_cons]
      refine .cons ?_ ih
      unfold putAt
      by_cases e : p.1 = k
      · rw [if_pos e, if_pos (h1.symm.trans e)]; exact ⟨h1, h2, rv⟩
      · rw [if_neg e, if_neg (fun z => e (h1.trans z))]; exact ⟨h1, h2, h3⟩
  · rw [if_neg q, if_neg q]
    exact Paired.snoc r ⟨rfl, rfl, rv⟩
theorem putX_len (xs : List (NestedKey × Addr × V)) (k : NestedKey) (a : Addr) (v : V) : (putX xs k a v).length ≤ xs.length + 1 := by
  unfold putX
  split
  · rw [List.length_map]; omega
  · rw [List.length_append]; exact Nat.le_refl _
section
variable {K : PySem.W.Frag} {F H : Hp}
theorem Ents.get {xs : List (NestedKey × Addr × V)} {kvs : List (D × D)} (r : Ents K F xs kvs) (k : NestedKey) : (getX xs k = none ∧ dget kvs k = none) ∨ ∃ v d, getX xs k = some v ∧ dget kvs k = some d ∧ Rp K F v d := by
  induction r with
  | nil => exact .inl ⟨rfl, rfl⟩
  | @cons xs kd vd kvs k' ka vv h1 h2 h3 h4 _ ih =>
    rw [getX_cons, dget_cons]
    by_cases e : k' = k
    · rw [if_pos e, if_pos (by rw [h1, e])]
      exact .inr ⟨_, _, rfl, rfl, h4⟩
    · rw [if_neg e, if_neg (by rw [h1]; exact fun z => e (Option.some.inj z))]
      exact ih
theorem Ents.len {xs : List (NestedKey × Addr × V)} {kvs : List (D × D)} (r : Ents K F xs kvs) : xs.length = kvs.length := by
  induction r with
  | nil => rfl
  | cons _ _ _ _ _ ih => rw [List.length_cons, List.length_cons, ih]
theorem Ents.snoc {xs : List (NestedKey × Addr × V)} {kvs : List (D × D)} (r : Ents K F xs kvs) {kd vd : D} {k : NestedKey} {ka : Addr} {vv : V} (h1 : keyD kd = some k) (h2 : k.depth ≤ 8) (h3 : Rp K F (.ref ka) kd) (h4 : Rp K F vv vd) : Ents K F (xs ++ [(k, ka, vv)]) (kvs ++ [(kd, vd)]) := by
  induction r with
  | nil => exact .cons h1 h2 h3 h4 .nil
  | cons a b c d _ ih => exact .cons a b c d ih
theorem Ents.put {xs : List (NestedKey × Addr × V)} {kvs : List (D × D)} (r : Ents K F xs kvs) {kd vd : D} {k : NestedKey} {ka : Addr} {vv : V} (h1 : keyD kd = some k) (h2 : k.depth ≤ 8) (h3 : Rp K F (.ref ka) kd) (h4 : Rp K F vv vd) : Ents K F (putX xs k ka vv) (dput kvs kd k vd) := by
  have e : (getX xs k).isSome = (dget kvs k).isSome := by
    rcases r.get k with ⟨e1, e2⟩ | ⟨v, d, e1, e2, _⟩ <;> rw [e1, e2] <;> rfl
  unfold putX dput
  rw [e]
  by_cases q : (dget kvs k).isSome = true
  · rw [if_pos q, if_pos q]
    clear e q
    induction r with
    | nil => exact .nil
    | @cons xs kd' vd' kvs k' ka' vv' a1 a2 a3 a4 _ ih =>
      rw [List.map_cons, List.map_cons]
      by_cases e : k' = k
      · rw [if_pos e, if_pos (by rw [a1, e])]
        exact .cons a1 a2 a3 h4 ih
      · rw [if_neg e, if_neg (by rw [a1]; exact fun z => e (Option.some.inj z))]
        exact .cons a1 a2 a3 a4 ih
  · rw [if_neg q, if_neg q]
    exact r.snoc h1 h2 h3 h4
end
section
variable {X : Cx} {pins : List (Addr × Obj)} {σ : Stt} {H : Hp} {s : Shared} {a : Addr} {xs : List (NestedKey × Addr × V)} {kvs : List (D × D)} {A : Around} {E : Value → Shared → Prop}
theorem dct_of (I : Inv X pins σ H s) (e : H a = some (dctO X.w a xs)) (r : Ents X.K H xs kvs) : (a == sysModules) = false ∧ xs.length ≤ sizeLine ∧ ∃ us, KX xs us ∧ s.heap.DictOfH (nestedKind X.prog X.w) a us := by
  obtain ⟨⟨h1, h2, us, h3, h4, o, es, ep, h5, h6, h7, h8⟩, _, _⟩ := (show ObjOk X.prog X.w H s.heap a (dctO X.w a xs) from I.hok a _ e)
  refine ⟨h1, h2, us, h3, o, es, ep, h5, h6, h7, h8, fun x hx => ?_, h4⟩
  have gen : ∀ {xs : List (NestedKey × Addr × V)} {kvs : List (D × D)} {us : List (NestedKey × Addr × Value)}, Ents X.K H xs kvs → KX xs us → ∀ x ∈ us, NestedIs s.heap x.1 (.ref x.2.1) ∧ x.1.depth ≤ 8 := by
    intro xs kvs us r
    induction r generalizing us with
    | nil => intro q x hx; cases q; cases hx
    | cons a1 a2 a3 a4 _ ih =>
      intro q x hx
      cases q with
      | cons h t =>
        rcases List.mem_cons.mp hx with z | z
        · subst z
          obtain ⟨e1, e2, _⟩ := h
          rw [← e1, ← e2]
          exact ⟨nestedOf I _ _ _ _ a3 a1 rfl, a2⟩
        · exact ih t x z
  exact gen r h3 x hx
theorem dct_new {P : Program} {w : World} {h' : Heap} {us : List (NestedKey × Addr × Value)} {H' : Hp} (h1 : (a == sysModules) = false) (h2 : xs.length ≤ sizeLine) (h3 : KX xs us) (dd : h'.DictOfH (nestedKind P w) a us) : ObjOk P w H' h' a (dctO w a xs) := by
  obtain ⟨o, es, ep, h5, h6, h7, h8, _, h9⟩ := dd
  refine ⟨⟨h1, h2, us, h3, h9, o, es, ep, h5, h6, h7, h8⟩, ⟨o, h5⟩, fun g1 g2 p k => ?_⟩
  obtain ⟨p1, p2, us', p3, p4, o', es', ep', p5, p6⟩ := p
  exact ⟨p1, p2, us', p3, p4, o', es', ep', k o' p5, p6⟩
/-- y is the key k of the kind -/
def KeyV (K : PySem.W.Frag) (H : Hp) (y : V) (k : NestedKey) : Prop := ∃ b d, y = .ref b ∧ Rp K H y d ∧ keyD d = some k ∧ k.depth ≤ 8
theorem KeyV.is (I : Inv X pins σ H s) {y : V} {k : NestedKey} {u : Value} (h : KeyV X.K H y k) (r : RelV y u) : ∃ b, y = .ref b ∧ u = .ref b ∧ (nestedKind X.prog X.w).is s.heap k b := by
  obtain ⟨b, d, e, h1, h2, h3⟩ := h
  subst e
  cases (show u = Value.ref b from r)
  exact ⟨b, rfl, rfl, nestedOf I d _ _ k h1 h2 rfl, h3⟩
/-- {} -/
theorem pe_dct {pos : Pos} : PE X (.Dict [] [] pos) (fun _ H Q => ∀ p, H p = none → Q (.ref p) (upd H p (dctO X.w p []))) := ⟨fun pins s σ H Q I h =>
  wpAny_Dict_empty ⟨.ref s.heap.objs.size, _, I.laid (a := s.heap.objs.size) (o := dctO X.w s.heap.objs.size []) (t' := s.toks) (fun _ _ q => Heap.get?_push_of_some _ q) (Nat.le_refl _)
    (dct_new (beq_eq_false_iff_ne.mpr (Ne.symm (Nat.ne_of_lt I.big))) (Nat.zero_le _) .nil (Heap.DictOfH.new s.heap)), rfl, h _ (I.hok.fresh (Nat.le_refl _))⟩⟩
/-- d.name(..) -/
def tDM (w : World) (r : V → List V → Hp → VK → Prop) (to : TE) (t : TA) : TE := fun σ H Q => to σ H fun x H1 => (∃ a xs, x = .ref a ∧ H1 a = some (dctO w a xs)) ∧ t σ H1 fun ys H2 => r x ys H2 Q
theorem pe_dm {o e : Expr} {es : List Expr} {to : TE} {t : TA} {name : Str} {apos cpos : Pos} {id : String} {r : V → List V → Hp → VK → Prop} (slot : Slot "dict" name id) (hty : typeOf (.builtin id) = pure (.type "method_descriptor")) (hm : MtR X id r) (ho : PE X o to) (ha : PA X (e :: es) t)
    (hbase : attributeBase o name X.env (eval o X.env) = eval o X.env := by rfl)
    (hfew : ((backTo cpos (starEach (e :: es) X.env)).all (fun x => !x.1) && (backToKw cpos (keywordEach [] X.env)).all (fun x => x.1.isSome)
      && decide ((e :: es).length + ([] : List Keyword).length + (if ([] : List Keyword).isEmpty then 0 else 1) < 30)) = true := by rfl)
    (hline : (apos.endLine == cpos.line) = true := by rfl) (hs : starEach (e :: es) X.env = (false, eval e X.env) :: starEach es X.env := by rfl) (hplain : (backTo cpos (starEach es X.env)).any (·.1) = false := by rfl) :
    PE X (.Call (.Attribute o name apos) (e :: es) [] cpos) (tDM X.w r to t) := by
  refine ⟨fun pins s σ H Q I h => ?_⟩
  refine wpAny_Call_method_late hbase hfew hline rfl (thn (ho.run pins s σ H _ I h) fun v s1 ⟨x, H1, I1, r1, ty, q1⟩ => ?_)
  obtain ⟨a, xs, ex, ea⟩ := ty
  subst ex
  obtain rfl : v = Value.ref a := r1
  obtain ⟨⟨_, _, _, _, _, ob, _, _, g1, g2, _⟩, _, _⟩ := (show ObjOk X.prog X.w H1 s1.heap a (dctO X.w a xs) from I1.hok a _ ea)
  refine ⟨"dict", id, PySem.F.plainAttrs_dict, slot, hty, ⟨ob, g1, g2.1⟩, fun b q => ?_, ?_⟩
  · cases q
    exact ⟨ob, g1, g2.2.1⟩
  have hA := ha.run cpos pins s1 σ H1 _ I1 q1
  rw [hs] at hA ⊢
  refine Calls.callWith_builtin (by show (false || (backTo cpos (starEach es X.env)).any (·.1)) = false; rw [hplain] <;> rfl) (Calls.evalArgs_plain ?_)
  exact thn hA fun us s2 ⟨ys, H2, I2, r2, q2⟩ => hm pins s2 σ H2 (.ref a) ys (.ref a) us Q I2 rfl r2 q2
def rGet2 (K : PySem.W.Frag) (w : World) : V → List V → Hp → VK → Prop := fun x ys H Q => ∃ a xs kvs y z k, x = .ref a ∧ ys = [y, z] ∧ H a = some (dctO w a xs) ∧ Ents K H xs kvs ∧ KeyV K H y k ∧ Q ((getX xs k).getD z) H
theorem mt_get2 (hu : X.A.units + 65 < cLine) : MtR X "dict.get" (rGet2 X.K X.w) := by
  intro pins s σ H x ys v us Q I rx rs h
  obtain ⟨a, xs, kvs, y, z, k, rfl, rfl, ea, re, kv, q⟩ := h
  obtain rfl : v = Value.ref a := rx
  obtain ⟨u1, u2, rfl, r1, r2⟩ := vals2 rs
  obtain ⟨b, _, rfl, hk⟩ := kv.is I r1
  obtain ⟨hd, _, us, rel, dd⟩ := dct_of I ea re
  refine call_meetsIn PySem.F.slot_dict_get dd.typeIs PySem.F.entry_dict_get (PySem.F.args_dict_get_3 _ _ _) (meetsH_dict_get_default (nestedKind X.prog X.w) a b hd u2) ⟨show X.A.units + 1 + 8 < cLine by omega, k, us, hk, dd, ?_⟩
  exact ⟨_, H, I.tok _, (rel.get k).getD r2, q⟩
/-- d[k] -/
def tDX (K : PySem.W.Frag) (w : World) (td ty : TE) : TE := fun σ H Q => td σ H fun x H1 => ty σ H1 fun y H2 => ∃ a xs kvs k v, x = .ref a ∧ H2 a = some (dctO w a xs) ∧ Ents K H2 xs kvs ∧ KeyV K H2 y k ∧ getX xs k = some v ∧ Q v H2
theorem pe_dx {o i : Expr} {pos : Pos} {td ty : TE} (hu : X.A.units + 65 < cLine) (ho : PE X o td) (hi : PE X i ty) (hs : NoSl i) : PE X (.Subscript o i pos) (tDX X.K X.w td ty) := by
  refine ⟨fun pins s σ H Q I h => ?_⟩
  refine subD_of PySem.F.slot_dict_getitem.lookup hs (thn (ho.run pins s σ H _ I h) fun u s1 ⟨x, H1, I1, rx, q1⟩ => thn (hi.run pins s1 σ H1 _ I1 q1) fun iv s2 ⟨y, H2, I2, ry, a, xs, kvs, k, v, ex, ea, re, kv, g, q⟩ => ?_)
  subst ex
  obtain rfl : u = Value.ref a := rx
  obtain ⟨b, _, rfl, hk⟩ := kv.is I2 ry
  obtain ⟨hd, _, us, rel, dd⟩ := dct_of I2 ea re
  obtain ⟨w', hw, rw'⟩ := RelO.some_of (v := v) (o := (atKey us k).map (·.2)) (by rw [← g]; exact rel.get k)
  obtain ⟨p, hp, hp2⟩ := Option.map_eq_some_iff.mp hw
  refine ⟨dd.typeIs, wpAny_getItem_heap (show X.A.units + 1 + 8 < cLine by omega) hk dd hp ?_⟩
  rw [hp2]
  exact ⟨v, H2, I2.tok _, rw', q⟩
/-- d[k] = v -/
def sDX (K : PySem.W.Frag) (w : World) (td ty tv : TE) : TS := fun Dn σ H => tv σ H fun v H1 => td σ H1 fun x H2 => ty σ H2 fun y H3 => ∃ a xs kvs k b, x = .ref a ∧ H3 a = some (dctO w a xs) ∧ Ents K H3 xs kvs ∧ y = .ref b ∧ KeyV K H3 y k ∧ xs.length < sizeLine ∧ Dn.nx σ (upd H3 a (dctO w a (putX xs k b v)))
theorem ps_dx {o i value : Expr} {pos pos' : Pos} {td ty tv : TE} (hu : X.A.units + 65 < cLine) (ho : PE X o td) (hi : PE X i ty) (hv : PE X value tv) (hs : swapsWith value (some (.Subscript o i pos')) pos.line X.env = pure false) :
    PS X (.Assign [.Subscript o i pos'] value pos) (sDX X.K X.w td ty tv) := by
  refine ⟨fun pins s σ H D I h => ?_⟩
  refine wpAny_Assign_Subscript (thn (hv.run pins s σ H _ I h) fun r s1 ⟨v, H1, I1, rv, q1⟩ => thn (ho.run pins s1 σ H1 _ I1 q1) fun u s2 ⟨x, H2, I2, rx, q2⟩ => thn (hi.run pins s2 σ H2 _ I2 q2) fun iv s3 ⟨y, H3, I3, ry, a, xs, kvs, k, b, ex, ea, re, ey, kv, hl, q⟩ => ?_) hs
  subst ex ey
  obtain rfl : u = Value.ref a := rx
  obtain ⟨b', eb, rfl, hk⟩ := kv.is I3 ry
  cases eb
  obtain ⟨hd, hz, us, rel, dd⟩ := dct_of I3 ea re
  refine wpAny_setItem_heap (hsz := by rw [← Paired.length rel]; exact hz) (show X.A.units + 1 + 8 < cLine by omega) hk dd fun h' dd' sb => ?_
  refine ⟨σ, _, d_write I3 (by rw [ea]; exact True.intro) sb (let ⟨q, _, _, hq, _⟩ := dd'; ⟨q, hq⟩) (dct_new hd ?_ (rel.put k rv) dd'), q⟩
  have := putX_len xs k b v
  omega
end
end Wk
set_option Elab.async false
set_option linter.all false
set_option maxRecDepth 100000
set_option maxHeartbeats 4000000
namespace Wk
open PySem PySem.Spec PyProof.Rows L2
section
variable {K : PySem.W.Frag} {w : World} {as : List V} {F H F1 H1 F2 H2 F' H' : Hp} {σ σ1 σ2 σ' : Stt} {ρ ρ1 ρ2 ρ' : Sl} {X : Cx}
def keyT (d : D) : Option NestedKey := if isTup d = true then (match keyD d with
  | none => none
  | some k => if k.depth ≤ 8 then some k else none) else none
theorem keyT_ok {d : D} {k : NestedKey} (h : keyT d = some k) : isTup d = true ∧ keyD d = some k ∧ k.depth ≤ 8 := by
  unfold keyT at h
  split at h
  · rename_i h1
    split at h
    · cases h
    · rename_i k' e
      split at h
      · cases h; exact ⟨h1, e, by assumption⟩
      · cases h
  · cases h
theorem keyV_of {d : D} {k : NestedKey} {v : V} (h : keyT d = some k) (r : Rp K F v d) (s : Same F H) : KeyV K H v k ∧ ∃ b, v = .ref b := by
  obtain ⟨h1, h2, h3⟩ := keyT_ok h
  cases d with
  | tuple ds =>
    have r' := r.up s
    cases r with
    | tup q1 q2 => exact ⟨⟨_, _, rfl, r', h2, h3⟩, _, rfl⟩
  | _ => cases h1
def mDct : Sl → Option (RV × Sl) := fun ρ => some (.tmp (.dct []), ρ)
theorem ev_dct {pos : Pos} : EvE X (.Dict [] [] pos) mDct := ⟨pe_dct.imp fun σ H Q ⟨as, F, ρ, r, ρ', R, e, k⟩ p hp => by
  cases e
  obtain ⟨F1, S1, R1, q1⟩ := (show NewV X.K X.w F H (upd H p (dctO X.w p [])) (.ref p) (.tmp (.dct [])) from ⟨p, _, rfl, hp, rfl, [], upd_same, .nil⟩).fin R
  exact k _ F1 _ S1 R1 q1⟩
/-- what the slot holds -/
def dctAt (ρ : Sl) (i : Nat) : Option (Option Nat × List (D × D)) := match slot ρ i with
  | .own t (.dct kvs) => some (t, kvs)
  | _ => none
theorem dctAt_ok {i : Nat} {t : Option Nat} {kvs : List (D × D)} (h : dctAt ρ i = some (t, kvs)) : slot ρ i = .own t (.dct kvs) := by
  unfold dctAt at h
  split at h
  · rename_i z; cases h; exact z
  · cases h
def mDGet (i : Nat) (ma : Sl → Option (List RV × Sl)) : Sl → Option (RV × Sl) := fun ρ => match dctAt ρ i with
  | none => none
  | some _ => match mCold ma ρ with
    | some ([kd, dd], ρ1) => (match dctAt ρ1 i with
      | none => none
      | some (_, kvs) => match keyT kd with
        | none => none
        | some k => some (.val ((dget kvs k).getD dd), ρ1))
    | _ => none
theorem ev_dget {i : Nat} {x : Str} {apos cpos npos : Pos} {e e2 : Expr} {ma : Sl → Option (List RV × Sl)} (hu : X.A.units + 65 < cLine) (hx : PE X (.Name x npos) (tVar i)) (ha : EvA X [e, e2] ma)
    (hbase : attributeBase (.Name x npos) "get" X.env (eval (.Name x npos) X.env) = eval (.Name x npos) X.env := by rfl)
    (hfew : ((backTo cpos (starEach [e, e2] X.env)).all (fun x => !x.1) && (backToKw cpos (keywordEach [] X.env)).all (fun x => x.1.isSome)
      && decide (([e, e2] : List Expr).length + ([] : List Keyword).length + (if ([] : List Keyword).isEmpty then 0 else 1) < 30)) = true := by rfl)
    (hline : (apos.endLine == cpos.line) = true := by rfl) (hs : starEach [e, e2] X.env = (false, eval e X.env) :: starEach [e2] X.env := by rfl) (hplain : (backTo cpos (starEach [e2] X.env)).any (·.1) = false := by rfl) :
    EvE X (.Call (.Attribute (.Name x npos) "get" apos) [e, e2] [] cpos) (mDGet i ma) := by
  refine ⟨(pe_dm PySem.F.slot_dict_get PySem.F.type_dict_get (mt_get2 hu) hx ha.pa hbase hfew hline hs hplain).imp fun σ H Q ⟨as, F, ρ, r, ρ', R, eq, k⟩ => ?_⟩
  unfold mDGet at eq
  cases q0 : dctAt ρ i with
  | none => rw [q0] at eq; cases eq
  | some p0 =>
    obtain ⟨t0, kvs0⟩ := p0
    rw [q0] at eq
    dsimp only at eq
    obtain ⟨a, ha0, _, ⟨xs0, hx0, _⟩, _⟩ := R.own_at (dctAt_ok q0)
    split at eq
    · rename_i kd dd ρ1 q
      cases q1 : dctAt ρ1 i with
      | none => rw [q1] at eq; cases eq
      | some p1 =>
        obtain ⟨t1, kvs⟩ := p1
        rw [q1] at eq
        dsimp only at eq
        cases q2 : keyT kd with
        | none => rw [q2] at eq; cases eq
        | some kk =>
          rw [q2] at eq
          cases eq
          refine ⟨.ref a, place_get ha0, ⟨a, xs0, rfl, hx0⟩, cold_args R q fun vs F2 H2 S2 R2 rr => ?_⟩
          cases rr with
          | cons r1 rr => cases rr with
            | cons r2 rr =>
              cases rr
              obtain ⟨a', ha1, _, ⟨xs, hx1, en⟩, _⟩ := R2.own_at (dctAt_ok q1)
              rw [ha0] at ha1; cases ha1
              obtain ⟨kv, _⟩ := keyV_of q2 r1 R2.sub
              refine ⟨a, xs, kvs, _, _, kk, rfl, rfl, hx1, en.mono R2.sub, kv, ?_⟩
              rcases en.get kk with ⟨g1, g2⟩ | ⟨v, d, g1, g2, g3⟩
              · rw [g1]
                exact k _ F2 H2 S2 R2 (show Rp _ _ _ _ by rw [g2]; exact r2)
              · rw [g1]
                exact k _ F2 H2 S2 R2 (show Rp _ _ _ _ by rw [g2]; exact g3)
    · cases eq
def mDX (i : Nat) (mk : Sl → Option (RV × Sl)) : Sl → Option (RV × Sl) := fun ρ => match dctAt ρ i with
  | none => none
  | some _ => match mk ρ with
    | some (.val kd, ρ1) => (match dctAt ρ1 i with
      | none => none
      | some (_, kvs) => match keyT kd with
        | none => none
        | some k => match dget kvs k with
          | none => none
          | some d => some (.val d, ρ1))
    | _ => none
theorem ev_dx {i : Nat} {x : Str} {npos pos : Pos} {e : Expr} {mk : Sl → Option (RV × Sl)} (hu : X.A.units + 65 < cLine) (hx : PE X (.Name x npos) (tVar i)) (hk : EvE X e mk) (hs : NoSl e := by intro _ _; rfl) : EvE X (.Subscript (.Name x npos) e pos) (mDX i mk) := by
  refine ⟨(pe_dx hu hx hk.pe hs).imp fun σ H Q ⟨as, F, ρ, r, ρ', R, eq, k⟩ => ?_⟩
  unfold mDX at eq
  cases q0 : dctAt ρ i with
  | none => rw [q0] at eq; cases eq
  | some p0 =>
    obtain ⟨t0, kvs0⟩ := p0
    rw [q0] at eq
    dsimp only at eq
    obtain ⟨a, ha0, _, ⟨xs0, hx0, _⟩, _⟩ := R.own_at (dctAt_ok q0)
    split at eq
    · rename_i kd ρ1 q
      cases q1 : dctAt ρ1 i with
      | none => rw [q1] at eq; cases eq
      | some p1 =>
        obtain ⟨t1, kvs⟩ := p1
        rw [q1] at eq
        dsimp only at eq
        cases q2 : keyT kd with
        | none => rw [q2] at eq; cases eq
        | some kk =>
          rw [q2] at eq
          dsimp only at eq
          cases q3 : dget kvs kk with
          | none => rw [q3] at eq; cases eq
          | some d =>
            rw [q3] at eq
            cases eq
            refine ⟨.ref a, place_get ha0, as, F, ρ, _, _, R, q, fun u F2 H2 S2 R2 y => ?_⟩
            obtain ⟨a', ha1, _, ⟨xs, hx1, en⟩, _⟩ := R2.own_at (dctAt_ok q1)
            rw [ha0] at ha1; cases ha1
            obtain ⟨kv, _⟩ := keyV_of q2 (show Rp _ _ _ _ from y) R2.sub
            rcases en.get kk with ⟨g1, g2⟩ | ⟨v, d', g1, g2, g3⟩
            · rw [q3] at g2; cases g2
            · rw [q3] at g2
              cases g2
              exact ⟨a, xs, kvs, kk, v, rfl, hx1, en.mono R2.sub, kv, g1, k _ F2 H2 S2 R2 g3⟩
    · cases eq
def mSetKey (i : Nat) (mk mv : Sl → Option (RV × Sl)) : Sl → Option Fl := fun ρ => match mv ρ with
  | none => none
  | some (r, ρ1) => match cold r ρ1 with
    | none => none
    | some (d, ρ2) => match dctAt ρ2 i with
      | none => none
      | some _ => match mk ρ2 with
        | some (.val kd, ρ3) => (match dctAt ρ3 i with
          | none => none
          | some (t, kvs) => match keyT kd with
            | none => none
            | some k => if kvs.length < sizeLine then some (.nx (ρ3.set i (.own t (.dct (dput kvs kd k d))))) else none)
        | _ => none
theorem es_setKey {i : Nat} {x : Str} {ix e : Expr} {npos spos pos : Pos} {mk mv : Sl → Option (RV × Sl)} (hu : X.A.units + 65 < cLine) (hx : PE X (.Name x npos) (tVar i)) (hk : EvE X ix mk) (hv : EvE X e mv)
    (hs : swapsWith e (some (.Subscript (.Name x npos) ix spos)) pos.line X.env = pure false := by rfl) : EvS X (.Assign [.Subscript (.Name x npos) ix spos] e pos) (mSetKey i mk mv) := by
  refine ⟨(ps_dx hu hx hk.pe hv.pe hs).imp fun Dn σ H ⟨as, F, ρ, f, R, eq, k⟩ => ?_⟩
  unfold mSetKey at eq
  cases q : mv ρ with
  | none => rw [q] at eq; cases eq
  | some p =>
    obtain ⟨r, ρ1⟩ := p
    rw [q] at eq
    dsimp only at eq
    cases q1 : Wk.cold r ρ1 with
    | none => rw [q1] at eq; cases eq
    | some p1 =>
      obtain ⟨d, ρ2⟩ := p1
      rw [q1] at eq
      dsimp only at eq
      cases q0 : dctAt ρ2 i with
      | none => rw [q0] at eq; cases eq
      | some p0 =>
        rw [q0] at eq
        dsimp only at eq
        split at eq
        · rename_i kd ρ3 q3
          cases q4 : dctAt ρ3 i with
          | none => rw [q4] at eq; cases eq
          | some p4 =>
            obtain ⟨t, kvs⟩ := p4
            rw [q4] at eq
            dsimp only at eq
            cases q5 : keyT kd with
            | none => rw [q5] at eq; cases eq
            | some kk =>
              rw [q5] at eq
              dsimp only at eq
              by_cases hl : kvs.length < sizeLine
              · rw [if_pos hl] at eq
                cases eq
                refine ⟨as, F, ρ, r, ρ1, R, q, fun v F1 H1 S1 R1 y => ?_⟩
                obtain ⟨F2, R2, S2, y2, _⟩ := y.cold S1 R1 q1
                obtain ⟨a, ha2, _, _, _⟩ := R2.own_at (dctAt_ok (t := p0.1) (kvs := p0.2) q0)
                refine ⟨.ref a, place_get ha2, as, F2, ρ2, _, ρ3, R2, q3, fun u F3 H3 S3 R3 y3 => ?_⟩
                have y3' : Rp X.K F3 u kd := y3
                obtain ⟨a', h3, _, ⟨xs, h4, en⟩, _⟩ := R3.own_at (dctAt_ok q4)
                rw [ha2] at h3; cases h3
                obtain ⟨kv, b, rfl⟩ := keyV_of q5 y3' R3.sub
                obtain ⟨_, c2, c3⟩ := keyT_ok q5
                refine ⟨a, xs, kvs, kk, b, rfl, h4, en.mono R3.sub, rfl, kv, by rw [en.len]; exact hl, ?_⟩
                obtain ⟨R4, S4⟩ := R3.mut (dctAt_ok q4) ha2 (o' := .dct (dput kvs kd kk d)) (u := dctO X.w a (putX xs kk b v)) ⟨_, upd_same, en.put c2 c3 y3' (y2.up S3.mono)⟩
                exact k σ F3 _ (S2.trans (S3.trans S4)) R4
              · rw [if_neg hl] at eq; cases eq
        · cases eq
end
end Wk
set_option Elab.async false
set_option linter.all false
set_option maxRecDepth 100000
set_option maxHeartbeats 4000000
namespace Wk
open PySem PySem.Spec PyProof.Rows L2 PySem.W PySem.SeqAt
/-- the first item of a tuple -/
def hdD : D → D
  | .tuple (x :: _) => x
  | _ => .none
/-- tuples that their firsts tell apart -/
structure HdOk (ds : List D) : Prop where
  sh : ∀ d ∈ ds, ∃ xs r, d = .tuple (.tuple xs :: r)
  self : ∀ d ∈ ds, alike d d = true
  ne : ∀ d ∈ ds, ∀ e ∈ ds, d ≠ e → alike (hdD d) (hdD e) = true ∧ PyData.eqv (hdD d) (hdD e) = false
noncomputable def hdKind (h : Heap) (ds : List D) : PyProof.Rows.KeyKind where
  toKeyOrd := listOrd itemOrd
  keyOf v := open Classical in if q : ∃ d, d ∈ ds ∧ ∃ as, Reads h v d as then some (keyToks (hdD q.choose)) else none
  dflt := ([] : List (Int ⊕ List Nat))
theorem hdKind_some {h : Heap} {ds : List D} {v : Value} {d : D} {as : List Addr} (hd : d ∈ ds) (r : Reads h v d as) : (hdKind h ds).keyOf v = some (keyToks (hdD d)) := by
  have q : ∃ d, d ∈ ds ∧ ∃ as, Reads h v d as := ⟨d, hd, as, r⟩
  obtain ⟨_, as', h2⟩ := q.choose_spec
  show (open Classical in if q : ∃ d, d ∈ ds ∧ ∃ as, Reads h v d as then some (keyToks (hdD q.choose)) else none) = _
  rw [dif_pos q, ((Reads.unique r _ _ h2).1)]
theorem hdKind_inv {h : Heap} {ds : List D} {v : Value} {k : List (Int ⊕ List Nat)} (e : (hdKind h ds).keyOf v = some k) : ∃ d as, d ∈ ds ∧ Reads h v d as ∧ k = keyToks (hdD d) := by
  by_cases q : ∃ d, d ∈ ds ∧ ∃ as, Reads h v d as
  · obtain ⟨d, hd, as, r⟩ := q
    rw [hdKind_some hd r] at e
    exact ⟨d, as, hd, r, (Option.some.inj e).symm⟩
  · replace e : (open Classical in if q : ∃ d, d ∈ ds ∧ ∃ as, Reads h v d as then some (keyToks (hdD q.choose)) else (none : Option (List (Int ⊕ List Nat)))) = some k := e
    rw [dif_neg q] at e
    cases e
theorem sortsHd {P : Program} {w : World} {A : Around} {s : Shared} {vs : List Value} {ds : List D} (e : EachIs (fun v d => ∃ as, Reads s.heap v d as) vs ds) (ok : HdOk ds) (hu : ∀ d, d ∈ ds → A.units + d.depth < cLine) : SortsAt P w A s (hdKind s.heap ds) vs := by
  refine ⟨fun v hv => ?_, tuples' (Value.type "tuple" != Value.type "tuple"), ?_, fun h2 E Q hq => ?_⟩
  · obtain ⟨d, hd, as, r⟩ := e.left v hv
    exact ⟨_, hdKind_some hd r⟩
  · intro E x y a b Q ha hb hq
    obtain ⟨d, as, hd, ra, rfl⟩ := hdKind_inv ha
    obtain ⟨d', as', hd', rb, rfl⟩ := hdKind_inv hb
    have hq' : Q (dataLt (hdD d) (hdD d')) s := hq
    have u1 := hu d hd
    obtain ⟨xs, r1, rfl⟩ := ok.sh d hd
    obtain ⟨ys, r2, rfl⟩ := ok.sh d' hd'
    cases ra with
    | @tuple l o vs1 n _ _ h1 h2 h3 h4 =>
      cases rb with
      | @tuple l' o' vs2 n' _ _ k1 k2 k3 k4 =>
        have n1 : vs1.size = (PyData.tuple xs :: r1).length := by simpa using ReadsAll.length _ _ _ h4
        have n2 : vs2.size = (PyData.tuple ys :: r2).length := by simpa using ReadsAll.length _ _ _ k4
        by_cases ed : PyData.tuple (.tuple xs :: r1) = PyData.tuple (.tuple ys :: r2)
        · have al := ok.self _ hd
          have ed' := ed
          injection ed' with ed'
          injection ed' with e1 e2
          injection e1 with e1
          subst e1 e2
          refine kat_lt h1 h3 k1 k3 (katLex_alike _ _ 0 _ _ _ _ h4 k4 (by simpa [alike] using al) ?_ (fun hb => absurd hb (by decide)) (by rw [n1, n2]) ?_)
          · simp only [PyData.depth] at u1 ⊢
            omega
          · rw [lex_irrefl]
            have e0 : dataLt (hdD (.tuple (.tuple xs :: r1))) (hdD (.tuple (.tuple xs :: r1))) = false := lex_irrefl (O := itemOrd) _
            rw [e0] at hq'
            exact hq'
        · obtain ⟨al, ne⟩ := ok.ne _ hd _ hd' ed
          have q1 := h4
          have q2 := k4
          cases v1 : vs1.toList with
          | nil => rw [v1] at q1; cases q1
          | cons p ps =>
            cases v2 : vs2.toList with
            | nil => rw [v2] at q2; cases q2
            | cons q qs =>
              rw [v1] at q1
              rw [v2] at q2
              cases q1 with
              | cons ra1 _ =>
                cases q2 with
                | cons rb1 _ =>
                  have dd : (PyData.tuple xs).depth ≤ (PyData.tuple (.tuple xs :: r1)).depth := by
                    simp only [PyData.depth, PyData.depthAll]
                    omega
                  have room : A.units + min (PyData.tuple xs).depth (PyData.tuple ys).depth < cLine := Nat.lt_of_le_of_lt (Nat.add_le_add_left (Nat.le_trans (Nat.min_le_left _ _) dd) _) u1
                  refine kat_lt h1 h3 k1 k3 ?_
                  rw [v1, v2]
                  refine kat_cons (eqAt_alike _ _ _ _ _ _ _ _ ra1 rb1 al room _ _ _ _ ?_)
                  rw [show PyData.eqv (.tuple xs) (.tuple ys) = false from ne]
                  exact kat_no (oneLt_alike (fun hb => absurd hb (by decide)) ra1 rb1 al (fun z => nomatch z) room hq')
  · obtain ⟨fs, t1, t2, t3⟩ := each_katTups e fun d hd => by
      obtain ⟨xs, r, rfl⟩ := ok.sh d hd
      exact ⟨_, _, rfl⟩
    refine kat_kind (T := .type "tuple") t1 (by omega) (fun f hf => ?_) (beq_self_eq_true _) hq
    obtain ⟨x, r, as, m1, m2⟩ := t3 f hf
    obtain ⟨xs, r', e'⟩ := ok.sh _ m1
    injection e' with e'
    injection e' with e1 _
    subst e1
    exact looks_reads m2
end Wk
set_option Elab.async false
set_option linter.all false
set_option maxRecDepth 100000
set_option maxHeartbeats 4000000
namespace Wk
open PySem PySem.Spec PyProof.Rows L2 PySem.W PySem.SeqAt PySem.Calls
theorem sorted_any {P : Program} {w : World} {A : Around} {E : Value → Shared → Prop} {s : Shared} {arg : Value} {Q : Value → Shared → Prop}
    (h : wpAny (model P w) A.in1 (collect arg) (fun acc s1 => acc.length ≤ sizeLine ∧ ∃ κ : PyProof.Rows.KeyKind, SortsAt P w A.in1.in1 { s1 with heap := sortingHeap (s1.heap.push (seqObj "list" acc.toArray 0)) s1.heap.objs.size acc } κ acc ∧
      Q (.ref s1.heap.objs.size) { s1 with heap := sortedHeap (s1.heap.push (seqObj "list" acc.toArray 0)) s1.heap.objs.size acc (sortVals κ false acc acc).toArray }) E s) : wpAny (model P w) A (call (.builtin "sorted") [arg]) Q E s := by
  refine call_function_entry_kw kind_sorted plain_sorted entry_sorted (args_sorted1 _) ?_
  unfold Builtin.«sorted»
  refine wpAny_bind (m := checkCount "sorted" 1 1 _) (wpAny_pure ?_)
  refine wpAny_bind (wpAny_mono h (fun acc s1 ⟨hl, κ, S, q⟩ => ?_) fun _ _ e => e)
  refine wpAny_bind (wpAny_newList ?_ hl)
  have ho : (s1.heap.push (seqObj "list" acc.toArray 0)).get? s1.heap.objs.size = some (seqObj "list" acc.toArray 0) := Heap.get?_push_size _ rfl
  refine wpAny_bind (wpAny_holding (wpAny_call_entry_kw slot_list_sort ⟨_, ho, rfl⟩ entry_list_sort ?body (args_list_sort _)))
  case body =>
    refine wpAny_mono (list_sort_vals (P := fun f s' => f = .done (.ret .none) ∧ Q (.ref s1.heap.objs.size) s') (s := { s1 with heap := s1.heap.push (seqObj "list" acc.toArray 0) }) ho S hl ⟨rfl, q⟩) (fun f s' hf => ?_) fun _ _ e => e
    obtain ⟨rfl, hq⟩ := hf
    exact ⟨_, rfl, wpAny_pure ⟨_, rfl, hq⟩⟩
/-- what sorted gives -/
noncomputable def sortD (ds : List D) : Option (List D) := open Classical in
  if HdOk ds ∧ ∀ d ∈ ds, d.depth ≤ 40 then some (ds.mergeSort (dataLe false hdD))
  else if AllAlike ds ∧ Sortable ds ∧ ∀ d ∈ ds, d.depth ≤ 40 then some (ds.mergeSort (dataLe false id))
  else none
section
variable {X : Cx} {pins : List (Addr × Obj)} {σ : Stt} {H F : Hp} {s : Shared}
theorem each_reads (I : Inv X pins σ H s) (sm : Same F H) : ∀ {ds : List D} {vs : List V} {us : List Value}, (∀ d ∈ ds, nd d = true) → RpAll X.K F vs ds → Vals vs us →
    EachIs (fun u d => (∃ v, RelV v u ∧ Rp X.K F v d) ∧ ∃ as, Reads s.heap u d as) us ds
  | [], _, us, _, h, r => by cases h; cases r; exact .nil
  | d :: ds, _, us, hn, h, r => by
    cases h with
    | cons h1 h2 =>
      cases r with
      | cons r1 r2 => exact .cons ⟨⟨_, r1, h1⟩, Dp.reads I d _ _ (Rp.dp d _ (hn d List.mem_cons_self) (h1.up sm)) r1⟩ (each_reads I sm (fun x hx => hn x (List.mem_cons_of_mem _ hx)) h2 r2)
theorem each_back : ∀ {ds : List D} {us : List Value}, EachIs (fun u d => ∃ v, RelV v u ∧ Rp X.K F v d) us ds → ∃ vs, Vals vs us ∧ RpAll X.K F vs ds
  | [], us, h => by cases h; exact ⟨[], .nil, .nil⟩
  | d :: ds, us, h => by
    cases h with
    | cons h1 h2 =>
      obtain ⟨v, r, p⟩ := h1
      obtain ⟨vs, a, b⟩ := each_back h2
      exact ⟨v :: vs, .cons r a, .cons p b⟩
theorem sortD_run (I : Inv X pins σ H s) (sm : Same F H) {ds ds' : List D} {vs : List V} {acc : List Value} (r : RpAll X.K F vs ds) (rv : Vals vs acc) (e : sortD ds = some ds') {A : Around} (hu : A.units + 45 < cLine) (h' : Heap) (keep : ∀ b o, s.heap.get? b = some o → h'.get? b = some o) :
    ∃ κ : PyProof.Rows.KeyKind, SortsAt X.prog X.w A { s with heap := h' } κ acc ∧ ∃ ws, Vals ws (sortVals κ false acc acc) ∧ RpAll X.K F ws ds' := by
  have hn : ∀ d ∈ ds, nd d = true := fun d hd => by
    unfold sortD at e
    split at e
    · rename_i c; exact nd_of_alike d (c.1.self d hd)
    · split at e
      · rename_i c; exact nd_of_alike d (c.1 d hd d hd)
      · cases e
  have er := each_reads I sm hn r rv
  have er1 : EachIs (fun u d => ∃ as, Reads h' u d as) acc ds := er.mono fun _ _ ⟨_, as, q⟩ => ⟨as, PyProof.Rows.Reads.keeps keep q⟩
  have er2 : EachIs (fun u d => ∃ v, RelV v u ∧ Rp X.K F v d) acc ds := er.mono fun _ _ ⟨q, _⟩ => q
  unfold sortD at e
  split at e
  · rename_i c
    cases e
    refine ⟨hdKind h' ds, sortsHd (s := { s with heap := h' }) er1 c.1 fun d hd => by have := c.2 d hd; omega, ?_⟩
    exact each_back (sortVals_each (κ := hdKind h' ds) (rev := false) (fun d => keyToks (hdD d)) er2 ((each_mem er1).mono fun u d ⟨⟨as, q⟩, hd⟩ => hdKind_some hd q))
  · split at e
    · rename_i c
      cases e
      refine ⟨dataKind h' ds, SortsAt.data (s := { s with heap := h' }) er1 c.1 c.2.1 fun d hd => by have := c.2.2 d hd; omega, ?_⟩
      have := sortVals_data (enc := id) (bs := ds) (vs := acc) (h' := h') (R := fun u d => ∃ v, RelV v u ∧ Rp X.K F v d) false er2 er1 (by rw [List.map_id]; exact c.1)
      rw [List.map_id] at this
      exact each_back this
    · cases e
end
end Wk
set_option Elab.async false
set_option linter.all false
set_option maxRecDepth 100000
set_option maxHeartbeats 4000000
namespace Wk
open PySem PySem.Spec PyProof.Rows L2 PySem.W PySem.SeqAt PySem.Calls
section
variable {P : Program} {w : World} {A : Around} {E : Value → Shared → Prop} {s : Shared} {z TI TO i1 i2 T : Addr} {fp1 fp2 : List Addr} {n1 n2 i : Nat} {P1 P2 : Nat → Value → Prop} {St1 St2 : Nat → Heap → Prop} {f : Bool} {oT : Obj}
theorem zipH_item {Q : Value → Shared → Prop} (S : ZipSep2 z TI TO i1 i2 fp1 fp2) (D1 : Draws P w A i1 fp1 n1 P1 St1) (D2 : Draws P w A i2 fp2 n2 P2 St2)
    (hz : IsZipHeld s.heap z TI TO T f) (hT : s.heap.get? T = some oT) (hTI : IsTupOf2 s.heap TI (.ref i1) (.ref i2)) (st1 : St1 i s.heap) (st2 : St2 i s.heap) (hlt1 : i < n1) (hlt2 : i < n2)
    (hQ : ∀ x1 x2 h' tk, P1 i x1 → P2 i x2 → IsZipHeld h' z TI TO T true → St1 (i + 1) h' → St2 (i + 1) h' → IsTupOf2 h' s.heap.objs.size x1 x2 → h'.objs.size = s.heap.objs.size + 1 →
      (∀ c o, c ≠ z → c ≠ i1 → c ≠ i2 → s.heap.get? c = some o → h'.get? c = some o) → Q (.ref s.heap.objs.size) { s with heap := h', toks := tk }) :
    wpAny (model P w) A (Builtin.«zip.__next__» ⟨[.ref z], []⟩) (fun fin s' => ∃ v, fin = .done (.ret v) ∧ Q v s') E s := by
  show wpAny _ _ (field (.ref z) 2 >>= _) _ _ _
  refine wpAny_bind (wpAny_field hz rfl (x := .bool false) rfl ?_)
  show wpAny _ _ (field (.ref z) 3 >>= _) _ _ _
  refine wpAny_bind (wpAny_field hz rfl (x := .ref TI) rfl (wpAny_bind (wpAny_seqItems hTI rfl ?_)))
  show wpAny _ _ (Builtin.SmallTypes.ownedTupleIsFree (.ref z) >>= _) _ _ _
  refine wpAny_bind (wpAny_tupleHeld_zip hz hT fun g1 hz1 sb1 => ?_)
  simp only [Bool.false_eq_true, if_false]
  refine wpAny_bind ?_
  rw [← Array.forIn_toList]
  simp only [List.forIn_cons, List.forIn_nil]
  refine wpAny_bind (wpAny_bind (wpAny_holding ?_))
  show wpAny _ _ (Builtin.SmallTypes.nextOf (.ref i1) >>= _) _ _ _
  refine wpAny_bind (D1.item i { s with heap := g1 } _ _ hlt1 (D1.over st1 sb1 S.zf1) fun x1 g2 tk2 p1 s1 sb2 => wpAny_pure (wpAny_pure ?_))
  refine wpAny_bind (wpAny_bind (wpAny_holding ?_))
  show wpAny _ _ (Builtin.SmallTypes.nextOf (.ref i2) >>= _) _ _ _
  refine wpAny_bind (D2.item i { s with heap := g2, toks := tk2 } _ _ hlt2 (D2.over (D2.over st2 sb1 S.zf2) sb2 S.sep1_2) fun x2 g3 tk3 p2 s2 sb3 => wpAny_pure (wpAny_pure (wpAny_pure ?_)))
  show wpAny _ _ (newTuple [x1, x2] >>= _) _ _ _
  refine wpAny_bind (wpAny_newTuple ?_)
  replace sb2 : Heap.SameBut i1 g1 g2 := sb2
  replace sb3 : Heap.SameBut i2 g2 g3 := sb3
  have hsz : g3.objs.size = s.heap.objs.size := by rw [sb3.1, sb2.1, sb1.1]
  have kp : ∀ c o, c ≠ z → c ≠ i1 → c ≠ i2 → s.heap.get? c = some o → g3.get? c = some o := fun c o c1 c2 c3 e => sb3.extBut _ _ c3 (sb2.extBut _ _ c2 (sb1.extBut _ _ c1 e))
  have hz3 : IsZipHeld g3 z TI TO T true := sb3.extBut _ _ S.zi2 (sb2.extBut _ _ S.zi1 hz1)
  have up : ∀ c o, g3.get? c = some o → (g3.push { cls := .type "tuple", data := .seq #[x1, x2] }).get? c = some o := fun c o e => Heap.get?_push_of_some _ e
  refine wpAny_pure ⟨_, rfl, ?_⟩
  show Q (.ref g3.objs.size) _
  have hp : IsTupOf2 (g3.push { cls := .type "tuple", data := .seq #[x1, x2] }) g3.objs.size x1 x2 := Heap.get?_push_size _ rfl
  have hz4 : (g3.push { cls := .type "tuple", data := .seq #[x1, x2] }).objs.size = g3.objs.size + 1 := Heap.size_push ..
  rw [hsz] at hp hz4 ⊢
  exact hQ x1 x2 _ _ p1 p2 (up _ _ hz3) (D1.frame _ _ _ (D1.over s1 sb3 S.sep2_1) fun b _ o e => up b o e) (D2.frame _ _ _ s2 fun b _ o e => up b o e) hp hz4 fun c o c1 c2 c3 e => up _ _ (kp c o c1 c2 c3 e)
theorem zipH_end {Q : Fin → Shared → Prop} (S : ZipSep2 z TI TO i1 i2 fp1 fp2) (D1 : Draws P w A i1 fp1 n1 P1 St1) (D2 : Draws P w A i2 fp2 n2 P2 St2)
    (hz : IsZipHeld s.heap z TI TO T f) (hT : s.heap.get? T = some oT) (hTI : IsTupOf2 s.heap TI (.ref i1) (.ref i2)) (st1 : St1 i s.heap) (st2 : St2 i s.heap) (le1 : i ≤ n1) (le2 : i ≤ n2) (hend : i = n1 ∨ i = n2)
    (hE : ∀ h' tk e, (∀ c o, c ≠ z → c ≠ i1 → c ≠ i2 → s.heap.get? c = some o → h'.get? c = some o) → (∃ o, h'.get? e = some o ∧ o.cls = .type "StopIteration") → E (.ref e) { s with heap := h', toks := tk }) :
    wpAny (model P w) A (Builtin.«zip.__next__» ⟨[.ref z], []⟩) Q E s := by
  show wpAny _ _ (field (.ref z) 2 >>= _) _ _ _
  refine wpAny_bind (wpAny_field hz rfl (x := .bool false) rfl ?_)
  show wpAny _ _ (field (.ref z) 3 >>= _) _ _ _
  refine wpAny_bind (wpAny_field hz rfl (x := .ref TI) rfl (wpAny_bind (wpAny_seqItems hTI rfl ?_)))
  show wpAny _ _ (Builtin.SmallTypes.ownedTupleIsFree (.ref z) >>= _) _ _ _
  refine wpAny_bind (wpAny_tupleHeld_zip hz hT fun g1 hz1 sb1 => ?_)
  simp only [Bool.false_eq_true, if_false]
  refine wpAny_bind ?_
  rw [← Array.forIn_toList]
  simp only [List.forIn_cons, List.forIn_nil]
  refine wpAny_bind (wpAny_bind (wpAny_holding ?_))
  show wpAny _ _ (Builtin.SmallTypes.nextOf (.ref i1) >>= _) _ _ _
  by_cases q1 : i = n1
  · subst q1
    refine wpAny_bind (D1.done { s with heap := g1 } _ _ (D1.over st1 sb1 S.zf1) fun g2 e sb2 he => ?_)
    exact hE g2 s.toks e (fun c o c1 c2 _ x => sb2 _ _ c2 (sb1.extBut _ _ c1 x)) he
  · refine wpAny_bind (D1.item i { s with heap := g1 } _ _ (by omega) (D1.over st1 sb1 S.zf1) fun x1 g2 tk2 p1 s1 sb2 => wpAny_pure (wpAny_pure ?_))
    refine wpAny_bind (wpAny_bind (wpAny_holding ?_))
    show wpAny _ _ (Builtin.SmallTypes.nextOf (.ref i2) >>= _) _ _ _
    obtain rfl : i = n2 := hend.elim (fun e => absurd e q1) id
    refine wpAny_bind (D2.done { s with heap := g2, toks := tk2 } _ _ (D2.over (D2.over st2 sb1 S.zf2) sb2 S.sep1_2) fun g3 e sb3 he => ?_)
    exact hE g3 tk2 e (fun c o c1 c2 c3 x => sb3 _ _ c3 (sb2.extBut _ _ c2 (sb1.extBut _ _ c1 x))) he
theorem next_zipH_item {Q : Option Value → Shared → Prop} (S : ZipSep2 z TI TO i1 i2 fp1 fp2) (D1 : Draws P w A.in1 i1 fp1 n1 P1 St1) (D2 : Draws P w A.in1 i2 fp2 n2 P2 St2)
    (hz : IsZipHeld s.heap z TI TO T f) (hT : s.heap.get? T = some oT) (hTI : IsTupOf2 s.heap TI (.ref i1) (.ref i2)) (st1 : St1 i s.heap) (st2 : St2 i s.heap) (hlt1 : i < n1) (hlt2 : i < n2)
    (hQ : ∀ x1 x2 h' tk, P1 i x1 → P2 i x2 → IsZipHeld h' z TI TO T true → St1 (i + 1) h' → St2 (i + 1) h' → IsTupOf2 h' s.heap.objs.size x1 x2 → h'.objs.size = s.heap.objs.size + 1 →
      (∀ c o, c ≠ z → c ≠ i1 → c ≠ i2 → s.heap.get? c = some o → h'.get? c = some o) → Q (some (.ref s.heap.objs.size)) { s with heap := h', toks := tk }) :
    wpAny (model P w) A (pyNext (.ref z)) Q E s := by
  have hTy : s.TypeIs (.ref z) "zip" := ⟨_, hz, rfl⟩
  unfold pyNext
  exact wpAny_bind (wpAny_attempt (wpAny_callSpecial?_slot (name := Str.ofString "__next__") hTy PySem.F.slot_zip_next
    (wpAny_call_entry PySem.F.slot_zip_next hTy PySem.F.entry_zip_next
      (zipH_item S D1 D2 hz hT hTI st1 st2 hlt1 hlt2 fun x1 x2 h' tk a1 a2 a3 a4 a5 a6 a7 a8 => wpAny_pure (hQ x1 x2 h' tk a1 a2 a3 a4 a5 a6 a7 a8)) (PySem.F.args_zip_next_1 _))))
theorem next_zipH_end {Q : Option Value → Shared → Prop} (S : ZipSep2 z TI TO i1 i2 fp1 fp2) (D1 : Draws P w A.in1 i1 fp1 n1 P1 St1) (D2 : Draws P w A.in1 i2 fp2 n2 P2 St2)
    (hz : IsZipHeld s.heap z TI TO T f) (hT : s.heap.get? T = some oT) (hTI : IsTupOf2 s.heap TI (.ref i1) (.ref i2)) (st1 : St1 i s.heap) (st2 : St2 i s.heap) (le1 : i ≤ n1) (le2 : i ≤ n2) (hend : i = n1 ∨ i = n2)
    (hQ : ∀ h' tk, (∀ c o, c ≠ z → c ≠ i1 → c ≠ i2 → s.heap.get? c = some o → h'.get? c = some o) → Q none { s with heap := h', toks := tk }) : wpAny (model P w) A (pyNext (.ref z)) Q E s := by
  have hTy : s.TypeIs (.ref z) "zip" := ⟨_, hz, rfl⟩
  unfold pyNext
  refine wpAny_bind (wpAny_attempt (wpAny_callSpecial?_slot (name := Str.ofString "__next__") hTy PySem.F.slot_zip_next
    (wpAny_call_entry PySem.F.slot_zip_next hTy PySem.F.entry_zip_next (zipH_end S D1 D2 hz hT hTI st1 st2 le1 le2 hend fun h' tk e hk ⟨o, ho, hc⟩ => ?_) (PySem.F.args_zip_next_1 _))))
  exact wpAny_bind (wpAny_isInstance (T := "StopIteration") (b := true) ⟨o, ho, hc⟩ isSubtype_stop (wpAny_pure (hQ _ _ hk)))
end
end Wk
set_option Elab.async false
set_option linter.all false
set_option maxRecDepth 100000
set_option maxHeartbeats 4000000
namespace Wk
open PySem PySem.Spec PyProof.Rows L2 PySem.W PySem.SeqAt PySem.Calls
theorem fpAt {X : Cx} {pins : List (Addr × Obj)} {H H' : Hp} {b : Addr} (h : FpOk X pins H b) (n : H' b = none) : FpOk X pins H' b := ⟨n, h.2⟩
/-- how the heaps grow while something is drawn -/
structure Grow (F H F' H' : Hp) : Prop where
  f : Same F F'
  n : ∀ b o, F' b = some o → F b = some o ∨ H b = none
  h : Same H H'
  t : ∀ b, H' b = none → H b = none
  s : Same F' H'
theorem Grow.trans {F H F1 H1 F2 H2 : Hp} (a : Grow F H F1 H1) (b : Grow F1 H1 F2 H2) : Grow F H F2 H2 where
  f := a.f.trans b.f
  n := fun c o q => by
    rcases b.n c o q with z | z
    · exact a.n c o z
    · exact .inr (a.t c z)
  h := a.h.trans b.h
  t := fun c q => a.t c (b.t c q)
  s := b.s
/-- what can be drawn, item by item -/
structure Pull (X : Cx) (pins : List (Addr × Obj)) (σ : Stt) (A : Around) (F : Hp) (it : Addr) (fp av : List Addr) (ds : List D) (tn : Nat → Heap → Prop) : Prop where
  live : ∀ i h, tn i h → ∀ b ∈ fp, b < h.objs.size
  keep : ∀ i S acc c h h', tn i h → S ∉ fp → S ∉ av → h.get? S = some { cls := .type "list", data := .seq acc c } → (∀ b o, b ≠ S → h.get? b = some o → h'.get? b = some o) → tn i h'
  item : ∀ i d s H Fc E, Inv X pins σ H s → (∀ b ∈ fp, FpOk X pins H b) → tn i s.heap → Same F Fc → Same Fc H → ds[i]? = some d →
    wpAny (model X.prog X.w) A (pyNext (.ref it)) (fun r s1 => ∃ u x H' Fc', r = some u ∧ Inv X pins σ H' s1 ∧ RelV x u ∧ Grow Fc H Fc' H' ∧ Rp X.K Fc' x d ∧ tn (i + 1) s1.heap ∧
      (∀ b, b < s.heap.objs.size → H b = none → H' b = none) ∧ (∀ b o, b ∉ fp → s.heap.get? b = some o → s1.heap.get? b = some o)) E s
  done : ∀ s H Fc E, Inv X pins σ H s → (∀ b ∈ fp, FpOk X pins H b) → tn ds.length s.heap → Same F Fc → Same Fc H →
    wpAny (model X.prog X.w) A (pyNext (.ref it)) (fun r s1 => r = none ∧ Inv X pins σ H s1 ∧ (∀ b o, b ∉ fp → s.heap.get? b = some o → s1.heap.get? b = some o)) E s
section
variable {X : Cx} {pins : List (Addr × Obj)} {σ : Stt} {A : Around} {F : Hp} {it : Addr} {fp av : List Addr} {ds : List D} {tn : Nat → Heap → Prop}
theorem pull_loop (W : Pull X pins σ A.in1 F it fp av ds tn) (hn : ds.length ≤ sizeLine) {S : Addr} (hS : S ∉ fp) (hv : S ∉ av) (res : Value) {R : Result → Shared → Prop} {H0 : Hp} :
    ∀ (k i : Nat) (s : Shared) (H Fc : Hp) (acc : Array Value) (c : Nat) (vs : List V), ds.length - i = k → i ≤ ds.length → Inv X pins σ H s → (∀ b ∈ fp, FpOk X pins H b) → FpOk X pins H S → tn i s.heap → Grow F H0 Fc H →
      s.heap.get? S = some { cls := .type "list", data := .seq acc c } → Vals vs acc.toList → RpAll X.K Fc vs (ds.take i) →
      (∀ s' H' Fc' acc' c' vs', Inv X pins σ H' s' → Grow F H0 Fc' H' → s'.heap.get? S = some { cls := .type "list", data := .seq acc' c' } → Vals vs' acc'.toList → RpAll X.K Fc' vs' ds → R (.ok (.ret res)) s') →
      codeAny (model X.prog X.w) A (.builtin "list.extend.loop" ⟨[.ref S, .ref it, res], []⟩) R s := by
  intro k
  induction k with
  | zero =>
    intro i s H Fc acc c vs hk hi I hf fS st g hl rv rp fin
    obtain rfl : i = ds.length := by omega
    refine codeAny_builtin PySem.F.entry_extend_loop ?_
    rw [Around.under_plainId PySem.F.plain_extend_loop _]
    show wpAny _ A.in1 (pyNext (.ref it) >>= _) _ _ s
    refine wpAny_bind (wpAny_mono (W.done s H Fc _ I hf st g.f g.s) (fun r s1 ⟨e, I1, kp⟩ => ?_) fun _ _ z => z)
    subst e
    rw [List.take_length] at rp
    exact wpAny_pure (fin s1 H Fc acc c vs I1 g (kp S _ hS hl) rv rp)
  | succ k ih =>
    intro i s H Fc acc c vs hk hi I hf fS st g hl rv rp fin
    have lt : i < ds.length := by omega
    have ed : ds[i]? = some ds[i] := List.getElem?_eq_getElem lt
    refine codeAny_builtin PySem.F.entry_extend_loop ?_
    rw [Around.under_plainId PySem.F.plain_extend_loop _]
    show wpAny _ A.in1 (pyNext (.ref it) >>= _) _ _ s
    refine wpAny_bind (wpAny_mono (W.item i ds[i] s H Fc _ I hf st g.f g.s ed) (fun r s1 ⟨u, x, H', Fc', e, I1, rx, g1, rd, st1, hno, kp⟩ => ?_) fun _ _ z => z)
    subst e
    have hl1 := kp S _ hS hl
    have ltS : S < s.heap.objs.size := Heap.lt_size hl
    have ltf : ∀ b ∈ fp, H' b = none := fun b hb => hno b (W.live _ _ st b hb) (hf b hb).1
    have len : acc.size = i := by
      have e1 := rv.length
      have e2 : acc.toList.length = acc.size := Array.length_toList
      rw [rp.length, List.length_take] at e1
      omega
    show wpAny _ A.in1 (updateSeq S (·.push u) >>= _) _ _ _
    refine wpAny_bind (wpAny_updateSeq hl1 rfl (wpAny_pure ⟨plainId_quiet PySem.F.plain_extend_loop _, ?_⟩) (by rw [len]; omega) (by show (acc.push u).size ≤ sizeLine + 1; rw [Array.size_push, len]; omega))
    have oth : ∀ b o, b ≠ S → s1.heap.get? b = some o → (s1.heap.update S (Obj.mapSeq (·.push u))).get? b = some o := fun b o hb e => (Heap.get?_update_other _ _ (Ne.symm hb)).trans e
    have fS1 : FpOk X pins H' S := fpAt fS (hno S ltS fS.1)
    refine ih (i + 1) _ H' Fc' (acc.push u) _ (vs ++ [x]) (by omega) lt (I1.turned (it := S) (t' := s1.toks) oth fS1.1 fS1.2.1 fS1.2.2.2.1 fS1.2.2.2.2.1 fS1.2.2.2.2.2) (fun b hb => fpAt (hf b hb) (ltf b hb)) fS1 (W.keep _ S _ _ _ _ st1 hS hv hl1 oth) (g.trans g1) (Heap.get?_update_self _ hl1 rfl) ?_ ?_ fin
    · rw [Array.toList_push]
      exact rv.append (.cons rx .nil)
    · rw [List.take_add_one, ed]
      exact (rp.up g1.f).append (.cons rd .nil)
theorem collect_pull {T : String} {s : Shared} {H : Hp} {E : Value → Shared → Prop} {Q : List Value → Shared → Prop} (hl : typeLookup (.type T) "__len__" = pure none) (hn0 : typeLookup (.type T) "__length_hint__" = pure none)
    (h2 : (Value.type T == Value.type "list") = false) (h3 : (Value.type T == Value.type "tuple") = false) (W : Pull X pins σ A.in1 F it fp av ds tn) (hit : it ∈ fp) (hav : ∀ b ∈ av, b < s.heap.objs.size) (hT : ∀ (i : Nat) (s : Shared), tn i s.heap → s.TypeIs (.ref it) T)
    (self : ∀ (A : Around) (s : Shared) (E : Value → Shared → Prop) (Q : Value → Shared → Prop), tn 0 s.heap → Q (.ref it) s → wpAny (model X.prog X.w) A (pyIter (.ref it)) Q E s) (up : ∀ h h', tn 0 h → (∀ b o, h.get? b = some o → h'.get? b = some o) → tn 0 h')
    (I : Inv X pins σ H s) (hf : ∀ b ∈ fp, FpOk X pins H b) (st : tn 0 s.heap) (sm : Same F H) (hn : ds.length ≤ sizeLine)
    (fin : ∀ s' H' Fc' acc vs, Inv X pins σ H' s' → Grow F H Fc' H' → Vals vs acc → RpAll X.K Fc' vs ds → Q acc s') : wpAny (model X.prog X.w) A (collect (.ref it)) Q E s := by
  have hSf : s.heap.objs.size ∉ fp := fun hm => Nat.lt_irrefl _ (W.live _ _ st _ hm)
  have hv : s.heap.objs.size ∉ av := fun hm => Nat.lt_irrefl _ (hav _ hm)
  have hSI : s.heap.objs.size ≠ it := fun e => hSf (e ▸ hit)
  unfold collect
  refine wpAny_bind (wpAny_runValue (codeAny_builtin PySem.F.entry_proto_collect ?_))
  rw [Around.under_plainId PySem.F.plain_proto_collect _]
  show wpAny _ A.in1 (newList [] >>= fun l => again (.builtin "list.__iadd__" ⟨[l, .ref it], []⟩)) _ _ s
  refine wpAny_bind (wpAny_newObj_type ?_)
  refine wpAny_pure ⟨plainId_quiet PySem.F.plain_list_iadd _, codeAny_builtin PySem.F.entry_list_iadd ?_⟩
  rw [Around.under_plainId PySem.F.plain_list_iadd _]
  have st1 : tn 0 (s.heap.push { cls := .type "list", data := .seq ([] : List Value).toArray }) := up _ _ st fun b o e => Heap.get?_push_of_some _ e
  have I1 : Inv X pins σ H { s with heap := s.heap.push { cls := .type "list", data := .seq ([] : List Value).toArray } } := I.kept (t' := s.toks) fun b o e => Heap.get?_push_of_some _ e
  have fS : FpOk X pins H s.heap.objs.size := I.fpOk (Nat.le_refl _) (I.hok.fresh (Nat.le_refl _))
  show wpAny _ A.in1 (Builtin.List.listExtendWith (.ref s.heap.objs.size) (.ref it) (.ref s.heap.objs.size)) _ _ _
  unfold Builtin.List.listExtendWith
  refine wpAny_bind (wpAny_typeOf (hT 0 { s with heap := s.heap.push { cls := .type "list", data := .seq ([] : List Value).toArray } } st1) ?_)
  have h1 : Builtin.List.listSameRef (.ref s.heap.objs.size) (.ref it) = false := by simp [Builtin.List.listSameRef, hSI]
  simp only [h1, h2, h3, Bool.or_false, Bool.false_eq_true, if_false]
  refine wpAny_bind (self _ _ _ _ st1 ?_)
  refine wpAny_bind (wpAny_holding ?_)
  unfold Builtin.List.listLengthHint
  refine wpAny_bind (wpAny_specialOf (hT 0 { s with heap := s.heap.push { cls := .type "list", data := .seq ([] : List Value).toArray } } st1) hl ?_)
  show wpAny _ A.in1 (specialOf (Value.ref it) (Str.ofString "__length_hint__") >>= _) _ _ _
  refine wpAny_bind (wpAny_specialOf (hT 0 { s with heap := s.heap.push { cls := .type "list", data := .seq ([] : List Value).toArray } } st1) hn0 ?_)
  refine wpAny_pure ?_
  show wpAny _ A.in1 (rule "list.extend.makes-room" >>= fun _ => Builtin.List.listTouch (.ref s.heap.objs.size) >>= fun _ =>
    again (.builtin "list.extend.loop" ⟨[.ref s.heap.objs.size, .ref it, .ref s.heap.objs.size], []⟩)) _ _ _
  refine wpAny_bind (wpAny_rule (wpAny_bind ?_))
  have a1 : (s.heap.push { cls := .type "list", data := .seq ([] : List Value).toArray }).get? s.heap.objs.size = some { cls := .type "list", data := .seq ([] : List Value).toArray } := Heap.get?_push_size _ rfl
  show wpAny _ A.in1 (updateSeq s.heap.objs.size (·.push .none) >>= fun _ => updateSeq s.heap.objs.size (·.pop)) _ _ _
  have a2 := Heap.get?_update_self (Obj.mapSeq (·.push Value.none)) a1 rfl
  have a3 := Heap.get?_update_self (Obj.mapSeq (·.pop)) a2 rfl
  refine wpAny_bind (wpAny_updateSeq a1 rfl (wpAny_updateSeq a2 rfl ?_))
  have oth : ∀ b o, b ≠ s.heap.objs.size → (s.heap.push { cls := .type "list", data := .seq ([] : List Value).toArray }).get? b = some o →
      (((s.heap.push { cls := .type "list", data := .seq ([] : List Value).toArray }).update s.heap.objs.size (Obj.mapSeq (·.push Value.none))).update s.heap.objs.size (Obj.mapSeq (·.pop))).get? b = some o :=
    fun b o hb e => (Heap.get?_update_other _ _ (Ne.symm hb)).trans ((Heap.get?_update_other _ _ (Ne.symm hb)).trans e)
  have I2 := I1.turned (it := s.heap.objs.size) (t' := s.toks) oth fS.1 fS.2.1 fS.2.2.2.1 fS.2.2.2.2.1 fS.2.2.2.2.2
  refine wpAny_pure ⟨plainId_quiet PySem.F.plain_extend_loop _, pull_loop (H0 := H) W hn hSf hv _ ds.length 0 _ H F #[] _ [] (by omega) (Nat.zero_le _)
    I2 hf fS (W.keep 0 _ _ _ _ _ st1 hSf hv a1 oth) ⟨Same.refl _, fun _ _ z => .inl z, Same.refl _, fun _ z => z, sm⟩ a3 .nil .nil fun s' H' Fc' acc' c' vs' I' g hS' rv rp => ?_⟩
  show wpAny _ A (load s.heap.objs.size >>= _) _ _ s'
  exact wpAny_bind (wpAny_load hS' (wpAny_pure (fin s' H' Fc' acc'.toList vs' I' g rv rp)))
end
end Wk
set_option Elab.async false
set_option linter.all false
set_option maxRecDepth 100000
set_option maxHeartbeats 4000000
namespace Wk
open PySem PySem.Spec PyProof.Rows L2 PySem.W PySem.SeqAt PySem.Calls
/-- a sequence that iterators are made of -/
structure Src (P : Program) (w : World) (a : Addr) (its : Array Value) (o : Obj) (Hh : Heap → Prop) (St : Addr → Nat → Heap → Prop) : Prop where
  beg : Begins (.ref a) o Hh
  dr : ∀ (A : Around) (it : Addr), A.handled = none → a ≠ it → Draws P w A it [it, a] its.size (fun i v => its[i]? = some v) (St it)
  st0 : ∀ it h, h.get? it = some o → Hh h → St it 0 h
theorem src_list {P : Program} {w : World} (a : Addr) (its : Array Value) : Src P w a its { cls := .type "list_iterator", data := .fields #[.ref a, .int 0 0] } (fun h => h.IsList a its) (fun it i h => h.IsListIter it a i ∧ h.IsList a its) where
  beg := begins_list a its
  dr := fun A it hh ne => Draws.list hh it a ne its
  st0 := fun it h e x => ⟨⟨_, e, rfl, rfl⟩, x⟩
theorem src_tuple {P : Program} {w : World} (a : Addr) (its : Array Value) : Src P w a its { cls := .type "tuple_iterator", data := .fields #[.ref a, .int 0 0] } (fun h => h.IsTuple a its) (fun it i h => h.IsTupleIter it a i ∧ h.IsTuple a its) where
  beg := begins_tuple a its
  dr := fun A it hh ne => Draws.tuple hh it a ne its
  st0 := fun it h e x => ⟨⟨_, e, rfl, rfl⟩, x⟩
def seqD : D → Option (List D)
  | .list ds => some ds
  | .tuple ds => some ds
  | _ => none
section
variable {X : Cx} {pins : List (Addr × Obj)} {σ : Stt} {F H : Hp} {s : Shared}
theorem src_of (I : Inv X pins σ H s) (sm : Same F H) {d : D} {ds : List D} {v : V} {u : Value} (r : Rp X.K F v d) (rv : RelV v u) (e : seqD d = some ds) :
    ∃ a its xs o Hh St, u = .ref a ∧ a < s.heap.objs.size ∧ Src X.prog X.w a its o Hh St ∧ Hh s.heap ∧ Vals xs its.toList ∧ RpAll X.K F xs ds ∧ ds.length ≤ sizeLine := by
  cases d with
  | list ds' =>
    cases e
    cases r with
    | @lst a xs _ h1 h2 =>
      cases (show u = Value.ref a from rv)
      obtain ⟨its, r, p, hz⟩ := I.list (SqL.of (sm _ _ h1))
      exact ⟨a, its.toArray, xs, _, _, _, rfl, p.lt, src_list a its.toArray, p.isList, by simpa using r, h2, by rw [← h2.length]; exact hz⟩
  | tuple ds' =>
    cases e
    cases r with
    | @tup a xs _ h1 h2 =>
      cases (show u = Value.ref a from rv)
      obtain ⟨its, r, p, hz⟩ := I.tuple (Same.sqt sm h1)
      obtain ⟨ob, ho, _⟩ := id p
      exact ⟨a, its.toArray, xs, _, _, _, rfl, Heap.lt_size ho, src_tuple a its.toArray, p, by simpa using r, h2, by rw [← h2.length]; exact hz⟩
  | _ => cases e
/-- the state of a zip of two -/
def ZT (z TI TO i1 i2 : Addr) (St1 St2 : Nat → Heap → Prop) (i : Nat) (h : Heap) : Prop :=
  IsTupOf2 h TI (.ref i1) (.ref i2) ∧ St1 i h ∧ St2 i h ∧ (∃ oO, h.get? TO = some oO ∧ oO.cls = .type "tuple") ∧
    ((i = 0 ∧ IsZip h z TI TO .none ∧ IsTupOf2 h TO .none .none) ∨ (0 < i ∧ ∃ T f oT, IsZipHeld h z TI TO T f ∧ h.get? T = some oT ∧ oT.cls = .type "tuple" ∧ T ∉ [z, TO, i1, i2]))
theorem pull_zip {A : Around} (hh : A.handled = none) {z TI TO i1 i2 a b : Addr} {its1 its2 : Array Value} {xs1 xs2 : List V} {ds1 ds2 : List D} {St1 St2 : Nat → Heap → Prop} (S : ZipSep2 z TI TO i1 i2 [i1, a] [i2, b])
    (D1 : Draws X.prog X.w A.in1 i1 [i1, a] its1.size (fun i v => its1[i]? = some v) St1) (D2 : Draws X.prog X.w A.in1 i2 [i2, b] its2.size (fun i v => its2[i]? = some v) St2)
    (r1 : Vals xs1 its1.toList) (p1 : RpAll X.K F xs1 ds1) (r2 : Vals xs2 its2.toList) (p2 : RpAll X.K F xs2 ds2) :
    Pull X pins σ A F z [z, TI, TO, i1, i2] [a, b] (zipD ds1 ds2) (ZT z TI TO i1 i2 St1 St2) := by
  have l1 : its1.size = ds1.length := by rw [← p1.length, r1.length, Array.length_toList]
  have l2 : its2.size = ds2.length := by rw [← p2.length, r2.length, Array.length_toList]
  have sub : ∀ c, c ∉ [z, TI, TO, i1, i2] → c ≠ z ∧ c ≠ TI ∧ c ≠ TO ∧ c ≠ i1 ∧ c ≠ i2 := fun c hc => by simpa using hc
  refine ⟨fun i h st b hb => ?_, fun i S' acc c h h' st nS nv hl k => ?_, fun i d s H Fc E I hf st sm1 sm2 ed => ?_, fun s H Fc E I hf st sm1 sm2 => ?_⟩
  · obtain ⟨hTI, s1, s2, ⟨oO, hO, _⟩, hz⟩ := st
    have hzz : ∃ o, h.get? z = some o := by
      rcases hz with ⟨_, q, _⟩ | ⟨_, T, f, oT, q, _⟩ <;> exact ⟨_, q⟩
    have e : b = z ∨ b = TI ∨ b = TO ∨ b = i1 ∨ b = i2 := by simpa using hb
    rcases e with e | e | e | e | e
    · rw [e]; obtain ⟨_, q⟩ := hzz; exact Heap.lt_size q
    · rw [e]; exact Heap.lt_size hTI
    · rw [e]; exact Heap.lt_size hO
    · rw [e]; obtain ⟨_, q⟩ := D1.live _ _ s1; exact Heap.lt_size q
    · rw [e]; obtain ⟨_, q⟩ := D2.live _ _ s2; exact Heap.lt_size q
  · obtain ⟨q1, q2, q3, q4, q5⟩ := sub S' nS
    have q6 : S' ≠ a ∧ S' ≠ b := by simpa using nv
    obtain ⟨hTI, s1, s2, ⟨oO, hO, cO⟩, hz⟩ := st
    refine ⟨k _ _ q2.symm hTI, D1.frame _ _ _ s1 fun c hc o e => k c o ?_ e, D2.frame _ _ _ s2 fun c hc o e => k c o ?_ e, ⟨oO, k _ _ q3.symm hO, cO⟩, ?_⟩
    · have e : c = i1 ∨ c = a := by simpa using hc
      rcases e with e | e
      · rw [e]; exact q4.symm
      · rw [e]; exact q6.1.symm
    · have e : c = i2 ∨ c = b := by simpa using hc
      rcases e with e | e
      · rw [e]; exact q5.symm
      · rw [e]; exact q6.2.symm
    · rcases hz with ⟨e, g1, g2⟩ | ⟨e, T, f, oT, g1, g2, g3, g4⟩
      · exact .inl ⟨e, k _ _ q1.symm g1, k _ _ q3.symm g2⟩
      · refine .inr ⟨e, T, f, oT, k _ _ q1.symm g1, k _ _ (fun z => ?_) g2, g3, g4⟩
        rw [z, hl] at g2
        cases g2
        exact absurd (Value.type.inj g3) (by decide)
  · obtain ⟨hTI, s1, s2, ⟨oO, hO, cO⟩, hz⟩ := st
    obtain ⟨d1, d2, e1, e2, rfl⟩ := zipD_at ed
    have lt1 : i < its1.size := by rw [l1]; exact (List.getElem?_eq_some_iff.mp e1).1
    have lt2 : i < its2.size := by rw [l2]; exact (List.getElem?_eq_some_iff.mp e2).1
    obtain ⟨v1, g1, rp1⟩ := p1.get e1
    obtain ⟨v2, g2, rp2⟩ := p2.get e2
    have both : ∀ (x1 x2 : Value) (h' : Heap) (tk : Nat), its1[i]? = some x1 → its2[i]? = some x2 → IsTupOf2 h' s.heap.objs.size x1 x2 → (∀ c o, c ∉ [z, TI, TO, i1, i2] → s.heap.get? c = some o → h'.get? c = some o) → ZT z TI TO i1 i2 St1 St2 (i + 1) h' →
        ∃ u x H' Fc', some (Value.ref s.heap.objs.size) = some u ∧ Inv X pins σ H' { s with heap := h', toks := tk } ∧ RelV x u ∧ Grow Fc H Fc' H' ∧ Rp X.K Fc' x (.tuple [d1, d2]) ∧ ZT z TI TO i1 i2 St1 St2 (i + 1) h' ∧
          (∀ b, b < s.heap.objs.size → H b = none → H' b = none) ∧ (∀ b o, b ∉ [z, TI, TO, i1, i2] → s.heap.get? b = some o → h'.get? b = some o) := fun x1 x2 h' tk y1 y2 hT kp st' => by
      obtain ⟨u1, w1, rel1⟩ := r1.get g1
      obtain ⟨u2, w2, rel2⟩ := r2.get g2
      rw [Array.getElem?_toList, y1] at w1
      rw [Array.getElem?_toList, y2] at w2
      cases w1
      cases w2
      have hn := I.hok.fresh (Nat.le_refl s.heap.objs.size)
      have new : ObjOk X.prog X.w (upd H s.heap.objs.size (.tup [v1, v2])) h' s.heap.objs.size (.tup [v1, v2]) := ⟨by show 2 ≤ sizeLine; decide, [x1, x2], .cons rel1 (.cons rel2 .nil), ⟨_, hT, rfl, _, rfl⟩⟩
      have I1 := I.turnedNew (t' := tk) kp hf (Nat.le_refl _) new
      have fT : Fc s.heap.objs.size = none := sm2.free hn
      have m : Same Fc (upd Fc s.heap.objs.size (.tup [v1, v2])) := upd_same_of fT _
      refine ⟨_, .ref s.heap.objs.size, _, upd Fc s.heap.objs.size (.tup [v1, v2]), rfl, I1, rfl, ⟨m, fun c o q => ?_, upd_same_of hn _, fun _ => upd_none, fun c o q => ?_⟩, .tup (SqT.of upd_same) (.cons (rp1.up (sm1.trans m)) (.cons (rp2.up (sm1.trans m)) .nil)), st', fun c hc e => by rw [upd_ne (Nat.ne_of_lt hc)]; exact e, kp⟩
      · by_cases e : c = s.heap.objs.size
        · rw [e]; exact .inr hn
        · rw [upd_ne e] at q; exact .inl q
      · by_cases e : c = s.heap.objs.size
        · rw [e, upd_same] at q; rw [e, upd_same]; exact q
        · rw [upd_ne e] at q ⊢; exact sm2 c o q
    have big : ∀ {c o}, s.heap.get? c = some o → s.heap.objs.size ≠ c := fun e => Nat.ne_of_gt (Heap.lt_size e)
    have b1 : s.heap.objs.size ≠ i1 := by obtain ⟨_, e⟩ := D1.live _ _ s1; exact big e
    have b2 : s.heap.objs.size ≠ i2 := by obtain ⟨_, e⟩ := D2.live _ _ s2; exact big e
    rcases hz with ⟨e0, hz, hTO⟩ | ⟨e0, T, f, oT, hz, hT, cT, nT⟩
    · subst e0
      refine wpAny_pyNext_zipD2_item S D1 D2 hz hTI hTO s1 s2 lt1 lt2 fun x1 x2 h' tk y1 y2 hz' hTO' s1' s2' hT' hsz kp => ?_
      refine both x1 x2 h' tk y1 y2 hT' (fun c o hc => let ⟨q1, q2, q3, q4, q5⟩ := sub c hc; kp c o q1 q3 q4 q5) ⟨kp _ _ S.TIz S.TITO S.TIi1 S.TIi2 hTI, s1', s2', ⟨_, hTO', rfl⟩, .inr ⟨Nat.succ_pos _, s.heap.objs.size, false, _, hz', hT', rfl, ?_⟩⟩
      simp only [List.mem_cons, List.not_mem_nil, or_false, not_or]
      exact ⟨big hz, big hO, b1, b2⟩
    · have hTy : T ∉ [z, TO, i1, i2] := nT
      have nt : T ≠ z ∧ T ≠ TO ∧ T ≠ i1 ∧ T ≠ i2 := by simpa using nT
      refine next_zipH_item S D1 D2 hz hT hTI s1 s2 lt1 lt2 fun x1 x2 h' tk y1 y2 hz' s1' s2' hT' hsz kp => ?_
      exact both x1 x2 h' tk y1 y2 hT' (fun c o hc => let ⟨q1, q2, q3, q4, q5⟩ := sub c hc; kp c o q1 q4 q5) ⟨kp _ _ S.TIz S.TIi1 S.TIi2 hTI, s1', s2', ⟨oO, kp _ _ S.TOz S.Ti1 S.Ti2 hO, cO⟩, .inr ⟨Nat.succ_pos _, T, true, oT, hz', kp _ _ nt.1 nt.2.2.1 nt.2.2.2 hT, cT, nT⟩⟩
  · obtain ⟨hTI, s1, s2, ⟨oO, hO, cO⟩, hz⟩ := st
    rw [zipD_len] at s1 s2 hz
    have le1 : min ds1.length ds2.length ≤ its1.size := by rw [l1]; omega
    have le2 : min ds1.length ds2.length ≤ its2.size := by rw [l2]; omega
    have he : min ds1.length ds2.length = its1.size ∨ min ds1.length ds2.length = its2.size := by rw [l1, l2]; omega
    rcases hz with ⟨e0, hz, hTO⟩ | ⟨e0, T, f, oT, hz, hT, cT, nT⟩
    · refine wpAny_pyNext_zipD2_end S D1 D2 hz hTI hTO s1 s2 le1 le2 he fun h' tk kp => ?_
      have kp' : ∀ c o, c ∉ [z, TI, TO, i1, i2] → s.heap.get? c = some o → h'.get? c = some o := fun c o hc => let ⟨q1, q2, q3, q4, q5⟩ := sub c hc; kp c o q1 q3 q4 q5
      exact ⟨rfl, I.turnedL kp' hf, kp'⟩
    · refine next_zipH_end S D1 D2 hz hT hTI s1 s2 le1 le2 he fun h' tk kp => ?_
      have kp' : ∀ c o, c ∉ [z, TI, TO, i1, i2] → s.heap.get? c = some o → h'.get? c = some o := fun c o hc => let ⟨q1, q2, q3, q4, q5⟩ := sub c hc; kp c o q1 q4 q5
      exact ⟨rfl, I.turnedL kp' hf, kp'⟩
end
end Wk
set_option Elab.async false
set_option linter.all false
set_option maxRecDepth 100000
set_option maxHeartbeats 4000000
namespace Wk
open PySem PySem.Spec PyProof.Rows L2 PySem.W PySem.SeqAt PySem.Calls
theorem ess_never {X : Cx} {b : List Stmt} : EvSs X b (fun _ => none) := ⟨⟨fun pins s σ H D I h => by
  obtain ⟨_, _, _, _, _, e, _⟩ := h
  cases e⟩⟩
theorem nolen_zip : typeLookup (.type "zip") "__len__" = pure none := by rw [typeLookup_type, builtinLookup_eq_fast]; kernel_rfl
theorem nohint_zip : typeLookup (.type "zip") "__length_hint__" = pure none := by rw [typeLookup_type, builtinLookup_eq_fast]; kernel_rfl
theorem notIn2 {x y z : Nat} (h1 : x ≠ y) (h2 : x ≠ z) : x ∉ [y, z] := fun h => by
  rcases List.mem_cons.mp h with e | e
  · exact h1 e
  · exact h2 (List.mem_singleton.mp e)
theorem sep_new (n a b : Nat) (ha : a < n) (hb : b < n) : ZipSep2 (n + 4) (n + 2) (n + 3) n (n + 1) [n, a] [n + 1, b] where
  TIz := show (n + 2 : Nat) ≠ n + 4 by omega
  TOz := show (n + 3 : Nat) ≠ n + 4 by omega
  TITO := show (n + 2 : Nat) ≠ n + 3 by omega
  TIi1 := show (n + 2 : Nat) ≠ n by omega
  mem1 := List.mem_cons_self
  zf1 := notIn2 (x := n + 4) (by omega) (by omega)
  Tf1 := notIn2 (x := n + 3) (by omega) (by omega)
  TIi2 := show (n + 2 : Nat) ≠ n + 1 by omega
  mem2 := List.mem_cons_self
  zf2 := notIn2 (x := n + 4) (by omega) (by omega)
  Tf2 := notIn2 (x := n + 3) (by omega) (by omega)
  sep1_2 := notIn2 (x := n) (by omega) (by omega)
  sep2_1 := notIn2 (x := n + 1) (by omega) (by omega)
noncomputable def mSortedZip (ma : Sl → Option (List RV × Sl)) : Sl → Option (RV × Sl) := fun ρ => match mCold ma ρ with
  | some ([d1, d2], ρ1) => (match seqD d1, seqD d2 with
    | some ds, some es => (match sortD (zipD ds es) with
      | some l => some (.tmp (.lst l), ρ1)
      | none => none)
    | _, _ => none)
  | _ => none
section
variable {X : Cx} {pins : List (Addr × Obj)} {σ : Stt} {F H : Hp} {s : Shared}
/-- zip(x, y) is made and drawn to its end -/
theorem zip_sorted_run {x y : V} {u1 u2 : Value} {d1 d2 : D} {ds es l : List D} {Q : VK} (hu : X.A.units + 65 < cLine) (hc : X.calm = true) (I : Inv X pins σ H s) (sm : Same F H) (rx : RelV x u1) (ry : RelV y u2) (p1 : Rp X.K F x d1) (p2 : Rp X.K F y d2) (e1 : seqD d1 = some ds) (e2 : seqD d2 = some es) (el : sortD (zipD ds es) = some l)
    (k : ∀ F1 H1 a ws, Grow F H F1 H1 → H1 a = none → RpAll X.K F1 ws l → Q (.ref a) (upd H1 a (.lst ws))) :
    wpAny (model X.prog X.w) X.A (call (.type "zip") [u1, u2]) (fun v s' => wpAny (model X.prog X.w) X.A (call (.builtin "sorted") [v]) (EP X pins σ Q) X.xe s') X.xe s := by
  obtain ⟨a, its1, xs1, o1, H1, St1, rfl, la, B1, h1, rv1, rp1, z1⟩ := src_of I sm p1 rx e1
  obtain ⟨b, its2, xs2, o2, H2, St2, rfl, lb, B2, h2, rv2, rp2, z2⟩ := src_of I sm p2 ry e2
  have hh : X.A.handled = none := I.ok.hd hc
  refine zip_begins2 B1.beg B2.beg h1 h2 fun h' hz hTI hTO g1 g2 hsz kp => ?_
  have I1 : Inv X pins σ H { s with heap := h' } := I.kept (t' := s.toks) kp
  have D1 := B1.dr X.A.in1.in1.in1 s.heap.objs.size (by simpa using hh) (Nat.ne_of_lt la)
  have D2 := B2.dr X.A.in1.in1.in1 (s.heap.objs.size + 1) (by simpa using hh) (Nat.ne_of_lt (Nat.lt_succ_of_lt lb))
  have W := pull_zip (X := X) (pins := pins) (σ := σ) (F := F) (A := X.A.in1.in1) (by simpa using hh) (sep_new s.heap.objs.size a b la lb) D1 D2 rv1 rp1 rv2 rp2
  have hf : ∀ c ∈ [s.heap.objs.size + 4, s.heap.objs.size + 2, s.heap.objs.size + 3, s.heap.objs.size, s.heap.objs.size + 1], FpOk X pins H c := fun c hcm => by
    have le : s.heap.objs.size ≤ c := by
      simp only [List.mem_cons, List.not_mem_nil, or_false] at hcm
      rcases hcm with z | z | z | z | z <;> rw [z] <;> first | exact Nat.le_add_right _ _ | exact Nat.le_refl _
    exact I.fpOk le (I.hok.fresh le)
  have st : ZT (s.heap.objs.size + 4) (s.heap.objs.size + 2) (s.heap.objs.size + 3) s.heap.objs.size (s.heap.objs.size + 1) (St1 s.heap.objs.size) (St2 (s.heap.objs.size + 1)) 0 h' :=
    ⟨hTI, B1.st0 _ _ g1 (B1.beg.keeps _ _ h1 kp), B2.st0 _ _ g2 (B2.beg.keeps _ _ h2 kp), ⟨_, hTO, rfl⟩, .inl ⟨rfl, hz, hTO⟩⟩
  have zl : (zipD ds es).length ≤ sizeLine := by rw [zipD_len]; omega
  refine sorted_any (collect_pull nolen_zip nohint_zip (by decide) (by decide) W (by simp) (fun c hcm => ?_) (fun i s' st' => ?_) (fun A' s' E' Q' st' q => ?_) (fun g g' st' up => ?_) I1 hf st sm zl fun s2 H2' F2 acc vs I2 g rv rp => ?_)
  · have e : c = a ∨ c = b := by simpa using hcm
    have up : ∀ {c}, c < s.heap.objs.size → c < h'.objs.size := fun {c} q => by rw [hsz]; exact Nat.lt_add_right 5 q
    rcases e with e | e <;> rw [e]
    · exact up la
    · exact up lb
  · obtain ⟨_, _, _, _, q⟩ := st'
    rcases q with ⟨_, q, _⟩ | ⟨_, T, f, oT, q, _⟩
    · exact ⟨_, q, rfl⟩
    · exact ⟨_, q, rfl⟩
  · obtain ⟨_, _, _, _, q0⟩ := st'
    rcases q0 with ⟨_, q0, _⟩ | ⟨e, _⟩
    · exact wpAny_pyIter_zip q0 q
    · exact absurd e (Nat.lt_irrefl 0)
  · obtain ⟨b1, b2, b3, ⟨oO, b4, b5⟩, q⟩ := st'
    rcases q with ⟨e, q1, q2⟩ | ⟨e, _⟩
    · exact ⟨up _ _ b1, D1.frame _ _ _ b2 fun c _ o e => up c o e, D2.frame _ _ _ b3 fun c _ o e => up c o e, ⟨oO, up _ _ b4, b5⟩, .inl ⟨e, up _ _ q1, up _ _ q2⟩⟩
    · exact absurd e (Nat.lt_irrefl 0)
  · have hl : acc.length ≤ sizeLine := by rw [← rv.length, rp.length]; exact zl
    have ho : (s2.heap.push (seqObj "list" acc.toArray 0)).get? s2.heap.objs.size = some (seqObj "list" acc.toArray 0) := Heap.get?_push_size _ rfl
    have old : ∀ c o, s2.heap.get? c = some o → c ≠ s2.heap.objs.size := fun c o e => Nat.ne_of_lt (Heap.lt_size e)
    obtain ⟨κ, SA, ws, rw1, rw2⟩ := sortD_run I2 g.s rp rv el (A := X.A.in1.in1) (by show X.A.units + 1 + 1 + 45 < cLine; omega) (sortingHeap (s2.heap.push (seqObj "list" acc.toArray 0)) s2.heap.objs.size acc)
      (fun c o e => sortingHeap_old (old c o e) (Heap.get?_push_of_some _ e))
    refine ⟨hl, κ, SA, ?_⟩
    obtain ⟨ep, at1⟩ := sortedHeap_at (out := (sortVals κ false acc acc).toArray) ho
    have len : ws.length ≤ sizeLine := by
      rw [rw1.length, sortVals_length false rfl]; exact hl
    have I3 := I2.laid (a := s2.heap.objs.size) (o := .lst ws) (t' := s2.toks) (h' := sortedHeap (s2.heap.push (seqObj "list" acc.toArray 0)) s2.heap.objs.size acc (sortVals κ false acc acc).toArray)
      (fun c o e => by
        rw [sortedHeap_old (old c o e) (by rw [Heap.size_push]; exact Nat.lt_succ_of_lt (Heap.lt_size e))]
        exact Heap.get?_push_of_some _ e) (Nat.le_refl _) ⟨len, _, ep, rw1, at1⟩
    exact ⟨.ref s2.heap.objs.size, _, I3, rfl, k F2 H2' _ ws g (I2.hok.fresh (Nat.le_refl _)) rw2⟩
theorem ev_sorted_zip {a b : Expr} {ma : Sl → Option (List RV × Sl)} {p p2 q pos : Pos} (hu : X.A.units + 65 < cLine) (hc : X.calm = true) (hg : Gl X "sorted") (hm : X.mg "sorted" = none) (hg2 : Gl X "zip") (hm2 : X.mg "zip" = none) (ha : EvA X [a, b] ma)
    (hs : starEach [a, b] X.env = (false, eval a X.env) :: starEach [b] X.env := by rfl) (hpl : (backTo q (starEach [b] X.env)).any (·.1) = false := by rfl) : EvE X (.Call (.Name "sorted" p) [.Call (.Name "zip" p2) [a, b] [] q] [] pos) (mSortedZip ma) := by
  refine ⟨⟨fun pins s σ H Q I h => ?_⟩⟩
  obtain ⟨as, F, ρ, r, ρ', R, e, k⟩ := h
  unfold mSortedZip at e
  split at e
  · rename_i d1 d2 ρ1 q0
    split at e
    · rename_i ds es e1 e2
      split at e
      · rename_i l el
        cases e
        refine Call_ (ld_blt I hg hm boot_sorted ?_)
        refine PyProof.Rows.callWith_builtin1 (PyProof.Rows.args_cons ?_ rfl) rfl rfl
        refine Call_ (ld_blt I hg2 hm2 PyProof.Rows.boot_zip (PyProof.Rows.callWith_type1 (thn (ha.pa.run q pins s σ H (fun vs H1 => ∃ F1, Step F H σ ρ F1 H1 σ ρ' ∧ Rep X.K X.w as F1 H1 σ ρ' ∧ RpAll X.K F1 vs [d1, d2]) I (cold_args R q0 fun vs F1 H1 S1 R1 y => ⟨F1, S1, R1, y⟩)) fun us s1 ⟨vs, H1, I1, rv, F1, S1, R1, rr⟩ => ?_) hs hpl))
        cases rr with
        | cons p1 rr => cases rr with
          | cons p2 rr =>
            cases rr
            obtain ⟨u1, u2, rfl, r1, r2⟩ := vals2 rv
            refine wpAny_mono (zip_sorted_run hu hc I1 R1.sub r1 r2 p1 p2 e1 e2 el (Q := Q) fun F2 H2 c ws g hn rw1 => ?_) (fun v s2 h2 => PyProof.Rows.args_nil h2) fun _ _ z => z
            obtain ⟨R2, S2⟩ := R1.grow g.f g.n g.h g.t g.s
            obtain ⟨F3, S3, R3, q3⟩ := (new_lst (w := X.w) hn rw1).fin R2
            exact k _ F3 _ (S1.trans (S2.trans S3)) R3 (q3.low fun b hb => S1.there b (S2.there b hb))
      · cases e
    · cases e
  · cases e
end
end Wk
set_option Elab.async false
set_option linter.all false
set_option maxRecDepth 100000
set_option maxHeartbeats 4000000
namespace Wk
open PySem PySem.Spec PyProof.Rows L2
/-! ### less, of numbers or of alike data -/
def ltB : D → D → Option RV
  | .int a, .int b => some (.val (.bool (decide (a < b))))
  | d, e => if PySem.W.alike d e = true ∧ isnD d = false ∧ d.depth ≤ 60 ∧ nd d = true ∧ nd e = true then some (.val (.bool (PySem.W.dataLt d e))) else none
theorem ltB_int (a b : Int) : ltB (.int a) (.int b) = some (.val (.bool (decide (a < b)))) := rfl
theorem ltB_tup {ds es : List D} (h : PySem.W.alike (.tuple ds) (.tuple es) = true) (hd : (PyData.tuple ds).depth ≤ 60) (h1 : nd (.tuple ds) = true) (h2 : nd (.tuple es) = true) : ltB (.tuple ds) (.tuple es) = some (.val (.bool (PySem.W.dataLt (.tuple ds) (.tuple es)))) := by
  unfold ltB
  dsimp only
  rw [if_pos ⟨h, rfl, hd, h1, h2⟩]
def rLtB (K : PySem.W.Frag) : R2 := fun x y H Q => ∃ d e, Dp K H x d ∧ Dp K H y e ∧ PySem.W.alike d e = true ∧ d ≠ .none ∧ d.depth ≤ 60 ∧ Q (.bl (PySem.W.dataLt d e)) H
section
variable {X : Cx}
theorem op_ltData (hu : X.A.units + 65 < cLine) : OpR X (compareOp .Lt) (rLtB X.K) := by
  intro pins s σ H x y v u Q I rx ry h
  obtain ⟨d, e, hd, he, al, hn, dp, q⟩ := h
  obtain ⟨as, r1⟩ := Dp.reads I d x v hd rx
  obtain ⟨bs, r2⟩ := Dp.reads I e y u he ry
  exact PySem.W.lt_data r1 r2 al hn (by have := Nat.min_le_left d.depth e.depth; omega) ⟨.bl _, H, I, rfl, q⟩
theorem op_ltB (hu : X.A.units + 65 < cLine) : OpR X (compareOp .Lt) (fun x y H Q => rI0 (fun i j => .bl (decide (i < j))) x y H Q ∨ rLtB X.K x y H Q) := OpR.or op_lt (op_ltData hu)
theorem od_ltB {K : PySem.W.Frag} {w : World} : OpD K w (fun x y H Q => rI0 (fun i j => .bl (decide (i < j))) x y H Q ∨ rLtB K x y H Q) ltB := by
  intro x y d e F H Q rv sm hx hy he k
  unfold ltB at he
  split at he
  · cases he
    rw [hx.int, hy.int]
    exact .inl ⟨_, _, rfl, rfl, k _ _ new_bl⟩
  · split at he
    case isFalse => cases he
    rename_i hc
    cases he
    exact .inr ⟨d, e, Rp.dp _ _ hc.2.2.2.1 (hx.rp sm), Rp.dp _ _ hc.2.2.2.2 (hy.rp sm), hc.1, fun z => by subst z; exact absurd hc.2.1 (by decide), hc.2.2.1, k _ _ new_bl⟩
end
/-! ### a text times a number -/
noncomputable def mulB : D → D → Option RV := fun d e => match d, e with
  | .str z, .int n => iteC (MulOk z n) (some (.val (.str (Txt.mul z n)))) none
  | d, e => mulD d e
theorem mulB_str {z : Str} {n : Int} (h : MulOk z n) : mulB (.str z) (.int n) = some (.val (.str (Txt.mul z n))) := iteC_pos h
theorem mulB_int {a b : Int} : mulB (.int a) (.int b) = mulD (.int a) (.int b) := rfl
theorem mulB_lst {a : List D} {b : Int} : mulB (.list a) (.int b) = mulD (.list a) (.int b) := rfl
def rRepS : R2 := fun x y H Q => ∃ z n, x = .str z ∧ y = .int n ∧ MulOk z n ∧ Q (.str (Txt.mul z n)) H
section
variable {X : Cx}
theorem op_repS : OpR X (binaryOp .Mult) rRepS := by
  intro pins s σ H x y v u Q I rx ry h
  obtain ⟨z, n, rfl, rfl, hz, q⟩ := h
  obtain ⟨t, rfl⟩ := rx
  obtain ⟨t', rfl⟩ := ry
  exact SB.mul hz fun t' tk => ⟨.str (Txt.mul z n), H, I.tok _, ⟨_, rfl⟩, q⟩
theorem op_mulB : OpR X (binaryOp .Mult) (fun x y H Q => rMulA x y H Q ∨ rRepS x y H Q) := OpR.or op_mulA op_repS
theorem od_mulB {K : PySem.W.Frag} {w : World} : OpD K w (fun x y H Q => rMulA x y H Q ∨ rRepS x y H Q) mulB := by
  intro x y d e F H Q rv sm hx hy he k
  unfold mulB at he
  split at he
  · unfold iteC at he
    split at he
    case isFalse => cases he
    rename_i hc
    cases he
    rw [hx.str, hy.int]
    exact .inr ⟨_, _, rfl, rfl, hc, k _ _ new_str⟩
  · exact .inl (od_mul x y d e F H Q rv sm hx hy he k)
end
end Wk
set_option Elab.async false
set_option linter.all false
set_option maxRecDepth 100000
set_option maxHeartbeats 4000000
namespace Wk
open PySem PySem.Spec PyProof.Rows L2
/-- a call by values -/
def callV (n : Nat) (m : Sl → Option Fl) (ds : List D) : Option RV := match m (pad n (ds.map .val)) with
  | some (.nx _) => some (.val .none)
  | some (.rt r ρf) => ret ρf r
  | _ => none
theorem frz_vals_false : ∀ (rs : List RV) (np : Nat) (ρ : Sl), rs.length = np → frz (List.replicate np false) rs ρ = frz (rs.map fun _ => false) rs ρ
  | [], 0, _, _ => rfl
  | r :: rs, np + 1, ρ, h => by
    rw [List.replicate_succ, List.map_cons]
    unfold frz
    cases cold r ρ with
    | none => rfl
    | some p =>
      obtain ⟨d, ρ1⟩ := p
      dsimp only
      rw [frz_vals_false rs np ρ1 (by simpa using h)]
  | [], _ + 1, _, h => by simp at h
  | _ :: _, 0, _, h => by simp at h
theorem frz_len : ∀ (ms : List Bool) (rs : List RV) (ρ : Sl), ms.length ≠ rs.length → frz ms rs ρ = none
  | [], [], _, h => absurd rfl h
  | [], _ :: _, _, _ => rfl
  | false :: ms, [], _, _ => rfl
  | true :: ms, [], _, _ => rfl
  | false :: ms, r :: rs, ρ, h => by
    unfold frz
    cases cold r ρ with
    | none => rfl
    | some p =>
      dsimp only
      rw [frz_len ms rs p.2 (by simpa using h)]
  | true :: ms, r :: rs, ρ, h => by
    unfold frz
    rw [frz_len ms rs ρ (by simpa using h)]
theorem frz_false_vals : ∀ (rs rs2 : List RV) (ρ ρ2 : Sl), frz (rs.map fun _ => false) rs ρ = some (rs2, ρ2) → ∃ ds : List D, rs2 = ds.map .val ∧ ds.length = rs.length
  | [], _, _, _, h => by cases h; exact ⟨[], rfl, rfl⟩
  | r :: rs, rs2, ρ, ρ2, h => by
    rw [List.map_cons] at h
    unfold frz at h
    cases q : cold r ρ with
    | none => rw [q] at h; cases h
    | some p =>
      obtain ⟨d, ρ1⟩ := p
      rw [q] at h
      dsimp only at h
      cases q2 : frz (rs.map fun _ => false) rs ρ1 with
      | none => rw [q2] at h; cases h
      | some p2 =>
        obtain ⟨rs', ρ2'⟩ := p2
        rw [q2] at h
        cases h
        obtain ⟨ds, e1, e2⟩ := frz_false_vals rs rs' ρ1 _ q2
        exact ⟨d :: ds, by rw [e1]; rfl, by simp [e2]⟩
theorem args_vals (ρ : Sl) : ∀ (ds : List D) (j : Nat), args ρ j (ds.map .val) = some (ds.map .val)
  | [], _ => rfl
  | d :: ds, j => by
    rw [List.map_cons]
    unfold args
    rw [args_vals ρ ds (j + 1)]
    rfl
theorem names_vals : ∀ ds : List D, names (ds.map .val) = []
  | [] => rfl
  | d :: ds => by
    rw [List.map_cons]
    unfold names
    exact names_vals ds
theorem back_vals (ρf : Sl) : ∀ (ds : List D) (j : Nat) (ρ : Sl), back ρf j (ds.map .val) ρ = some ρ
  | [], _, _ => rfl
  | d :: ds, j, ρ => by
    rw [List.map_cons]
    unfold back
    exact back_vals ρf ds (j + 1) ρ
theorem rdAll_vals (ρ : Sl) : ∀ ds : List D, rdAll ρ (ds.map .val) = some ds
  | [] => rfl
  | d :: ds => by
    rw [List.map_cons]
    unfold rdAll
    rw [rdAll_vals ρ ds]
    rfl
theorem mFn_vals {np n : Nat} {m : Sl → Option Fl} {ms : List Bool} {ma : Sl → Option (List RV × Sl)} {ρ : Sl} (h : ms = List.replicate np false) :
    mFn' np n m ms [] ma ρ = match mCold ma ρ with
      | none => none
      | some (ds, ρ2) => if ds.length = np then (match callV n m ds with
        | none => none
        | some r => some (r, ρ2)) else none := by
  subst h
  unfold mFn' mCold
  cases ma ρ with
  | none => rfl
  | some p =>
    obtain ⟨rs, ρ1⟩ := p
    dsimp only
    rw [List.map_nil, List.append_nil]
    unfold mFnA
    by_cases hl : rs.length = np
    · rw [frz_vals_false rs np ρ1 hl]
      cases q : frz (rs.map fun _ => false) rs ρ1 with
      | none => rfl
      | some p2 =>
        obtain ⟨rs2, ρ2⟩ := p2
        obtain ⟨ds, e, e2⟩ := frz_false_vals rs rs2 ρ1 ρ2 q
        subst e
        dsimp only
        rw [args_vals, rdAll_vals, names_vals]
        dsimp only
        have c : (ds.map SV.val).length = np ∧ ([] : List Nat).Nodup := ⟨by rw [List.length_map, e2, hl], List.nodup_nil⟩
        rw [if_pos c, if_pos (by rw [e2, hl])]
        unfold callV
        cases m (pad n (ds.map .val)) with
        | none => rfl
        | some f =>
          cases f with
          | nx ρf => simp only [back_vals]
          | rt r ρf =>
            dsimp only
            cases ret ρf r with
            | none => rfl
            | some r' => simp only [back_vals]
          | bk ρf => rfl
          | ct ρf => rfl
    · rw [frz_len _ _ _ (by rw [List.length_replicate]; exact fun e => hl e.symm)]
      cases q : frz (rs.map fun _ => false) rs ρ1 with
      | none => rfl
      | some p2 =>
        obtain ⟨rs2, ρ2⟩ := p2
        obtain ⟨ds, e, e2⟩ := frz_false_vals rs rs2 ρ1 ρ2 q
        subst e
        dsimp only
        rw [rdAll_vals]
        dsimp only
        rw [if_neg (by rw [e2]; exact hl)]
end Wk
set_option Elab.async false
set_option linter.all false
set_option maxRecDepth 100000
set_option maxHeartbeats 1000000
namespace Wk
open PySem PySem.Spec PyProof.Rows L2
@[simp] theorem slot_zero {s : SV} {ρ : Sl} : slot (s :: ρ) 0 = s := rfl
@[simp] theorem slot_succ {s : SV} {ρ : Sl} {i : Nat} : slot (s :: ρ) (i + 1) = slot ρ i := rfl
theorem kit_int_int : kitB "int" "int" = some true := by first | rfl | decide +kernel
theorem kit_int_bool : kitB "int" "bool" = some false := by first | rfl | decide +kernel
theorem kit_int_str : kitB "int" "str" = some false := by first | rfl | decide +kernel
theorem kit_int_tuple : kitB "int" "tuple" = some false := by first | rfl | decide +kernel
theorem kit_int_list : kitB "int" "list" = some false := by first | rfl | decide +kernel
theorem kit_bool_int : kitB "bool" "int" = some true := by first | rfl | decide +kernel
theorem kit_bool_bool : kitB "bool" "bool" = some true := by first | rfl | decide +kernel
theorem kit_bool_str : kitB "bool" "str" = some false := by first | rfl | decide +kernel
theorem kit_bool_tuple : kitB "bool" "tuple" = some false := by first | rfl | decide +kernel
theorem kit_bool_list : kitB "bool" "list" = some false := by first | rfl | decide +kernel
theorem kit_str_int : kitB "str" "int" = some false := by first | rfl | decide +kernel
theorem kit_str_bool : kitB "str" "bool" = some false := by first | rfl | decide +kernel
theorem kit_str_str : kitB "str" "str" = some true := by first | rfl | decide +kernel
theorem kit_str_tuple : kitB "str" "tuple" = some false := by first | rfl | decide +kernel
theorem kit_str_list : kitB "str" "list" = some false := by first | rfl | decide +kernel
theorem kit_tuple_int : kitB "tuple" "int" = some false := by first | rfl | decide +kernel
theorem kit_tuple_bool : kitB "tuple" "bool" = some false := by first | rfl | decide +kernel
theorem kit_tuple_str : kitB "tuple" "str" = some false := by first | rfl | decide +kernel
theorem kit_tuple_tuple : kitB "tuple" "tuple" = some true := by first | rfl | decide +kernel
theorem kit_tuple_list : kitB "tuple" "list" = some false := by first | rfl | decide +kernel
theorem kit_list_int : kitB "list" "int" = some false := by first | rfl | decide +kernel
theorem kit_list_bool : kitB "list" "bool" = some false := by first | rfl | decide +kernel
theorem kit_list_str : kitB "list" "str" = some false := by first | rfl | decide +kernel
theorem kit_list_tuple : kitB "list" "tuple" = some false := by first | rfl | decide +kernel
theorem kit_list_list : kitB "list" "list" = some true := by first | rfl | decide +kernel
theorem kit_NoneType_int : kitB "NoneType" "int" = some false := by first | rfl | decide +kernel
theorem kit_NoneType_bool : kitB "NoneType" "bool" = some false := by first | rfl | decide +kernel
theorem kit_NoneType_str : kitB "NoneType" "str" = some false := by first | rfl | decide +kernel
theorem kit_NoneType_tuple : kitB "NoneType" "tuple" = some false := by first | rfl | decide +kernel
theorem kit_NoneType_list : kitB "NoneType" "list" = some false := by first | rfl | decide +kernel
theorem mFn_v1 {n : Nat} {m : Sl → Option Fl} {ma : Sl → Option (List RV × Sl)} {ρ : Sl} : mFn' 1 n m [false] [] ma ρ = match mCold ma ρ with
      | none => none
      | some (ds, ρ2) => if ds.length = 1 then (match callV n m ds with
        | none => none
        | some r => some (r, ρ2)) else none := mFn_vals rfl
theorem mFn_v2 {n : Nat} {m : Sl → Option Fl} {ma : Sl → Option (List RV × Sl)} {ρ : Sl} : mFn' 2 n m [false, false] [] ma ρ = match mCold ma ρ with
      | none => none
      | some (ds, ρ2) => if ds.length = 2 then (match callV n m ds with
        | none => none
        | some r => some (r, ρ2)) else none := mFn_vals rfl
theorem mFn_v3 {n : Nat} {m : Sl → Option Fl} {ma : Sl → Option (List RV × Sl)} {ρ : Sl} : mFn' 3 n m [false, false, false] [] ma ρ = match mCold ma ρ with
      | none => none
      | some (ds, ρ2) => if ds.length = 3 then (match callV n m ds with
        | none => none
        | some r => some (r, ρ2)) else none := mFn_vals rfl
theorem mFn_v4 {n : Nat} {m : Sl → Option Fl} {ma : Sl → Option (List RV × Sl)} {ρ : Sl} : mFn' 4 n m [false, false, false, false] [] ma ρ = match mCold ma ρ with
      | none => none
      | some (ds, ρ2) => if ds.length = 4 then (match callV n m ds with
        | none => none
        | some r => some (r, ρ2)) else none := mFn_vals rfl
theorem mFn_v5 {n : Nat} {m : Sl → Option Fl} {ma : Sl → Option (List RV × Sl)} {ρ : Sl} : mFn' 5 n m [false, false, false, false, false] [] ma ρ = match mCold ma ρ with
      | none => none
      | some (ds, ρ2) => if ds.length = 5 then (match callV n m ds with
        | none => none
        | some r => some (r, ρ2)) else none := mFn_vals rfl
end Wk
set_option Elab.async false
set_option linter.all false
set_option maxRecDepth 100000
set_option maxHeartbeats 1000000
namespace Wk
open PySem PySem.Spec PyProof.Rows L2
theorem sl_ext {ρ ρ' : Sl} (hl : ρ.length = ρ'.length) (h : ∀ i, slot ρ i = slot ρ' i) : ρ = ρ' := by
  apply List.ext_getElem hl
  intro i h1 h2
  have := h i
  unfold slot at this
  rw [List.getD_eq_getElem?_getD, List.getD_eq_getElem?_getD, List.getElem?_eq_getElem h1, List.getElem?_eq_getElem h2] at this
  exact this
theorem mix_same {ρ1 ρ2 : Sl} {vs : List Nat} (h : hide ρ2 vs = hide ρ1 vs) : mix ρ1 ρ2 vs = ρ1 := by
  have len : ρ2.length = ρ1.length := by
    have := congrArg List.length h
    rwa [hide_len, hide_len] at this
  refine sl_ext (by rw [mix_len]; exact len) fun i => ?_
  rw [slot_mix len.symm]
  by_cases hi : i ∈ vs
  · rw [if_pos hi]
  · rw [if_neg hi]
    have := congrArg (fun r => slot r i) h
    simp only [slot_hide, if_neg hi] at this
    exact this
section
variable {α : Type} {vs : List Nat} {mi : Sl → Option (List D × Sl)} {g : D → Sl → Option Sl} {t : Sl → Option (Bool × Sl)} {e : Sl → Option (RV × Sl)} {enc : α → D} {p : α → Bool} {f : α → D} {ρ ρ1 : Sl}
theorem lcL_pure (xs : List α) (h : ∀ x ∈ xs, ∃ ρa, g (enc x) (hide ρ1 vs) = some ρa ∧ hide ρa vs = hide ρ1 vs ∧ t ρa = some (p x, ρa) ∧ (p x = true → ∃ r, e ρa = some (r, ρa) ∧ cold r ρa = some (f x, ρa))) :
    ∀ (ρ : Sl) (acc : List D), hide ρ vs = hide ρ1 vs → ∃ ρF, lcL vs g t e (xs.map enc) acc ρ = some (acc ++ (xs.filter p).map f, ρF) ∧ hide ρF vs = hide ρ1 vs := by
  induction xs with
  | nil => intro ρ acc hρ; exact ⟨ρ, by simp [lcL], hρ⟩
  | cons x xs ih =>
    intro ρ acc hρ
    obtain ⟨ρa, h1, h2, h3, h4⟩ := h x List.mem_cons_self
    rw [List.map_cons]
    unfold lcL
    rw [hρ, h1]
    dsimp only
    rw [h3]
    have ih' := ih fun y hy => h y (List.mem_cons_of_mem _ hy)
    cases q : p x with
    | false =>
      dsimp only
      rw [List.filter_cons_of_neg (by rw [q]; decide)]
      exact ih' ρa acc h2
    | true =>
      obtain ⟨r, h5, h6⟩ := h4 q
      dsimp only
      rw [h5]
      dsimp only
      rw [h6, List.filter_cons_of_pos q, List.map_cons]
      dsimp only
      obtain ⟨ρF, e1, e2⟩ := ih' ρa (acc ++ [f x]) h2
      exact ⟨ρF, by rw [e1, List.append_assoc]; rfl, e2⟩
/-- a comprehension that changes nothing beside its names -/
theorem lc_if {xs : List α} (hi : mi ρ = some (xs.map enc, ρ1)) (p : α → Bool) (f : α → D) (h : ∀ x ∈ xs, ∃ ρa, g (enc x) (hide ρ1 vs) = some ρa ∧ hide ρa vs = hide ρ1 vs ∧ t ρa = some (p x, ρa) ∧ (p x = true → ∃ r, e ρa = some (r, ρa) ∧ cold r ρa = some (f x, ρa))) :
    mLc vs mi g t e ρ = some (.tmp (.lst ((xs.filter p).map f)), ρ1) := by
  unfold mLc
  rw [hi]
  dsimp only
  obtain ⟨ρF, e1, e2⟩ := lcL_pure xs h ρ1 [] rfl
  rw [e1]
  dsimp only
  rw [mix_same e2, List.nil_append]
theorem lc_all {xs : List α} (hi : mi ρ = some (xs.map enc, ρ1)) (f : α → D) (h : ∀ x ∈ xs, ∃ ρa, g (enc x) (hide ρ1 vs) = some ρa ∧ hide ρa vs = hide ρ1 vs ∧ ∃ r, e ρa = some (r, ρa) ∧ cold r ρa = some (f x, ρa)) :
    mLc vs mi g mYes e ρ = some (.tmp (.lst (xs.map f)), ρ1) := by
  have := lc_if (mi := mi) (g := g) (t := mYes) (e := e) (vs := vs) hi (fun _ => true) f fun x hx => by
    obtain ⟨ρa, h1, h2, r, h3, h4⟩ := h x hx
    exact ⟨ρa, h1, h2, rfl, fun _ => ⟨r, h3, h4⟩⟩
  rwa [List.filter_eq_self.mpr fun _ _ => rfl] at this
end
/-- a loop with an invariant: I j ρ behind j items -/
theorem for_inv {α : Type} {mi : Sl → Option (List D × Sl)} {g : D → Sl → Option Sl} {b : Sl → Option Fl} {enc : α → D} {xs : List α} {ρ ρ1 : Sl} (hi : mi ρ = some (xs.map enc, ρ1)) (Iv : Nat → Sl → Prop) (h0 : Iv 0 ρ1)
    (h : ∀ (j : Nat) (x : α) (ρ' : Sl), xs[j]? = some x → Iv j ρ' → ∃ ρa ρb, g (enc x) ρ' = some ρa ∧ (b ρa = some (.nx ρb) ∨ b ρa = some (.ct ρb)) ∧ Iv (j + 1) ρb) : ∃ ρF, mFor mi g b ρ = some (.nx ρF) ∧ Iv xs.length ρF := by
  unfold mFor
  rw [hi]
  dsimp only
  have gen : ∀ (ys : List α) (j : Nat) (ρ' : Sl), xs.drop j = ys → Iv j ρ' → ∃ ρF, forL g b (ys.map enc) ρ' = some (.nx ρF) ∧ Iv (j + ys.length) ρF := by
    intro ys
    induction ys with
    | nil => intro j ρ' _ iv; exact ⟨ρ', rfl, iv⟩
    | cons y ys ih =>
      intro j ρ' hd iv
      have hj : j < xs.length := by
        rcases Nat.lt_or_ge j xs.length with q | q
        · exact q
        · rw [List.drop_eq_nil_of_le q] at hd; cases hd
      rw [List.drop_eq_getElem_cons hj] at hd
      injection hd with e1 e2
      obtain ⟨ρa, ρb, q1, q2, q3⟩ := h j y ρ' (by rw [List.getElem?_eq_getElem hj, e1]) iv
      obtain ⟨ρF, r1, r2⟩ := ih (j + 1) ρb e2 q3
      refine ⟨ρF, ?_, by rw [List.length_cons, show j + (ys.length + 1) = j + 1 + ys.length by omega]; exact r2⟩
      rw [List.map_cons]
      unfold forL
      rw [q1]
      dsimp only
      rcases q2 with q2 | q2 <;> rw [q2] <;> exact r1
  obtain ⟨ρF, r1, r2⟩ := gen xs 0 ρ1 rfl h0
  exact ⟨ρF, r1, by simpa using r2⟩
/-- a loop that may return: at the first item where q holds -/
theorem for_ret {α : Type} {mi : Sl → Option (List D × Sl)} {g : D → Sl → Option Sl} {b : Sl → Option Fl} {enc : α → D} {xs : List α} {ρ ρ1 : Sl} (hi : mi ρ = some (xs.map enc, ρ1)) (q : α → Bool) (Iv : Nat → Sl → Prop) (h0 : Iv 0 ρ1)
    (h : ∀ (j : Nat) (x : α) (ρ' : Sl), xs[j]? = some x → q x = false → Iv j ρ' → ∃ ρa ρb, g (enc x) ρ' = some ρa ∧ (b ρa = some (.nx ρb) ∨ b ρa = some (.ct ρb)) ∧ Iv (j + 1) ρb) :
    (∀ x ∈ xs, q x = false) ∧ (∃ ρF, mFor mi g b ρ = some (.nx ρF) ∧ Iv xs.length ρF) ∨ ∃ j x ρ', xs[j]? = some x ∧ q x = true ∧ (∀ i y, i < j → xs[i]? = some y → q y = false) ∧ Iv j ρ' ∧ mFor mi g b ρ = forL g b ((xs.drop j).map enc) ρ' := by
  unfold mFor
  rw [hi]
  dsimp only
  have gen : ∀ (ys : List α) (j : Nat) (ρ' : Sl), xs.drop j = ys → Iv j ρ' → (∀ i y, i < j → xs[i]? = some y → q y = false) → ((∀ x ∈ ys, q x = false) ∧ ∃ ρF, forL g b (ys.map enc) ρ' = some (.nx ρF) ∧ Iv (j + ys.length) ρF) ∨
      ∃ i x ρ'', xs[i]? = some x ∧ q x = true ∧ (∀ k y, k < i → xs[k]? = some y → q y = false) ∧ Iv i ρ'' ∧ forL g b (ys.map enc) ρ' = forL g b ((xs.drop i).map enc) ρ'' := by
    intro ys
    induction ys with
    | nil => intro j ρ' _ iv _; exact .inl ⟨fun _ h => (nomatch h), ρ', rfl, iv⟩
    | cons y ys ih =>
      intro j ρ' hd iv hb
      have hj : j < xs.length := by
        rcases Nat.lt_or_ge j xs.length with z | z
        · exact z
        · rw [List.drop_eq_nil_of_le z] at hd; cases hd
      have hd0 := hd
      rw [List.drop_eq_getElem_cons hj] at hd
      injection hd with e1 e2
      have ey : xs[j]? = some y := by rw [List.getElem?_eq_getElem hj, e1]
      cases qy : q y with
      | true => exact .inr ⟨j, y, ρ', ey, qy, hb, iv, by rw [hd0]⟩
      | false =>
        obtain ⟨ρa, ρb, q1, q2, q3⟩ := h j y ρ' ey qy iv
        have st : forL g b ((y :: ys).map enc) ρ' = forL g b (ys.map enc) ρb := by
          rw [List.map_cons]
          conv => lhs; unfold forL
          rw [q1]
          dsimp only
          rcases q2 with q2 | q2 <;> rw [q2]
        rcases ih (j + 1) ρb e2 q3 (fun i z hi ez => by
            rcases Nat.lt_or_ge i j with u | u
            · exact hb i z u ez
            · have : i = j := by omega
              subst this
              rw [ey] at ez; cases ez; exact qy) with ⟨r0, ρF, r1, r2⟩ | ⟨i, x, ρ'', r1, r2, r3, r4, r5⟩
        · refine .inl ⟨fun x hx => ?_, ρF, by rw [st]; exact r1, by rw [List.length_cons, show j + (ys.length + 1) = j + 1 + ys.length by omega]; exact r2⟩
          rcases List.mem_cons.mp hx with z | z
          · rw [z]; exact qy
          · exact r0 x z
        · exact .inr ⟨i, x, ρ'', r1, r2, r3, r4, by rw [st]; exact r5⟩
  rcases gen xs 0 ρ1 rfl h0 (fun i _ hi => absurd hi (Nat.not_lt_zero i)) with ⟨r0, ρF, r1, r2⟩ | ⟨i, x, ρ', r1, r2, r3, r4, r5⟩
  · exact .inl ⟨r0, ρF, r1, by simpa using r2⟩
  · exact .inr ⟨i, x, ρ', r1, r2, r3, r4, r5⟩
theorem boolsD_map (bs : List Bool) : boolsD (bs.map .bool) = some bs := by
  induction bs with
  | nil => rfl
  | cons b bs ih => rw [List.map_cons]; unfold boolsD; rw [ih]; rfl
theorem boolsD_fun {α : Type} (f : α → Bool) (xs : List α) : boolsD (xs.map fun x => .bool (f x)) = some (xs.map f) := by
  have := boolsD_map (xs.map f)
  rwa [List.map_map] at this
theorem allD_fun {α : Type} (f : α → Bool) (xs : List α) : allD [.list (xs.map fun x => .bool (f x))] = some (.val (.bool (xs.all f))) := by
  unfold allD
  dsimp only
  rw [boolsD_fun]
  simp [List.all_map]
theorem anyD_fun {α : Type} (f : α → Bool) (xs : List α) : anyD [.list (xs.map fun x => .bool (f x))] = some (.val (.bool (xs.any f))) := by
  unfold anyD
  dsimp only
  rw [boolsD_fun]
  simp [List.any_map]
theorem intsD_map (ns : List Int) : intsD (ns.map .int) = some ns := by
  induction ns with
  | nil => rfl
  | cons b bs ih => rw [List.map_cons]; unfold intsD; rw [ih]; rfl
theorem strsD_map (ns : List Str) : strsD (ns.map .str) = some ns := by
  induction ns with
  | nil => rfl
  | cons b bs ih => rw [List.map_cons]; unfold strsD; rw [ih]; rfl
theorem lenD_list (ds : List D) : lenD [.list ds] = some (.val (.int ds.length)) := rfl
theorem lenD_tuple (ds : List D) : lenD [.tuple ds] = some (.val (.int ds.length)) := rfl
theorem lenD_str {x : Str} (h : x.cps.size ≤ 4096) : lenD [.str x] = some (.val (.int x.cps.size)) := by
  unfold lenD
  have e : x.length = x.cps.size := rfl
  dsimp only
  rw [e, if_pos (by rw [sizeLine_eq]; omega)]
/-- what has a plain shape -/
def Ok (n : Nat) (d : D) : Prop := d.canLay0 = true ∧ d.depth ≤ n
theorem okD_of {n : Nat} {d : D} (h : Ok n d) (hn : n ≤ 64 := by decide) : okD d = true := by
  unfold okD SeqAt.shaped
  rw [h.1, Bool.true_and, decide_eq_true_eq]
  exact Nat.le_trans h.2 hn
theorem Ok.int {n : Nat} {i : Int} : Ok n (.int i) := ⟨rfl, Nat.zero_le _⟩
theorem Ok.str {n : Nat} {i : Str} (h : PyData.strOk i = true) : Ok n (.str i) := ⟨h, Nat.zero_le _⟩
theorem Ok.bool {n : Nat} {i : Bool} : Ok n (.bool i) := ⟨rfl, Nat.zero_le _⟩
theorem Ok.none {n : Nat} : Ok n .none := ⟨rfl, Nat.zero_le _⟩
theorem Ok.tuple {n : Nat} : ∀ {ds : List D}, (∀ d ∈ ds, Ok n d) → Ok (n + 1) (.tuple ds)
  | ds, h => by
    have a : PyData.canLayAll0 ds = true ∧ PyData.depthAll ds ≤ n := by
      induction ds with
      | nil => exact ⟨rfl, Nat.zero_le _⟩
      | cons d ds ih =>
        have h1 := h d List.mem_cons_self
        have h2 := ih fun x hx => h x (List.mem_cons_of_mem _ hx)
        simp only [PyData.canLayAll0, PyData.depthAll, h1.1, h2.1, Bool.true_and, true_and]
        exact Nat.max_le.mpr ⟨h1.2, h2.2⟩
    exact ⟨by simpa only [PyData.canLay0] using a.1, by simp only [PyData.depth]; omega⟩
theorem Ok.list {n : Nat} : ∀ {ds : List D}, (∀ d ∈ ds, Ok n d) → Ok (n + 1) (.list ds)
  | ds, h => by
    have a := Ok.tuple h
    exact ⟨by simpa only [PyData.canLay0] using a.1, by simpa only [PyData.depth] using a.2⟩
theorem atI_nat {α : Type} {xs : List α} {i : Nat} {x : α} (h : xs[i]? = some x) : atI xs (i : Int) = some x := by
  have hi := (List.getElem?_eq_some_iff.mp h).1
  unfold atI ixN
  rw [if_pos (Int.natCast_nonneg i), if_pos (by exact_mod_cast hi)]
  simpa using h
theorem ix0 {a : D} {r : List D} : ixD (.tuple (a :: r)) (.int 0) = some (.val a) := by
  show (atI (a :: r) 0).map _ = _
  rw [show (0 : Int) = ((0 : Nat) : Int) from rfl, atI_nat (h := rfl)]
  rfl
theorem ix1 {a b : D} {r : List D} : ixD (.tuple (a :: b :: r)) (.int 1) = some (.val b) := by
  show (atI (a :: b :: r) 1).map _ = _
  rw [show (1 : Int) = ((1 : Nat) : Int) from rfl, atI_nat (h := rfl)]
  rfl
theorem ix2 {a b c : D} {r : List D} : ixD (.tuple (a :: b :: c :: r)) (.int 2) = some (.val c) := by
  show (atI (a :: b :: c :: r) 2).map _ = _
  rw [show (2 : Int) = ((2 : Nat) : Int) from rfl, atI_nat (h := rfl)]
  rfl
theorem ix3 {a b c d : D} {r : List D} : ixD (.tuple (a :: b :: c :: d :: r)) (.int 3) = some (.val d) := by
  show (atI (a :: b :: c :: d :: r) 3).map _ = _
  rw [show (3 : Int) = ((3 : Nat) : Int) from rfl, atI_nat (h := rfl)]
  rfl
theorem ix4 {a b c d e : D} {r : List D} : ixD (.tuple (a :: b :: c :: d :: e :: r)) (.int 4) = some (.val e) := by
  show (atI (a :: b :: c :: d :: e :: r) 4).map _ = _
  rw [show (4 : Int) = ((4 : Nat) : Int) from rfl, atI_nat (h := rfl)]
  rfl
theorem ixn {ds : List D} {i : Nat} {d : D} (h : ds[i]? = some d) : ixD (.tuple ds) (.int i) = some (.val d) := by
  show (atI ds i).map _ = _
  rw [atI_nat h]
  rfl
theorem ixl {ds : List D} {i : Nat} {d : D} (h : ds[i]? = some d) : ixD (.list ds) (.int i) = some (.val d) := by
  show (atI ds i).map _ = _
  rw [atI_nat h]
  rfl
theorem eq_int {a b : Int} : eqD (.int a) (.int b) = some (.val (.bool (decide (a = b)))) := rfl
theorem ne_int {a b : Int} : neD (.int a) (.int b) = some (.val (.bool (!decide (a = b)))) := rfl
theorem eq_bool {a b : Bool} : eqD (.bool a) (.bool b) = some (.val (.bool (a == b))) := rfl
theorem ne_bool {a b : Bool} : neD (.bool a) (.bool b) = some (.val (.bool (!(a == b)))) := rfl
theorem eq_str {a b : Str} (ha : PyData.strOk a = true) (hb : PyData.strOk b = true) : eqD (.str a) (.str b) = some (.val (.bool (decide (a = b)))) := by
  unfold eqD
  rw [okD_of (n := 0) (Ok.str ha), okD_of (n := 0) (Ok.str hb)]
  rfl
theorem ne_str {a b : Str} (ha : PyData.strOk a = true) (hb : PyData.strOk b = true) : neD (.str a) (.str b) = some (.val (.bool (!decide (a = b)))) := by
  unfold neD
  rw [okD_of (n := 0) (Ok.str ha), okD_of (n := 0) (Ok.str hb)]
  rfl
theorem len_t0 : lenD [.tuple []] = some (.val (.int 0)) := rfl
theorem len_t1 {a : D} : lenD [.tuple [a]] = some (.val (.int 1)) := rfl
theorem len_t2 {a b : D} : lenD [.tuple [a, b]] = some (.val (.int 2)) := rfl
theorem len_t3 {a b c : D} : lenD [.tuple [a, b, c]] = some (.val (.int 3)) := rfl
theorem len_t4 {a b c d : D} : lenD [.tuple [a, b, c, d]] = some (.val (.int 4)) := rfl
theorem len_t5 {a b c d e : D} : lenD [.tuple [a, b, c, d, e]] = some (.val (.int 5)) := rfl
theorem sl4_5 {a b c d e : D} : slD none (some 4) (.tuple [a, b, c, d, e]) = some (.val (.tuple [a, b, c, d])) := rfl
theorem small0 : (0 ≤ sizeLine) = True := by simp
theorem small1 : (1 ≤ sizeLine) = True := by rw [sizeLine_eq]; decide
theorem small2 : (2 ≤ sizeLine) = True := by rw [sizeLine_eq]; decide
theorem small3 : (3 ≤ sizeLine) = True := by rw [sizeLine_eq]; decide
theorem small4 : (4 ≤ sizeLine) = True := by rw [sizeLine_eq]; decide
theorem small5 : (5 ≤ sizeLine) = True := by rw [sizeLine_eq]; decide
theorem zipD_map {α β : Type} (f : α → D) (g : β → D) : ∀ (xs : List α) (ys : List β), zipD (xs.map f) (ys.map g) = (xs.zip ys).map fun q => .tuple [f q.1, g q.2]
  | [], _ => rfl
  | _ :: _, [] => rfl
  | x :: xs, y :: ys => by
    show PyData.tuple [f x, g y] :: zipD (xs.map f) (ys.map g) = _
    rw [zipD_map f g xs ys]
    rfl
theorem rng1_ok {bd : Bool} {ma : Sl → Option (List RV × Sl)} {ρ ρ1 : Sl} {n : Nat} (h : ma ρ = some ([.val (.int n)], ρ1)) (hn : n ≤ 100000) : mRng1 bd ma ρ = some (rangeD 0 n, ρ1) := by
  unfold mRng1
  rw [h]
  dsimp only
  rw [iteC_pos ⟨by omega, by omega, fun _ => by rw [sizeLine_eq]; omega⟩]
  rfl
theorem rng2_ok {bd : Bool} {ma : Sl → Option (List RV × Sl)} {ρ ρ1 : Sl} {lo hi : Int} (h : ma ρ = some ([.val (.int lo), .val (.int hi)], ρ1)) (h0 : 0 ≤ lo) (h1 : lo ≤ 100000) (h2 : 0 ≤ hi) (h3 : hi ≤ 100000) : mRng2 bd ma ρ = some (rangeD lo (hi - lo).toNat, ρ1) := by
  unfold mRng2
  rw [h]
  dsimp only
  rw [iteC_pos ⟨⟨by omega, by omega, by omega, by omega⟩, fun _ => by rw [sizeLine_eq]; omega⟩]
theorem rangeD_map (lo : Int) (n : Nat) : rangeD lo n = (List.range n).map fun (i : Nat) => .int (lo + i) := rfl
theorem add_int {a b : Int} : addD (.int a) (.int b) = some (.val (.int (a + b))) := rfl
local macro_rules | `(tactic| simp_arith [$ts,*]) => `(tactic| simp only [hide, add_int, ix0, ix1, ix2, ix3, ix4, eq_int, ne_int, eq_bool, ne_bool, Int.cast_ofNat_Int, Int.natCast_one, Int.ofNat_lt, Int.ofNat_le, lenD_list, lenD_tuple, sl4_5, small0, small1, small2, small3, small4, small5, List.length_map, mFn_v1, mFn_v2, mFn_v3, mFn_v4, mFn_v5, pad, List.map_cons, List.map_nil, List.length_cons, List.length_nil, List.cons_append, List.nil_append, mSeq, mIf, mTOr, mTAnd, mTNot, mB, mIsi, mIsi2, kit2, kitD, kit2D, mVar, mC, mRet, mNext, mAndV, mOrV, mNotV, mIsN, m2, m1, mCons, mNil, mCall, mSet, mUnp, mTup, mLst, mCold, mChain, mIfE, mSl, mPart, mNoPart, gTp, gsCons, gsNil, gNm, mDrop,
  slot_zero, slot_succ, rd, rdAll, cold, frz, ret, putR, tyD, leD, ltD, gtD, geD, cmpD, isnD, subD, negD, List.set_cons_zero, List.set_cons_succ, List.replicate_succ, List.replicate_zero, Nat.reduceAdd, Nat.reduceSub, Nat.reduceLT, Nat.reduceEqDiff, reduceIte, beq_self_eq_true, eq_self, decide_true, decide_false, Int.reduceEq, Int.reduceLT, Int.reduceLE, Bool.not_true, Bool.not_false, Bool.false_eq_true, Bool.true_and, Bool.and_true, Bool.false_and, Bool.and_false,
  kit_int_int, kit_int_bool, kit_int_str, kit_int_tuple, kit_int_list, kit_bool_int, kit_bool_bool, kit_bool_str, kit_bool_tuple, kit_bool_list, kit_str_int, kit_str_bool, kit_str_str, kit_str_tuple, kit_str_list, kit_tuple_int, kit_tuple_bool, kit_tuple_str, kit_tuple_tuple, kit_tuple_list, kit_list_int, kit_list_bool, kit_list_str, kit_list_tuple, kit_list_list, kit_NoneType_int, kit_NoneType_bool, kit_NoneType_str, kit_NoneType_tuple, kit_NoneType_list, $ts,*])
set_option Elab.async false
set_option linter.all false
set_option maxRecDepth 100000
set_option maxHeartbeats 1000000
open PySem PySem.Spec PyProof.Rows L2
/-! ### calls that change their first argument, an own object -/
def callW (n : Nat) (m : Sl → Option Fl) (o : OD) (ds : List D) : Option (RV × OD) := match m (pad n (.own (some 0) o :: ds.map .val)) with
  | some (.nx ρf) => (match slot ρf 0 with
    | .own (some 0) o' => some (.val .none, o')
    | _ => none)
  | some (.rt r ρf) => (match ret ρf r with
    | none => none
    | some r' => match slot ρf 0 with
      | .own (some 0) o' => some (r', o')
      | _ => none)
  | _ => none
theorem back_one (ρf ρ : Sl) (i : Nat) (ds : List D) : back ρf 0 (.sl i :: ds.map .val) ρ = match slot ρ i with
    | .own t _ => (match slot ρf 0 with
      | .own (some k) o => if k = 0 then some (ρ.set i (.own t o)) else none
      | _ => none)
    | _ => none := by
  unfold back
  cases slot ρ i with
  | own t o =>
    dsimp only
    cases slot ρf 0 with
    | own t' o' =>
      cases t' with
      | none => rfl
      | some k => dsimp only; rw [back_vals]
    | _ => rfl
  | _ => rfl
theorem mFn_w {k n i : Nat} {m : Sl → Option Fl} {ms : List Bool} {ma : Sl → Option (List RV × Sl)} {ρ : Sl} (h : ms = List.replicate k false) :
    mFn' (k + 1) n m (true :: ms) [] (mCons (mVar i) ma) ρ = match slot ρ i with
      | .own _ _ => (match mCold ma ρ with
        | none => none
        | some (ds, ρ1) => if ds.length = k then (match slot ρ1 i with
          | .own t o => (match callW n m o ds with
            | none => none
            | some (r, o') => some (r, ρ1.set i (.own t o')))
          | _ => none) else none)
      | _ => mFn' (k + 1) n m (true :: ms) [] (mCons (mVar i) ma) ρ := by
  cases hs : slot ρ i with
  | un => rfl
  | val d => rfl
  | own t0 o0 =>
    subst h
    dsimp only
    unfold mFn' mCold mCons mVar
    rw [hs]
    dsimp only
    cases ma ρ with
    | none => rfl
    | some p =>
      obtain ⟨rs, ρ1⟩ := p
      dsimp only
      rw [List.map_nil, List.append_nil]
      unfold mFnA
      have hf : frz (true :: List.replicate k false) (.sl i :: rs) ρ1 = match frz (List.replicate k false) rs ρ1 with
        | none => none
        | some (rs', ρ2) => some (.sl i :: rs', ρ2) := by
        first
          | (rw [frz]; done)
          | (rw [frz]; cases frz (List.replicate k false) rs ρ1 <;> rfl)
      rw [hf]
      by_cases hl : rs.length = k
      · rw [frz_vals_false rs k ρ1 hl]
        cases q : frz (rs.map fun _ => false) rs ρ1 with
        | none => rfl
        | some p2 =>
          obtain ⟨rs2, ρ2⟩ := p2
          obtain ⟨ds, e, e2⟩ := frz_false_vals rs rs2 ρ1 ρ2 q
          subst e
          dsimp only
          rw [rdAll_vals]
          dsimp only
          rw [if_pos (by rw [e2, hl])]
          cases h2 : slot ρ2 i with
          | un => simp [args, h2]
          | val d => simp [args, h2]
          | own t o =>
            have ea : args ρ2 0 (.sl i :: ds.map .val) = some (.own (some 0) o :: ds.map .val) := by
              unfold args
              rw [h2]
              dsimp only
              rw [args_vals]
            rw [ea]
            dsimp only
            have nm : names (.sl i :: ds.map RV.val) = [i] := by
              unfold names
              rw [names_vals]
            rw [nm, if_pos ⟨by simp [e2, hl], by simp⟩]
            unfold callW
            cases m (pad n (.own (some 0) o :: ds.map .val)) with
            | none => rfl
            | some f =>
              cases f with
              | nx ρf =>
                dsimp only
                rw [back_one, h2]
                dsimp only
                cases slot ρf 0 with
                | own t' o' =>
                  cases t' with
                  | none => rfl
                  | some k' => cases k' <;> rfl
                | _ => rfl
              | rt r ρf =>
                dsimp only
                cases ret ρf r with
                | none => rfl
                | some r' =>
                  dsimp only
                  rw [back_one, h2]
                  dsimp only
                  cases slot ρf 0 with
                  | own t' o' =>
                    cases t' with
                    | none => rfl
                    | some k' => cases k' <;> rfl
                  | _ => rfl
              | bk ρf => rfl
              | ct ρf => rfl
      · have h1 : frz (List.replicate k false) rs ρ1 = none := frz_len _ _ _ (by rw [List.length_replicate]; exact fun e => hl e.symm)
        rw [h1]
        cases q : frz (rs.map fun _ => false) rs ρ1 with
        | none => rfl
        | some p2 =>
          obtain ⟨rs2, ρ2⟩ := p2
          obtain ⟨ds, e, e2⟩ := frz_false_vals rs rs2 ρ1 ρ2 q
          subst e
          dsimp only
          rw [rdAll_vals]
          dsimp only
          rw [if_neg (by rw [e2]; exact hl)]
section
variable {n i : Nat} {m : Sl → Option Fl} {ma : Sl → Option (List RV × Sl)} {ρ : Sl}
theorem mFn_w1 : mFn' 1 n m [true] [] (mCons (mVar i) ma) ρ = match slot ρ i with
      | .own _ _ => (match mCold ma ρ with
        | none => none
        | some (ds, ρ1) => if ds.length = 0 then (match slot ρ1 i with
          | .own t o => (match callW n m o ds with
            | none => none
            | some (r, o') => some (r, ρ1.set i (.own t o')))
          | _ => none) else none)
      | _ => mFn' 1 n m [true] [] (mCons (mVar i) ma) ρ := mFn_w rfl
theorem mFn_w2 : mFn' 2 n m [true, false] [] (mCons (mVar i) ma) ρ = match slot ρ i with
      | .own _ _ => (match mCold ma ρ with
        | none => none
        | some (ds, ρ1) => if ds.length = 1 then (match slot ρ1 i with
          | .own t o => (match callW n m o ds with
            | none => none
            | some (r, o') => some (r, ρ1.set i (.own t o')))
          | _ => none) else none)
      | _ => mFn' 2 n m [true, false] [] (mCons (mVar i) ma) ρ := mFn_w rfl
theorem mFn_w3 : mFn' 3 n m [true, false, false] [] (mCons (mVar i) ma) ρ = match slot ρ i with
      | .own _ _ => (match mCold ma ρ with
        | none => none
        | some (ds, ρ1) => if ds.length = 2 then (match slot ρ1 i with
          | .own t o => (match callW n m o ds with
            | none => none
            | some (r, o') => some (r, ρ1.set i (.own t o')))
          | _ => none) else none)
      | _ => mFn' 3 n m [true, false, false] [] (mCons (mVar i) ma) ρ := mFn_w rfl
theorem mFn_w4 : mFn' 4 n m [true, false, false, false] [] (mCons (mVar i) ma) ρ = match slot ρ i with
      | .own _ _ => (match mCold ma ρ with
        | none => none
        | some (ds, ρ1) => if ds.length = 3 then (match slot ρ1 i with
          | .own t o => (match callW n m o ds with
            | none => none
            | some (r, o') => some (r, ρ1.set i (.own t o')))
          | _ => none) else none)
      | _ => mFn' 4 n m [true, false, false, false] [] (mCons (mVar i) ma) ρ := mFn_w rfl
theorem mFn_w5 : mFn' 5 n m [true, false, false, false, false] [] (mCons (mVar i) ma) ρ = match slot ρ i with
      | .own _ _ => (match mCold ma ρ with
        | none => none
        | some (ds, ρ1) => if ds.length = 4 then (match slot ρ1 i with
          | .own t o => (match callW n m o ds with
            | none => none
            | some (r, o') => some (r, ρ1.set i (.own t o')))
          | _ => none) else none)
      | _ => mFn' 5 n m [true, false, false, false, false] [] (mCons (mVar i) ma) ρ := mFn_w rfl
end

/-! ### statements, by what holds behind them -/
def WS (m : Sl → Option Fl) (ρ : Sl) (Q : Fl → Prop) : Prop := ∃ f, m ρ = some f ∧ Q f
section
variable {a b : Sl → Option Fl} {c : Sl → Option (Bool × Sl)} {e : Sl → Option (RV × Sl)} {ρ ρ1 ρ2 : Sl} {r : RV} {i : Nat} {Q Q' : Fl → Prop}
theorem WS.imp (h : WS a ρ Q) (k : ∀ f, Q f → Q' f) : WS a ρ Q' := let ⟨f, h1, h2⟩ := h; ⟨f, h1, k f h2⟩
theorem WS.nxI {P : Sl → Prop} (h : WS a ρ fun f => match f with
    | .nx ρ' => P ρ'
    | _ => False) (k : ∀ ρ', P ρ' → Q (.nx ρ')) : WS a ρ Q := h.imp fun f hf => by
  cases f with
  | nx ρ' => exact k ρ' hf
  | _ => exact hf.elim
theorem WS.seq (h : WS a ρ fun f => match f with
    | .nx ρ' => WS b ρ' Q
    | f => Q f) : WS (mSeq a b) ρ Q := by
  obtain ⟨f, h1, h2⟩ := h
  unfold WS mSeq
  rw [h1]
  cases f with
  | nx ρ' => exact h2
  | rt r ρ' => exact ⟨_, rfl, h2⟩
  | bk ρ' => exact ⟨_, rfl, h2⟩
  | ct ρ' => exact ⟨_, rfl, h2⟩
/-- a statement whose end is known -/
theorem WS.go (h : a ρ = some (.nx ρ1)) (k : WS b ρ1 Q) : WS (mSeq a b) ρ Q := WS.seq ⟨_, h, k⟩
theorem WS.leave (h : a ρ = some (.rt r ρ1)) (k : Q (.rt r ρ1)) : WS (mSeq a b) ρ Q := WS.seq ⟨_, h, k⟩
theorem WS.set (h : e ρ = some (r, ρ1)) (p : putR i r ρ1 = some ρ2) (k : Q (.nx ρ2)) : WS (mSet i e) ρ Q := ⟨.nx ρ2, by unfold mSet; rw [h]; dsimp only; rw [p], k⟩
theorem WS.setK (h : e ρ = some (r, ρ1)) (p : putR i r ρ1 = some ρ2) (k : WS b ρ2 Q) : WS (mSeq (mSet i e) b) ρ Q := WS.seq (WS.set h p k)
theorem WS.ret (h : e ρ = some (r, ρ1)) (k : Q (.rt r ρ1)) : WS (mRet e) ρ Q := ⟨.rt r ρ1, by unfold mRet; rw [h], k⟩
theorem WS.drop (h : e ρ = some (r, ρ1)) (k : Q (.nx ρ1)) : WS (mDrop e) ρ Q := ⟨.nx ρ1, by unfold mDrop; rw [h], k⟩
theorem WS.next (k : Q (.nx ρ)) : WS mNext ρ Q := ⟨_, rfl, k⟩
theorem WS.if_ {t : Bool} (h : c ρ = some (t, ρ1)) (k : WS (bif t then a else b) ρ1 Q) : WS (mIf c a b) ρ Q := by
  obtain ⟨f, h1, h2⟩ := k
  refine ⟨f, ?_, h2⟩
  unfold mIf
  rw [h]
  cases t <;> exact h1
theorem WS.ifT (h : c ρ = some (true, ρ1)) (k : WS a ρ1 Q) : WS (mIf c a b) ρ Q := WS.if_ h k
theorem WS.ifF (h : c ρ = some (false, ρ1)) (k : WS b ρ1 Q) : WS (mIf c a b) ρ Q := WS.if_ h k
theorem WS.ifB {t : Bool} (h : c ρ = some (t, ρ1)) (k1 : t = true → WS a ρ1 Q) (k2 : t = false → WS b ρ1 Q) : WS (mIf c a b) ρ Q := by
  refine WS.if_ h ?_
  cases t with
  | true => exact k1 rfl
  | false => exact k2 rfl
/-- a loop: Iv j behind j items; what is left early is Q -/
theorem WS.for_ {α : Type} {mi : Sl → Option (List D × Sl)} {g : D → Sl → Option Sl} {enc : α → D} {xs : List α} (hi : mi ρ = some (xs.map enc, ρ1)) (Iv : Nat → Sl → Prop) (h0 : Iv 0 ρ1)
    (h : ∀ (j : Nat) (x : α) (ρ' : Sl), xs[j]? = some x → Iv j ρ' → ∃ ρa, g (enc x) ρ' = some ρa ∧ WS b ρa fun f => match f with
      | .nx ρb => Iv (j + 1) ρb
      | .ct ρb => Iv (j + 1) ρb
      | .bk ρb => Q (.nx ρb)
      | f => Q f) (hF : ∀ ρF, Iv xs.length ρF → Q (.nx ρF)) : WS (mFor mi g b) ρ Q := by
  unfold WS mFor
  rw [hi]
  dsimp only
  have gen : ∀ (ys : List α) (j : Nat) (ρ' : Sl), j ≤ xs.length → xs.drop j = ys → Iv j ρ' → ∃ f, forL g b (ys.map enc) ρ' = some f ∧ Q f := by
    intro ys
    induction ys with
    | nil =>
      intro j ρ' hle hd iv
      refine ⟨_, rfl, ?_⟩
      have hj : xs.length ≤ j := by
        have := congrArg List.length hd
        rw [List.length_drop, List.length_nil] at this
        omega
      exact hF _ (by rw [show xs.length = j by omega]; exact iv)
    | cons y ys ih =>
      intro j ρ' hle hd iv
      have hj : j < xs.length := by
        rcases Nat.lt_or_ge j xs.length with q | q
        · exact q
        · rw [List.drop_eq_nil_of_le q] at hd; cases hd
      rw [List.drop_eq_getElem_cons hj] at hd
      injection hd with e1 e2
      obtain ⟨ρa, q1, f, q2, q3⟩ := h j y ρ' (by rw [List.getElem?_eq_getElem hj, e1]) iv
      rw [List.map_cons]
      unfold forL
      rw [q1]
      dsimp only
      rw [q2]
      cases f with
      | nx ρb => exact ih (j + 1) ρb (by omega) e2 q3
      | ct ρb => exact ih (j + 1) ρb (by omega) e2 q3
      | bk ρb => exact ⟨_, rfl, q3⟩
      | rt r ρb => exact ⟨_, rfl, q3⟩
  exact gen xs 0 ρ1 (Nat.zero_le _) rfl h0
/-- a while: Iv k ρ ahead of a turn with k turns left at most -/
theorem WS.while_ (Iv : Nat → Sl → Prop) (k : Nat) (hk : k < fuel) (h0 : Iv k ρ)
    (h : ∀ k ρ', Iv k ρ' → (∃ ρ1, c ρ' = some (false, ρ1) ∧ Q (.nx ρ1)) ∨ ∃ k' ρ1, k = k' + 1 ∧ c ρ' = some (true, ρ1) ∧ WS a ρ1 fun f => match f with
      | .nx ρb => Iv k' ρb
      | .ct ρb => Iv k' ρb
      | .bk ρb => Q (.nx ρb)
      | f => Q f) : WS (mWhile c a) ρ Q := by
  have gen : ∀ (n k : Nat) (ρ' : Sl), k < n → Iv k ρ' → ∃ f, whileL c a n ρ' = some f ∧ Q f := by
    intro n
    induction n with
    | zero => intro k ρ' hk; omega
    | succ n ih =>
      intro k ρ' hk iv
      unfold whileL
      rcases h k ρ' iv with ⟨ρ1, e1, q⟩ | ⟨k', ρ1, rfl, e1, f, e2, q⟩
      · rw [e1]; exact ⟨_, rfl, q⟩
      · rw [e1]
        dsimp only
        rw [e2]
        cases f with
        | nx ρb => exact ih k' ρb (by omega) q
        | ct ρb => exact ih k' ρb (by omega) q
        | bk ρb => exact ⟨_, rfl, q⟩
        | rt r ρb => exact ⟨_, rfl, q⟩
  exact gen fuel k ρ hk h0
end
theorem set_same_twice {ρ : Sl} {v : Nat} {a b : SV} : (ρ.set v a).set v b = ρ.set v b := by
  apply List.ext_getElem?
  intro i
  by_cases h : v = i
  · subst h; simp [List.getElem?_set]
  · simp [List.getElem?_set, h]
theorem set_comm' {ρ : Sl} {v u : Nat} {a b : SV} (h : v ≠ u) : (ρ.set v a).set u b = (ρ.set u b).set v a := List.set_comm _ _ h
theorem mix_hide {ρ1 ρ2 : Sl} (hl : ρ1.length = ρ2.length) (vs : List Nat) : mix ρ1 ρ2 vs = mix ρ1 (hide ρ2 vs) vs := by
  refine sl_ext (by rw [mix_len, mix_len, hide_len]) fun i => ?_
  rw [slot_mix hl, slot_mix (by rw [hide_len]; exact hl), slot_hide]
  split <;> rfl
/-- a comprehension: Iv j acc ρ behind j items, the own slots hidden -/
theorem lc_rel {α : Type} {vs : List Nat} {mi : Sl → Option (List D × Sl)} {g : D → Sl → Option Sl} {t : Sl → Option (Bool × Sl)} {e : Sl → Option (RV × Sl)} {enc : α → D} {ρ ρ1 : Sl} {xs : List α} (Iv : Nat → List D → Sl → Prop) (hi : mi ρ = some (xs.map enc, ρ1)) (h0 : Iv 0 [] (hide ρ1 vs))
    (hlen : ∀ j acc ρ', Iv j acc ρ' → ρ'.length = ρ1.length)
    (h : ∀ j x acc ρh, xs[j]? = some x → Iv j acc ρh → ∃ ρa b ρt, g (enc x) ρh = some ρa ∧ t ρa = some (b, ρt) ∧ (b = false → Iv (j + 1) acc (hide ρt vs)) ∧ (b = true → ∃ r ρb d ρc, e ρt = some (r, ρb) ∧ cold r ρb = some (d, ρc) ∧ Iv (j + 1) (acc ++ [d]) (hide ρc vs))) :
    ∃ acc ρh, mLc vs mi g t e ρ = some (.tmp (.lst acc), mix ρ1 ρh vs) ∧ Iv xs.length acc ρh := by
  have gen : ∀ (ys : List α) (j : Nat) (acc : List D) (ρ' : Sl), j ≤ xs.length → xs.drop j = ys → Iv j acc (hide ρ' vs) → ∃ acc2 ρ2, lcL vs g t e (ys.map enc) acc ρ' = some (acc2, ρ2) ∧ Iv xs.length acc2 (hide ρ2 vs) := by
    intro ys
    induction ys with
    | nil =>
      intro j acc ρ' hle hd iv
      have hj : xs.length ≤ j := by
        have := congrArg List.length hd
        rw [List.length_drop, List.length_nil] at this
        omega
      exact ⟨acc, ρ', rfl, by rw [show xs.length = j by omega]; exact iv⟩
    | cons y ys ih =>
      intro j acc ρ' hle hd iv
      have hj : j < xs.length := by
        rcases Nat.lt_or_ge j xs.length with q | q
        · exact q
        · rw [List.drop_eq_nil_of_le q] at hd; cases hd
      rw [List.drop_eq_getElem_cons hj] at hd
      injection hd with e1 e2
      obtain ⟨ρa, b, ρt, q1, q2, q3, q4⟩ := h j y acc _ (by rw [List.getElem?_eq_getElem hj, e1]) iv
      rw [List.map_cons]
      unfold lcL
      rw [q1]
      dsimp only
      rw [q2]
      cases b with
      | false => exact ih (j + 1) acc ρt (by omega) e2 (q3 rfl)
      | true =>
        obtain ⟨r, ρb, d, ρc, z1, z2, z3⟩ := q4 rfl
        dsimp only
        rw [z1]
        dsimp only
        rw [z2]
        exact ih (j + 1) (acc ++ [d]) ρc (by omega) e2 z3
  obtain ⟨acc, ρ2, e1, e2⟩ := gen xs 0 [] ρ1 (Nat.zero_le _) rfl h0
  refine ⟨acc, hide ρ2 vs, ?_, e2⟩
  unfold mLc
  rw [hi]
  dsimp only
  rw [e1]
  dsimp only
  rw [← mix_hide]
  have := hlen _ _ _ e2
  rw [hide_len] at this
  exact this.symm
theorem callV_of {n : Nat} {m : Sl → Option Fl} {ds : List D} {Q : RV → Prop} (h : WS m (pad n (ds.map .val)) fun f => match f with
    | .nx _ => Q (.val .none)
    | .rt r ρf => ∃ r', ret ρf r = some r' ∧ Q r'
    | _ => False) : ∃ r, callV n m ds = some r ∧ Q r := by
  obtain ⟨f, h1, h2⟩ := h
  unfold callV
  rw [h1]
  cases f with
  | nx ρf => exact ⟨_, rfl, h2⟩
  | rt r ρf => exact h2
  | bk ρf => exact h2.elim
  | ct ρf => exact h2.elim
theorem callV_eq {n : Nat} {m : Sl → Option Fl} {ds : List D} {rv : RV} (h : WS m (pad n (ds.map .val)) fun f => match f with
    | .nx _ => RV.val .none = rv
    | .rt r ρf => ret ρf r = some rv
    | _ => False) : callV n m ds = some rv := by
  obtain ⟨f, h1, h2⟩ := h
  unfold callV
  rw [h1]
  cases f with
  | nx ρf => exact congrArg some h2
  | rt r ρf => exact h2
  | bk ρf => exact h2.elim
  | ct ρf => exact h2.elim
theorem callW_of {n : Nat} {m : Sl → Option Fl} {o : OD} {ds : List D} {Q : RV → OD → Prop} (h : WS m (pad n (.own (some 0) o :: ds.map .val)) fun f => match f with
    | .nx ρf => ∃ o', slot ρf 0 = .own (some 0) o' ∧ Q (.val .none) o'
    | .rt r ρf => ∃ r' o', ret ρf r = some r' ∧ slot ρf 0 = .own (some 0) o' ∧ Q r' o'
    | _ => False) : ∃ r o', callW n m o ds = some (r, o') ∧ Q r o' := by
  obtain ⟨f, h1, h2⟩ := h
  unfold callW
  rw [h1]
  cases f with
  | nx ρf => obtain ⟨o', e, q⟩ := h2; dsimp only; rw [e]; exact ⟨_, _, rfl, q⟩
  | rt r ρf => obtain ⟨r', o', e1, e2, q⟩ := h2; dsimp only; rw [e1]; dsimp only; rw [e2]; exact ⟨_, _, rfl, q⟩
  | bk ρf => exact h2.elim
  | ct ρf => exact h2.elim
theorem small6 : (6 ≤ sizeLine) = True := by rw [sizeLine_eq]; decide
theorem small7 : (7 ≤ sizeLine) = True := by rw [sizeLine_eq]; decide
theorem small8 : (8 ≤ sizeLine) = True := by rw [sizeLine_eq]; decide
theorem small9 : (9 ≤ sizeLine) = True := by rw [sizeLine_eq]; decide
theorem small10 : (10 ≤ sizeLine) = True := by rw [sizeLine_eq]; decide
theorem small11 : (11 ≤ sizeLine) = True := by rw [sizeLine_eq]; decide
theorem small12 : (12 ≤ sizeLine) = True := by rw [sizeLine_eq]; decide
theorem small13 : (13 ≤ sizeLine) = True := by rw [sizeLine_eq]; decide
theorem small14 : (14 ≤ sizeLine) = True := by rw [sizeLine_eq]; decide
theorem small15 : (15 ≤ sizeLine) = True := by rw [sizeLine_eq]; decide
theorem small16 : (16 ≤ sizeLine) = True := by rw [sizeLine_eq]; decide
local macro_rules | `(tactic| simp_all_arith [$ts,*]) => `(tactic| simp_arith [mFn_w1, mFn_w2, mFn_w3, mFn_w4, mFn_w5, mOwnL, mSetIx, mPar2, mPar3, cool, mMeth, isTy, mLenSet, mItA, itemsD, mEnum, mFor, small6, small7, small8, small9, small10, small11, small12, small13, small14, small15, small16, $ts,*])
set_option Elab.async false
set_option linter.all false
set_option maxRecDepth 100000
set_option maxHeartbeats 4000000
open PySem PySem.Spec PyProof.Rows L2
noncomputable section
/-- the body of a def keeps its plain function -/
def BodyOk (P : Program) (w : World) (K : PySem.W.Frag) (mg : Str → Option Value) (base : Heap) (N : List Str) (k : Nat) (x : Str) (st : Stmt) (m : Sl → Option Fl) : Prop :=
  ∀ (f : Addr) (cdv : Value) (A : Around) (outer : List PySem.Env) (s : Shared) (H : Hp) (E : XK), Room k (A.deeper (envOfC x (defScope st) s.heap.objs.size f cdv)) → EvSs (cxOf CX0 P w K mg base N x (defScope st) f cdv A outer s H E).nox (defBody st) m
def top (i : Nat) : Stmt := PySem.Challenge.pw_sourcelabels_k66_whole_paths_forced_by_s.main.body.getD i (.Pass ⟨0, 0, 0, 0⟩)

structure Z (K : PySem.W.Frag) (mg : Str → Option Value) : Prop where
  f_is_integer : Stands K mg "is_integer" (top 10)
  f_are_letters : Stands K mg "are_letters" (top 11)
  f_written_letters : Stands K mg "written_letters" (top 12)
  f_is_name : Stands K mg "is_name" (top 16)
  f_is_person : Stands K mg "is_person" (top 17)
  f_is_title : Stands K mg "is_title" (top 18)
  f_are_people : Stands K mg "are_people" (top 19)
  f_is_source : Stands K mg "is_source" (top 20)
  f_is_library : Stands K mg "is_library" (top 21)
  f_check_source : Stands K mg "check_source" (top 22)
  f_check_library : Stands K mg "check_library" (top 23)
  f_check_index : Stands K mg "check_index" (top 24)
  f_is_part : Stands K mg "is_part" (top 28)
  f_is_pair : Stands K mg "is_pair" (top 29)
  f_is_label : Stands K mg "is_label" (top 30)
  f_check_label : Stands K mg "check_label" (top 31)
  f_part_fits : Stands K mg "part_fits" (top 32)
  f_part_within : Stands K mg "part_within" (top 33)
  f_fits_source : Stands K mg "fits_source" (top 34)
  f_number_within : Stands K mg "number_within" (top 35)
  f_is_narrower : Stands K mg "is_narrower" (top 36)
  f_fresh_given : Stands K mg "fresh_given" (top 37)
  f_source_outside : Stands K mg "source_outside" (top 38)
  f_outside : Stands K mg "outside" (top 39)
  f_are_steps : Stands K mg "are_steps" (top 49)
  f_is_style : Stands K mg "is_style" (top 50)
  f_check_style : Stands K mg "check_style" (top 51)
  f_first_state : Stands K mg "first_state" (top 52)
  f_states_behind : Stands K mg "states_behind" (top 53)
  f_states_of : Stands K mg "states_of" (top 54)
  f_shown_state : Stands K mg "shown_state" (top 55)
  f_part_by : Stands K mg "part_by" (top 56)
  f_label_by : Stands K mg "label_by" (top 57)
  f_seen_states : Stands K mg "seen_states" (top 58)
  f_path_of : Stands K mg "path_of" (top 59)
  f_path : Stands K mg "path" (top 60)
  f_need_in : Stands K mg "need_in" (top 62)
  f_as_number : Stands K mg "as_number" (top 63)
  f_needs_in : Stands K mg "needs_in" (top 64)
  f_place_in : Stands K mg "place_in" (top 65)
  f_plain_label : Stands K mg "plain_label" (top 66)
  f_with_letters : Stands K mg "with_letters" (top 67)
  f_all_labels : Stands K mg "all_labels" (top 68)
  f_label_at : Stands K mg "label_at" (top 69)
  f_check_place : Stands K mg "check_place" (top 70)
  f_need : Stands K mg "need" (top 71)
  f_place_of : Stands K mg "place_of" (top 72)
  f_label_of : Stands K mg "label_of" (top 73)
  f_labels : Stands K mg "labels" (top 74)
  f_reason : Stands K mg "reason" (top 75)
  f__law_well : Stands K mg "_law_well" (top 77)
  f__law_draw : Stands K mg "_law_draw" (top 78)
  f__law_same : Stands K mg "_law_same" (top 79)
  f__law_drawn : Stands K mg "_law_drawn" (top 80)
  f__law_person : Stands K mg "_law_person" (top 81)
  f__law_source : Stands K mg "_law_source" (top 82)
  f__law_rules : Stands K mg "_law_rules" (top 83)
  f__law_fits : Stands K mg "_law_fits" (top 84)
  f__law_forced : Stands K mg "_law_forced" (top 85)
  f__law_lettered : Stands K mg "_law_lettered" (top 86)
  f__law_several : Stands K mg "_law_several" (top 87)
  f__law_right : Stands K mg "_law_right" (top 88)
  f_law : Stands K mg "law" (top 89)
  b_ValueError : mg "ValueError" = none
  b_abs : mg "abs" = none
  b_all : mg "all" = none
  b_bool : mg "bool" = none
  b_enumerate : mg "enumerate" = none
  b_int : mg "int" = none
  b_isinstance : mg "isinstance" = none
  b_len : mg "len" = none
  b_list : mg "list" = none
  b_max : mg "max" = none
  b_min : mg "min" = none
  b_range : mg "range" = none
  b_set : mg "set" = none
  b_sorted : mg "sorted" = none
  b_str : mg "str" = none
  b_tuple : mg "tuple" = none
  b_zip : mg "zip" = none
  c_LETTERS : ∃ t, mg "LETTERS" = some (.str "abcdefghijklmnopqrstuvwxyz" t)
  c_LONGEST_NAME : ∃ t, mg "LONGEST_NAME" = some (.int 12 t)
  c_LONGEST_TITLE : ∃ t, mg "LONGEST_TITLE" = some (.int 40 t)
  c_POINT : ∃ t, mg "POINT" = some (.str "." t)
  c_FRESH : ∃ a, mg "FRESH" = some (.ref a) ∧ ∀ H, SqT K H a [.str "a", .str "b"]
  c_NAMES : ∃ t, mg "NAMES" = some (.str "names" t)
  c_ALL : ∃ t, mg "ALL" = some (.str "all" t)
  c_FIRST_INITIAL : ∃ t, mg "FIRST_INITIAL" = some (.str "first initial" t)
  c_INITIALS : ∃ t, mg "INITIALS" = some (.str "initials" t)
  c_FIRST_GIVEN : ∃ t, mg "FIRST_GIVEN" = some (.str "first given" t)
  c_GIVEN : ∃ t, mg "GIVEN" = some (.str "given" t)
  c_TITLE : ∃ t, mg "TITLE" = some (.str "title" t)
  c_STEPS : ∃ a, mg "STEPS" = some (.ref a) ∧ ∀ H, SqT K H a [.str "names", .str "all", .str "first initial", .str "initials", .str "first given", .str "given", .str "title"]
section
variable {P : Program} {w : World} {K : PySem.W.Frag} {mg : Str → Option Value} {base : Heap}
abbrev s_is_integer : Stmt := top 10
abbrev N_is_integer : List Str := ["value", "least", "most"]
theorem sc_is_integer : FnScope N_is_integer ["value", "least", "most"] (defScope s_is_integer) := ⟨rfl, rfl, rfl, by decide +kernel, rfl, by decide +kernel, by decide +kernel⟩
def m_is_integer : Sl → Option Fl := mSeq (mIf (mTOr (mTNot (mB (mIsi "int" (mVar 0)))) (mB (mIsi "bool" (mVar 0)))) (mRet (mC (.bool false))) (mNext)) (mRet (mAndV (m2 leD (mVar 1) (mVar 0)) (mOrV (mIsN false (mVar 2)) (m2 leD (mVar 0) (mVar 2)))))
theorem c_is_integer (z : Z K mg) : Cal P w K mg base 2 "is_integer" ["value", "least", "most"] 3 3 m_is_integer :=
  cal_mk z.f_is_integer sc_is_integer rfl rfl (fun _ _ _ _ _ _ us hl => match us, hl with | [_, _, _], _ => rfl) fun f cdv A outer s H E hr =>
    es_cons (es_if ((ew_or (et_not (et_val (ev_isi (Ts := "int") (by rfl) z.b_isinstance (by rfl) z.b_int (by decide +kernel) (ev_var (pv 0))))) (ew_or1 (et_val (ev_isi (Ts := "bool") (by rfl) z.b_isinstance (by rfl) z.b_bool (by decide +kernel) (ev_var (pv 0)))))).t) (es_one (es_ret (ev_bl))) (es_nil)) (es_one (es_ret (ev_andV (ev_cmp (op_le) od_cmp (ev_var (pv 1)) (ev_var (pv 0)) (nomark _)) (ev_one (ev_orV (ev_isN (ev_var (pv 2))) (ev_one (ev_cmp (op_le) od_cmp (ev_var (pv 0)) (ev_var (pv 2)) (nomark _))))))))
abbrev s_are_letters : Stmt := top 11
abbrev N_are_letters : List Str := ["value", "sign"]
theorem sc_are_letters : FnScope N_are_letters ["value"] (defScope s_are_letters) := ⟨rfl, rfl, rfl, by decide +kernel, rfl, by decide +kernel, by decide +kernel⟩
def m_are_letters : Sl → Option Fl := mRet (mAndV (mIsi "str" (mVar 0)) (mCall allD (mCons (mLc [1] (mItA (mVar 0)) (gNm 1) (mYes) (m2 (inA false) (mVar 1) (mC (.str "abcdefghijklmnopqrstuvwxyz")))) (mNil))))
theorem c_are_letters (z : Z K mg) : Cal P w K mg base 2 "are_letters" ["value"] 1 2 m_are_letters :=
  cal_mk z.f_are_letters sc_are_letters rfl rfl (fun _ _ _ _ _ _ us hl => match us, hl with | [_], _ => rfl) fun f cdv A outer s H E hr =>
    es_one (es_ret (ev_andV (ev_isi (Ts := "str") (by rfl) z.b_isinstance (by rfl) z.b_str (by decide +kernel) (ev_var (pv 0))) (ev_one (ev_callB (cr_all rfl) cd_all (by rfl) z.b_all (by decide +kernel) (ea_cons (ev_lc (own := [("sign", 1)]) rfl sc_are_letters.nd (ei_any (ev_var (pv 0))) (blkOk_by (N := N_are_letters) (sc := defScope s_are_letters) (by decide +kernel)) (by decide) (fun _ _ _ _ _ => eg_nm (pg_name (i := 1) sc_are_letters.nd rfl (.inl rfl))) (fun _ _ _ _ _ => ets_nil) (fun _ _ _ _ _ => ev_cmp (op_inA (hu65 hr)) od_in (ev_var (pv 1)) (ev_gstr (by rfl) z.c_LETTERS) (by with_unfolding_all rfl))) (ea_nil))))))
abbrev s_written_letters : Stmt := top 12
abbrev N_written_letters : List Str := ["number", "found", "left"]
theorem sc_written_letters : FnScope N_written_letters ["number"] (defScope s_written_letters) := ⟨rfl, rfl, rfl, by decide +kernel, rfl, by decide +kernel, by decide +kernel⟩
def m_written_letters : Sl → Option Fl := mSeq (mSet 1 (mC (.str ""))) (mSeq (mSet 2 (m2 addD (mVar 0) (mC (.int 1)))) (mSeq (mWhile (mB (m2 gtD (mVar 2) (mC (.int 0)))) (mSeq (mSet 2 (m2 subD (mVar 2) (mC (.int 1)))) (mSeq (mSet 1 (m2 addD (m2 ixD (mC (.str "abcdefghijklmnopqrstuvwxyz")) (m2 modD (mVar 2) (mC (.int 26)))) (mVar 1))) (mSet 2 (m2 divD (mVar 2) (mC (.int 26))))))) (mRet (mVar 1))))
theorem c_written_letters (z : Z K mg) : Cal P w K mg base 2 "written_letters" ["number"] 1 3 m_written_letters :=
  cal_mk z.f_written_letters sc_written_letters rfl rfl (fun _ _ _ _ _ _ us hl => match us, hl with | [_], _ => rfl) fun f cdv A outer s H E hr =>
    es_cons (es_set (i := 1) sc_written_letters.nd rfl (.inl rfl) (ev_str)) (es_cons (es_set (i := 2) sc_written_letters.nd rfl (.inl rfl) (ev_bin op_addA od_add (ev_var (pv 0)) (ev_int))) (es_cons (es_while PassesOwn.never (et_cmp (op_gt) od_cmp (ev_var (pv 2)) (ev_int) (nomark _)) (es_cons (es_set (i := 2) sc_written_letters.nd rfl (.inl rfl) (ev_bin op_sub od_sub (ev_var (pv 2)) (ev_int))) (es_cons (es_set (i := 1) sc_written_letters.nd rfl (.inl rfl) (ev_bin op_addA od_add (ev_sub ix_seq od_ix (ev_gstr (by rfl) z.c_LETTERS) (ev_bin op_mod od_mod (ev_var (pv 2)) (ev_int)) (fun _ _ => rfl)) (ev_var (pv 1)))) (es_one (es_set (i := 2) sc_written_letters.nd rfl (.inl rfl) (ev_bin op_fdivW od_div (ev_var (pv 2)) (ev_int))))))) (es_one (es_ret (ev_var (pv 1))))))
abbrev s_is_name : Stmt := top 16
abbrev N_is_name : List Str := ["value"]
theorem sc_is_name : FnScope N_is_name ["value"] (defScope s_is_name) := ⟨rfl, rfl, rfl, by decide +kernel, rfl, by decide +kernel, by decide +kernel⟩
def m_is_name : Sl → Option Fl := mRet (mAndV (mFn' 1 2 m_are_letters [false] [] (mCons (mVar 0) (mNil))) (mChain leD leD (mC (.int 1)) (mCall lenD (mCons (mVar 0) (mNil))) (mC (.int 12))))
theorem c_is_name (z : Z K mg) : Cal P w K mg base 3 "is_name" ["value"] 1 1 m_is_name :=
  cal_mk z.f_is_name sc_is_name rfl rfl (fun _ _ _ _ _ _ us hl => match us, hl with | [_], _ => rfl) fun f cdv A outer s H E hr =>
    es_one (es_ret (ev_andV (ev_call [false] (c_are_letters z) (hr.mono (by decide)) (by rfl) (ea_cons (ev_var (pv 0)) (ea_nil))) (ev_one (ev_chain (op_le) od_cmp (op_le) od_cmp (ev_int) (ev_callB call_lenA cd_len (by rfl) z.b_len PySem.boot_len (ea_cons (ev_var (pv 0)) (ea_nil))) (ev_gint (by rfl) z.c_LONGEST_NAME)))))
abbrev s_is_person : Stmt := top 17
abbrev N_is_person : List Str := ["value"]
theorem sc_is_person : FnScope N_is_person ["value"] (defScope s_is_person) := ⟨rfl, rfl, rfl, by decide +kernel, rfl, by decide +kernel, by decide +kernel⟩
def m_is_person : Sl → Option Fl := mRet (mAndV (mIsi "tuple" (mVar 0)) (mAndV (m2 eqD (mCall lenD (mCons (mVar 0) (mNil))) (mC (.int 2))) (mAndV (mFn' 1 1 m_is_name [false] [] (mCons (m2 ixD (mVar 0) (mC (.int 0))) (mNil))) (mFn' 1 1 m_is_name [false] [] (mCons (m2 ixD (mVar 0) (mC (.int 1))) (mNil))))))
theorem c_is_person (z : Z K mg) : Cal P w K mg base 4 "is_person" ["value"] 1 1 m_is_person :=
  cal_mk z.f_is_person sc_is_person rfl rfl (fun _ _ _ _ _ _ us hl => match us, hl with | [_], _ => rfl) fun f cdv A outer s H E hr =>
    es_one (es_ret (ev_andV (ev_isi (Ts := "tuple") (by rfl) z.b_isinstance (by rfl) z.b_tuple (by decide +kernel) (ev_var (pv 0))) (ev_andV (ev_cmp (op_eqD (hu64 hr)) od_eq (ev_callB call_lenA cd_len (by rfl) z.b_len PySem.boot_len (ea_cons (ev_var (pv 0)) (ea_nil))) (ev_int) (nomark _)) (ev_andV (ev_call [false] (c_is_name z) (hr.mono (by decide)) (by rfl) (ea_cons (ev_sub ix_seq od_ix (ev_var (pv 0)) (ev_int) (fun _ _ => rfl)) (ea_nil))) (ev_one (ev_call [false] (c_is_name z) (hr.mono (by decide)) (by rfl) (ea_cons (ev_sub ix_seq od_ix (ev_var (pv 0)) (ev_int) (fun _ _ => rfl)) (ea_nil))))))))
abbrev s_is_title : Stmt := top 18
abbrev N_is_title : List Str := ["value", "word"]
theorem sc_is_title : FnScope N_is_title ["value"] (defScope s_is_title) := ⟨rfl, rfl, rfl, by decide +kernel, rfl, by decide +kernel, by decide +kernel⟩
def m_is_title : Sl → Option Fl := mSeq (mIf (mTOr (mTNot (mB (mIsi "str" (mVar 0)))) (mTNot (mB (mChain leD leD (mC (.int 1)) (mCall lenD (mCons (mVar 0) (mNil))) (mC (.int 40)))))) (mRet (mC (.bool false))) (mNext)) (mRet (mCall allD (mCons (mLc [1] (mItA (mMeth "str" splitD (mVar 0) (mCons (mC (.str " ")) (mNil)))) (gNm 1) (mYes) (mAndV (m2 neD (mVar 1) (mC (.str ""))) (mFn' 1 2 m_are_letters [false] [] (mCons (mVar 1) (mNil))))) (mNil))))
theorem c_is_title (z : Z K mg) : Cal P w K mg base 3 "is_title" ["value"] 1 2 m_is_title :=
  cal_mk z.f_is_title sc_is_title rfl rfl (fun _ _ _ _ _ _ us hl => match us, hl with | [_], _ => rfl) fun f cdv A outer s H E hr =>
    es_cons (es_if ((ew_or (et_not (et_val (ev_isi (Ts := "str") (by rfl) z.b_isinstance (by rfl) z.b_str (by decide +kernel) (ev_var (pv 0))))) (ew_or1 (et_not (et_chain (op_le) od_cmp (op_le) od_cmp (ev_int) (ev_callB call_lenA cd_len (by rfl) z.b_len PySem.boot_len (ea_cons (ev_var (pv 0)) (ea_nil))) (ev_gint (by rfl) z.c_LONGEST_TITLE))))).t) (es_one (es_ret (ev_bl))) (es_nil)) (es_one (es_ret (ev_callB (cr_all rfl) cd_all (by rfl) z.b_all (by decide +kernel) (ea_cons (ev_lc (own := [("word", 1)]) rfl sc_is_title.nd (ei_any (ev_meth PySem.F.plainAttrs_str PySem.F.slot_str_split PySem.F.type_str_split mt_split md_split (ev_var (pv 0)) (ea_cons (ev_str) (ea_nil)))) (blkOk_by (N := N_is_title) (sc := defScope s_is_title) (by decide +kernel)) (by decide) (fun _ _ _ _ _ => eg_nm (pg_name (i := 1) sc_is_title.nd rfl (.inl rfl))) (fun _ _ _ _ _ => ets_nil) (fun _ _ _ _ _ => ev_andV (ev_cmp (op_neD (hu64 hr)) od_ne (ev_var (pv 1)) (ev_str) (nomark _)) (ev_one (ev_call [false] (c_are_letters z) (hr.mono (by decide)) (by rfl) (ea_cons (ev_var (pv 1)) (ea_nil)))))) (ea_nil)))))
abbrev s_are_people : Stmt := top 19
abbrev N_are_people : List Str := ["value", "person"]
theorem sc_are_people : FnScope N_are_people ["value"] (defScope s_are_people) := ⟨rfl, rfl, rfl, by decide +kernel, rfl, by decide +kernel, by decide +kernel⟩
def m_are_people : Sl → Option Fl := mRet (mAndV (mIsi "tuple" (mVar 0)) (mAndV (m2 neD (mVar 0) (mTup (mNil))) (mCall allD (mCons (mLc [1] (mItA (mVar 0)) (gNm 1) (mYes) (mFn' 1 1 m_is_person [false] [] (mCons (mVar 1) (mNil)))) (mNil)))))
theorem c_are_people (z : Z K mg) : Cal P w K mg base 5 "are_people" ["value"] 1 2 m_are_people :=
  cal_mk z.f_are_people sc_are_people rfl rfl (fun _ _ _ _ _ _ us hl => match us, hl with | [_], _ => rfl) fun f cdv A outer s H E hr =>
    es_one (es_ret (ev_andV (ev_isi (Ts := "tuple") (by rfl) z.b_isinstance (by rfl) z.b_tuple (by decide +kernel) (ev_var (pv 0))) (ev_andV (ev_cmp (op_neD (hu64 hr)) od_ne (ev_var (pv 0)) (ev_tup (ea_nil)) (nomark _)) (ev_one (ev_callB (cr_all rfl) cd_all (by rfl) z.b_all (by decide +kernel) (ea_cons (ev_lc (own := [("person", 1)]) rfl sc_are_people.nd (ei_any (ev_var (pv 0))) (blkOk_by (N := N_are_people) (sc := defScope s_are_people) (by decide +kernel)) (by decide) (fun _ _ _ _ _ => eg_nm (pg_name (i := 1) sc_are_people.nd rfl (.inl rfl))) (fun _ _ _ _ _ => ets_nil) (fun _ _ _ _ _ => ev_call [false] (c_is_person z) (hr.mono (by decide)) (by rfl) (ea_cons (ev_var (pv 1)) (ea_nil)))) (ea_nil)))))))
abbrev s_is_source : Stmt := top 20
abbrev N_is_source : List Str := ["value"]
theorem sc_is_source : FnScope N_is_source ["value"] (defScope s_is_source) := ⟨rfl, rfl, rfl, by decide +kernel, rfl, by decide +kernel, by decide +kernel⟩
def m_is_source : Sl → Option Fl := mSeq (mIf (mTOr (mTNot (mB (mIsi "tuple" (mVar 0)))) (mB (m2 neD (mCall lenD (mCons (mVar 0) (mNil))) (mC (.int 3))))) (mRet (mC (.bool false))) (mNext)) (mRet (mAndV (mFn' 1 2 m_are_people [false] [] (mCons (m2 ixD (mVar 0) (mC (.int 0))) (mNil))) (mAndV (mFn' 3 3 m_is_integer [false, false, false] [] (mCons (m2 ixD (mVar 0) (mC (.int 1))) (mCons (mC (.int 0)) (mCons (mC .none) (mNil))))) (mFn' 1 2 m_is_title [false] [] (mCons (m2 ixD (mVar 0) (mC (.int 2))) (mNil))))))
theorem c_is_source (z : Z K mg) : Cal P w K mg base 6 "is_source" ["value"] 1 1 m_is_source :=
  cal_mk z.f_is_source sc_is_source rfl rfl (fun _ _ _ _ _ _ us hl => match us, hl with | [_], _ => rfl) fun f cdv A outer s H E hr =>
    es_cons (es_if ((ew_or (et_not (et_val (ev_isi (Ts := "tuple") (by rfl) z.b_isinstance (by rfl) z.b_tuple (by decide +kernel) (ev_var (pv 0))))) (ew_or1 (et_cmp (op_neD (hu64 hr)) od_ne (ev_callB call_lenA cd_len (by rfl) z.b_len PySem.boot_len (ea_cons (ev_var (pv 0)) (ea_nil))) (ev_int) (nomark _)))).t) (es_one (es_ret (ev_bl))) (es_nil)) (es_one (es_ret (ev_andV (ev_call [false] (c_are_people z) (hr.mono (by decide)) (by rfl) (ea_cons (ev_sub ix_seq od_ix (ev_var (pv 0)) (ev_int) (fun _ _ => rfl)) (ea_nil))) (ev_andV (ev_call [false, false, false] (c_is_integer z) (hr.mono (by decide)) (by rfl) (ea_cons (ev_sub ix_seq od_ix (ev_var (pv 0)) (ev_int) (fun _ _ => rfl)) (ea_cons (ev_int) (ea_cons (ev_non) (ea_nil))))) (ev_one (ev_call [false] (c_is_title z) (hr.mono (by decide)) (by rfl) (ea_cons (ev_sub ix_seq od_ix (ev_var (pv 0)) (ev_int) (fun _ _ => rfl)) (ea_nil))))))))
abbrev s_is_library : Stmt := top 21
abbrev N_is_library : List Str := ["value", "source"]
theorem sc_is_library : FnScope N_is_library ["value"] (defScope s_is_library) := ⟨rfl, rfl, rfl, by decide +kernel, rfl, by decide +kernel, by decide +kernel⟩
def m_is_library : Sl → Option Fl := mSeq (mIf (mTOr (mTNot (mB (mIsi "tuple" (mVar 0)))) (mTNot (mB (mCall allD (mCons (mLc [1] (mItA (mVar 0)) (gNm 1) (mYes) (mFn' 1 1 m_is_source [false] [] (mCons (mVar 1) (mNil)))) (mNil)))))) (mRet (mC (.bool false))) (mNext)) (mRet (m2 eqD (mLenSet (mVar 0)) (mCall lenD (mCons (mVar 0) (mNil)))))
theorem c_is_library (z : Z K mg) : Cal P w K mg base 7 "is_library" ["value"] 1 2 m_is_library :=
  cal_mk z.f_is_library sc_is_library rfl rfl (fun _ _ _ _ _ _ us hl => match us, hl with | [_], _ => rfl) fun f cdv A outer s H E hr =>
    es_cons (es_if ((ew_or (et_not (et_val (ev_isi (Ts := "tuple") (by rfl) z.b_isinstance (by rfl) z.b_tuple (by decide +kernel) (ev_var (pv 0))))) (ew_or1 (et_not (et_val (ev_callB (cr_all rfl) cd_all (by rfl) z.b_all (by decide +kernel) (ea_cons (ev_lc (own := [("source", 1)]) rfl sc_is_library.nd (ei_any (ev_var (pv 0))) (blkOk_by (N := N_is_library) (sc := defScope s_is_library) (by decide +kernel)) (by decide) (fun _ _ _ _ _ => eg_nm (pg_name (i := 1) sc_is_library.nd rfl (.inl rfl))) (fun _ _ _ _ _ => ets_nil) (fun _ _ _ _ _ => ev_call [false] (c_is_source z) (hr.mono (by decide)) (by rfl) (ea_cons (ev_var (pv 1)) (ea_nil)))) (ea_nil))))))).t) (es_one (es_ret (ev_bl))) (es_nil)) (es_one (es_ret (ev_cmp (op_eqD (hu64 hr)) od_eq (ev_len_set (hu65 hr) rfl (by rfl) z.b_len (by rfl) z.b_set (ev_var (pv 0))) (ev_callB call_lenA cd_len (by rfl) z.b_len PySem.boot_len (ea_cons (ev_var (pv 0)) (ea_nil))) (nomark _))))
abbrev s_check_source : Stmt := top 22
abbrev N_check_source : List Str := ["source"]
theorem sc_check_source : FnScope N_check_source ["source"] (defScope s_check_source) := ⟨rfl, rfl, rfl, by decide +kernel, rfl, by decide +kernel, by decide +kernel⟩
def m_check_source : Sl → Option Fl := mIf (mTNot (mB (mFn' 1 1 m_is_source [false] [] (mCons (mVar 0) (mNil))))) (mNever) (mNext)
theorem c_check_source (z : Z K mg) : Cal P w K mg base 7 "check_source" ["source"] 1 1 m_check_source :=
  cal_mk z.f_check_source sc_check_source rfl rfl (fun _ _ _ _ _ _ us hl => match us, hl with | [_], _ => rfl) fun f cdv A outer s H E hr =>
    es_one (es_if (et_not (et_val (ev_call [false] (c_is_source z) (hr.mono (by decide)) (by rfl) (ea_cons (ev_var (pv 0)) (ea_nil))))) (es_one (es_never)) (es_nil))
abbrev s_check_library : Stmt := top 23
abbrev N_check_library : List Str := ["library"]
theorem sc_check_library : FnScope N_check_library ["library"] (defScope s_check_library) := ⟨rfl, rfl, rfl, by decide +kernel, rfl, by decide +kernel, by decide +kernel⟩
def m_check_library : Sl → Option Fl := mIf (mTNot (mB (mFn' 1 2 m_is_library [false] [] (mCons (mVar 0) (mNil))))) (mNever) (mNext)
theorem c_check_library (z : Z K mg) : Cal P w K mg base 8 "check_library" ["library"] 1 1 m_check_library :=
  cal_mk z.f_check_library sc_check_library rfl rfl (fun _ _ _ _ _ _ us hl => match us, hl with | [_], _ => rfl) fun f cdv A outer s H E hr =>
    es_one (es_if (et_not (et_val (ev_call [false] (c_is_library z) (hr.mono (by decide)) (by rfl) (ea_cons (ev_var (pv 0)) (ea_nil))))) (es_one (es_never)) (es_nil))
abbrev s_check_index : Stmt := top 24
abbrev N_check_index : List Str := ["library", "index"]
theorem sc_check_index : FnScope N_check_index ["library", "index"] (defScope s_check_index) := ⟨rfl, rfl, rfl, by decide +kernel, rfl, by decide +kernel, by decide +kernel⟩
def m_check_index : Sl → Option Fl := mIf (mTNot (mB (mFn' 3 3 m_is_integer [false, false, false] [] (mCons (mVar 1) (mCons (mC (.int 0)) (mCons (m2 subD (mCall lenD (mCons (mVar 0) (mNil))) (mC (.int 1))) (mNil))))))) (mNever) (mNext)
theorem c_check_index (z : Z K mg) : Cal P w K mg base 3 "check_index" ["library", "index"] 2 2 m_check_index :=
  cal_mk z.f_check_index sc_check_index rfl rfl (fun _ _ _ _ _ _ us hl => match us, hl with | [_, _], _ => rfl) fun f cdv A outer s H E hr =>
    es_one (es_if (et_not (et_val (ev_call [false, false, false] (c_is_integer z) (hr.mono (by decide)) (by rfl) (ea_cons (ev_var (pv 1)) (ea_cons (ev_int) (ea_cons (ev_bin op_sub od_sub (ev_callB call_lenA cd_len (by rfl) z.b_len PySem.boot_len (ea_cons (ev_var (pv 0)) (ea_nil))) (ev_int)) (ea_nil))))))) (es_one (es_never)) (es_nil))
abbrev s_is_part : Stmt := top 28
abbrev N_is_part : List Str := ["value"]
theorem sc_is_part : FnScope N_is_part ["value"] (defScope s_is_part) := ⟨rfl, rfl, rfl, by decide +kernel, rfl, by decide +kernel, by decide +kernel⟩
def m_is_part : Sl → Option Fl := mSeq (mIf (mTNot (mB (mIsi "str" (mVar 0)))) (mRet (mC (.bool false))) (mNext)) (mRet (mOrV (m2 eqD (mVar 0) (mC (.str ""))) (mOrV (mFn' 1 1 m_is_name [false] [] (mCons (mVar 0) (mNil))) (mAndV (m2 eqD (mCall lenD (mCons (mVar 0) (mNil))) (mC (.int 2))) (mAndV (mFn' 1 2 m_are_letters [false] [] (mCons (m2 ixD (mVar 0) (mC (.int 0))) (mNil))) (m2 eqD (m2 ixD (mVar 0) (mC (.int 1))) (mC (.str "."))))))))
theorem c_is_part (z : Z K mg) : Cal P w K mg base 4 "is_part" ["value"] 1 1 m_is_part :=
  cal_mk z.f_is_part sc_is_part rfl rfl (fun _ _ _ _ _ _ us hl => match us, hl with | [_], _ => rfl) fun f cdv A outer s H E hr =>
    es_cons (es_if (et_not (et_val (ev_isi (Ts := "str") (by rfl) z.b_isinstance (by rfl) z.b_str (by decide +kernel) (ev_var (pv 0))))) (es_one (es_ret (ev_bl))) (es_nil)) (es_one (es_ret (ev_orV (ev_cmp (op_eqD (hu64 hr)) od_eq (ev_var (pv 0)) (ev_str) (nomark _)) (ev_orV (ev_call [false] (c_is_name z) (hr.mono (by decide)) (by rfl) (ea_cons (ev_var (pv 0)) (ea_nil))) (ev_one (ev_andV (ev_cmp (op_eqD (hu64 hr)) od_eq (ev_callB call_lenA cd_len (by rfl) z.b_len PySem.boot_len (ea_cons (ev_var (pv 0)) (ea_nil))) (ev_int) (nomark _)) (ev_andV (ev_call [false] (c_are_letters z) (hr.mono (by decide)) (by rfl) (ea_cons (ev_sub ix_seq od_ix (ev_var (pv 0)) (ev_int) (fun _ _ => rfl)) (ea_nil))) (ev_one (ev_cmp (op_eqD (hu64 hr)) od_eq (ev_sub ix_seq od_ix (ev_var (pv 0)) (ev_int) (fun _ _ => rfl)) (ev_gstr (by rfl) z.c_POINT) (nomark _))))))))))
abbrev s_is_pair : Stmt := top 29
abbrev N_is_pair : List Str := ["value"]
theorem sc_is_pair : FnScope N_is_pair ["value"] (defScope s_is_pair) := ⟨rfl, rfl, rfl, by decide +kernel, rfl, by decide +kernel, by decide +kernel⟩
def m_is_pair : Sl → Option Fl := mRet (mAndV (mIsi "tuple" (mVar 0)) (mAndV (m2 eqD (mCall lenD (mCons (mVar 0) (mNil))) (mC (.int 2))) (mAndV (mFn' 1 1 m_is_name [false] [] (mCons (m2 ixD (mVar 0) (mC (.int 0))) (mNil))) (mFn' 1 1 m_is_part [false] [] (mCons (m2 ixD (mVar 0) (mC (.int 1))) (mNil))))))
theorem c_is_pair (z : Z K mg) : Cal P w K mg base 5 "is_pair" ["value"] 1 1 m_is_pair :=
  cal_mk z.f_is_pair sc_is_pair rfl rfl (fun _ _ _ _ _ _ us hl => match us, hl with | [_], _ => rfl) fun f cdv A outer s H E hr =>
    es_one (es_ret (ev_andV (ev_isi (Ts := "tuple") (by rfl) z.b_isinstance (by rfl) z.b_tuple (by decide +kernel) (ev_var (pv 0))) (ev_andV (ev_cmp (op_eqD (hu64 hr)) od_eq (ev_callB call_lenA cd_len (by rfl) z.b_len PySem.boot_len (ea_cons (ev_var (pv 0)) (ea_nil))) (ev_int) (nomark _)) (ev_andV (ev_call [false] (c_is_name z) (hr.mono (by decide)) (by rfl) (ea_cons (ev_sub ix_seq od_ix (ev_var (pv 0)) (ev_int) (fun _ _ => rfl)) (ea_nil))) (ev_one (ev_call [false] (c_is_part z) (hr.mono (by decide)) (by rfl) (ea_cons (ev_sub ix_seq od_ix (ev_var (pv 0)) (ev_int) (fun _ _ => rfl)) (ea_nil))))))))
abbrev s_is_label : Stmt := top 30
abbrev N_is_label : List Str := ["value", "shown", "more", "year", "title", "letters", "pair"]
theorem sc_is_label : FnScope N_is_label ["value"] (defScope s_is_label) := ⟨rfl, rfl, rfl, by decide +kernel, rfl, by decide +kernel, by decide +kernel⟩
def m_is_label : Sl → Option Fl := mSeq (mIf (mTOr (mTNot (mB (mIsi "tuple" (mVar 0)))) (mB (m2 neD (mCall lenD (mCons (mVar 0) (mNil))) (mC (.int 5))))) (mRet (mC (.bool false))) (mNext)) (mSeq (mUnp (gTp 5 (gsCons (gNm 1) (gsCons (gNm 2) (gsCons (gNm 3) (gsCons (gNm 4) (gsCons (gNm 5) (gsNil))))))) (mVar 0)) (mSeq (mIf (mTOr (mTNot (mB (mIsi "tuple" (mVar 1)))) (mTOr (mB (m2 eqD (mVar 1) (mTup (mNil)))) (mTNot (mB (mCall allD (mCons (mLc [6] (mItA (mVar 1)) (gNm 6) (mYes) (mFn' 1 1 m_is_pair [false] [] (mCons (mVar 6) (mNil)))) (mNil))))))) (mRet (mC (.bool false))) (mNext)) (mSeq (mIf (mTOr (mTNot (mB (mIsi "bool" (mVar 2)))) (mTNot (mB (mFn' 3 3 m_is_integer [false, false, false] [] (mCons (mVar 3) (mCons (mC (.int 0)) (mCons (mC .none) (mNil)))))))) (mRet (mC (.bool false))) (mNext)) (mRet (mAndV (mOrV (mIsN false (mVar 4)) (mFn' 1 2 m_is_title [false] [] (mCons (mVar 4) (mNil)))) (mFn' 1 2 m_are_letters [false] [] (mCons (mVar 5) (mNil))))))))
theorem c_is_label (z : Z K mg) : Cal P w K mg base 6 "is_label" ["value"] 1 7 m_is_label :=
  cal_mk z.f_is_label sc_is_label rfl rfl (fun _ _ _ _ _ _ us hl => match us, hl with | [_], _ => rfl) fun f cdv A outer s H E hr =>
    es_cons (es_if ((ew_or (et_not (et_val (ev_isi (Ts := "tuple") (by rfl) z.b_isinstance (by rfl) z.b_tuple (by decide +kernel) (ev_var (pv 0))))) (ew_or1 (et_cmp (op_neD (hu64 hr)) od_ne (ev_callB call_lenA cd_len (by rfl) z.b_len PySem.boot_len (ea_cons (ev_var (pv 0)) (ea_nil))) (ev_int) (nomark _)))).t) (es_one (es_ret (ev_bl))) (es_nil)) (es_cons (es_unp (ev_var (pv 0)) (eg_tp rfl (egs_cons (eg_nm (pg_name (i := 1) sc_is_label.nd rfl (.inl rfl))) (egs_cons (eg_nm (pg_name (i := 2) sc_is_label.nd rfl (.inl rfl))) (egs_cons (eg_nm (pg_name (i := 3) sc_is_label.nd rfl (.inl rfl))) (egs_cons (eg_nm (pg_name (i := 4) sc_is_label.nd rfl (.inl rfl))) (egs_cons (eg_nm (pg_name (i := 5) sc_is_label.nd rfl (.inl rfl))) (egs_nil)))))))) (es_cons (es_if ((ew_or (et_not (et_val (ev_isi (Ts := "tuple") (by rfl) z.b_isinstance (by rfl) z.b_tuple (by decide +kernel) (ev_var (pv 1))))) (ew_or (et_cmp (op_eqD (hu64 hr)) od_eq (ev_var (pv 1)) (ev_tup (ea_nil)) (nomark _)) (ew_or1 (et_not (et_val (ev_callB (cr_all rfl) cd_all (by rfl) z.b_all (by decide +kernel) (ea_cons (ev_lc (own := [("pair", 6)]) rfl sc_is_label.nd (ei_any (ev_var (pv 1))) (blkOk_by (N := N_is_label) (sc := defScope s_is_label) (by decide +kernel)) (by decide) (fun _ _ _ _ _ => eg_nm (pg_name (i := 6) sc_is_label.nd rfl (.inl rfl))) (fun _ _ _ _ _ => ets_nil) (fun _ _ _ _ _ => ev_call [false] (c_is_pair z) (hr.mono (by decide)) (by rfl) (ea_cons (ev_var (pv 6)) (ea_nil)))) (ea_nil)))))))).t) (es_one (es_ret (ev_bl))) (es_nil)) (es_cons (es_if ((ew_or (et_not (et_val (ev_isi (Ts := "bool") (by rfl) z.b_isinstance (by rfl) z.b_bool (by decide +kernel) (ev_var (pv 2))))) (ew_or1 (et_not (et_val (ev_call [false, false, false] (c_is_integer z) (hr.mono (by decide)) (by rfl) (ea_cons (ev_var (pv 3)) (ea_cons (ev_int) (ea_cons (ev_non) (ea_nil))))))))).t) (es_one (es_ret (ev_bl))) (es_nil)) (es_one (es_ret (ev_andV (ev_orV (ev_isN (ev_var (pv 4))) (ev_one (ev_call [false] (c_is_title z) (hr.mono (by decide)) (by rfl) (ea_cons (ev_var (pv 4)) (ea_nil))))) (ev_one (ev_call [false] (c_are_letters z) (hr.mono (by decide)) (by rfl) (ea_cons (ev_var (pv 5)) (ea_nil))))))))))
abbrev s_check_label : Stmt := top 31
abbrev N_check_label : List Str := ["label"]
theorem sc_check_label : FnScope N_check_label ["label"] (defScope s_check_label) := ⟨rfl, rfl, rfl, by decide +kernel, rfl, by decide +kernel, by decide +kernel⟩
def m_check_label : Sl → Option Fl := mIf (mTNot (mB (mFn' 1 7 m_is_label [false] [] (mCons (mVar 0) (mNil))))) (mNever) (mNext)
theorem c_check_label (z : Z K mg) : Cal P w K mg base 7 "check_label" ["label"] 1 1 m_check_label :=
  cal_mk z.f_check_label sc_check_label rfl rfl (fun _ _ _ _ _ _ us hl => match us, hl with | [_], _ => rfl) fun f cdv A outer s H E hr =>
    es_one (es_if (et_not (et_val (ev_call [false] (c_is_label z) (hr.mono (by decide)) (by rfl) (ea_cons (ev_var (pv 0)) (ea_nil))))) (es_one (es_never)) (es_nil))
abbrev s_part_fits : Stmt := top 32
abbrev N_part_fits : List Str := ["part", "given"]
theorem sc_part_fits : FnScope N_part_fits ["part", "given"] (defScope s_part_fits) := ⟨rfl, rfl, rfl, by decide +kernel, rfl, by decide +kernel, by decide +kernel⟩
def m_part_fits : Sl → Option Fl := mRet (m2 (inA false) (mVar 0) (mTup (mCons (mC (.str "")) (mCons (mVar 1) (mCons (m2 addD (m2 ixD (mVar 1) (mC (.int 0))) (mC (.str "."))) (mNil))))))
theorem c_part_fits (z : Z K mg) : Cal P w K mg base 2 "part_fits" ["part", "given"] 2 2 m_part_fits :=
  cal_mk z.f_part_fits sc_part_fits rfl rfl (fun _ _ _ _ _ _ us hl => match us, hl with | [_, _], _ => rfl) fun f cdv A outer s H E hr =>
    es_one (es_ret (ev_cmp (op_inA (hu65 hr)) od_in (ev_var (pv 0)) (ev_tup (ea_cons (ev_str) (ea_cons (ev_var (pv 1)) (ea_cons (ev_bin op_addA od_add (ev_sub ix_seq od_ix (ev_var (pv 1)) (ev_int) (fun _ _ => rfl)) (ev_gstr (by rfl) z.c_POINT)) (ea_nil))))) (by with_unfolding_all rfl)))
abbrev s_part_within : Stmt := top 33
abbrev N_part_within : List Str := ["part", "other"]
theorem sc_part_within : FnScope N_part_within ["part", "other"] (defScope s_part_within) := ⟨rfl, rfl, rfl, by decide +kernel, rfl, by decide +kernel, by decide +kernel⟩
def m_part_within : Sl → Option Fl := mSeq (mIf (mB (m2 (inA false) (mVar 1) (mTup (mCons (mC (.str "")) (mCons (mVar 0) (mNil)))))) (mRet (mC (.bool true))) (mNext)) (mRet (mAndV (m2 neD (mVar 0) (mC (.str ""))) (m2 eqD (mVar 1) (m2 addD (m2 ixD (mVar 0) (mC (.int 0))) (mC (.str "."))))))
theorem c_part_within (z : Z K mg) : Cal P w K mg base 2 "part_within" ["part", "other"] 2 2 m_part_within :=
  cal_mk z.f_part_within sc_part_within rfl rfl (fun _ _ _ _ _ _ us hl => match us, hl with | [_, _], _ => rfl) fun f cdv A outer s H E hr =>
    es_cons (es_if (et_cmp (op_inA (hu65 hr)) od_in (ev_var (pv 1)) (ev_tup (ea_cons (ev_str) (ea_cons (ev_var (pv 0)) (ea_nil)))) (by with_unfolding_all rfl)) (es_one (es_ret (ev_bl))) (es_nil)) (es_one (es_ret (ev_andV (ev_cmp (op_neD (hu64 hr)) od_ne (ev_var (pv 0)) (ev_str) (nomark _)) (ev_one (ev_cmp (op_eqD (hu64 hr)) od_eq (ev_var (pv 1)) (ev_bin op_addA od_add (ev_sub ix_seq od_ix (ev_var (pv 0)) (ev_int) (fun _ _ => rfl)) (ev_gstr (by rfl) z.c_POINT)) (nomark _))))))
abbrev s_fits_source : Stmt := top 34
abbrev N_fits_source : List Str := ["label", "source", "shown", "more", "year", "title", "people", "pair", "person"]
theorem sc_fits_source : FnScope N_fits_source ["label", "source"] (defScope s_fits_source) := ⟨rfl, rfl, rfl, by decide +kernel, rfl, by decide +kernel, by decide +kernel⟩
def m_fits_source : Sl → Option Fl := mSeq (mUnp (gTp 4 (gsCons (gNm 2) (gsCons (gNm 3) (gsCons (gNm 4) (gsCons (gNm 5) (gsNil)))))) (mSl (mVar 0) (mNoPart) (mPart (mC (.int 4))))) (mSeq (mSet 6 (m2 ixD (mVar 1) (mC (.int 0)))) (mSeq (mIf (mTOr (mB (m2 neD (mVar 4) (m2 ixD (mVar 1) (mC (.int 1))))) (mB (m2 (inA true) (mVar 5) (mTup (mCons (mC .none) (mCons (m2 ixD (mVar 1) (mC (.int 2))) (mNil))))))) (mRet (mC (.bool false))) (mNext)) (mSeq (mIf (mTOr (mB (m2 ltD (mCall lenD (mCons (mVar 6) (mNil))) (mCall lenD (mCons (mVar 2) (mNil))))) (mB (m2 neD (m2 gtD (mCall lenD (mCons (mVar 6) (mNil))) (mCall lenD (mCons (mVar 2) (mNil)))) (mVar 3)))) (mRet (mC (.bool false))) (mNext)) (mRet (mCall allD (mCons (mLc [7, 8] (mZip (mCons (mVar 2) (mCons (mVar 6) (mNil)))) (gTp 2 (gsCons (gNm 7) (gsCons (gNm 8) (gsNil)))) (mYes) (mAndV (m2 eqD (m2 ixD (mVar 7) (mC (.int 0))) (m2 ixD (mVar 8) (mC (.int 0)))) (mFn' 2 2 m_part_fits [false, false] [] (mCons (m2 ixD (mVar 7) (mC (.int 1))) (mCons (m2 ixD (mVar 8) (mC (.int 1))) (mNil)))))) (mNil)))))))
theorem c_fits_source (z : Z K mg) : Cal P w K mg base 3 "fits_source" ["label", "source"] 2 9 m_fits_source :=
  cal_mk z.f_fits_source sc_fits_source rfl rfl (fun _ _ _ _ _ _ us hl => match us, hl with | [_, _], _ => rfl) fun f cdv A outer s H E hr =>
    es_cons (es_unp (ev_slice (ev_var (pv 0)) (eo_none) (eo_some (ev_int))) (eg_tp rfl (egs_cons (eg_nm (pg_name (i := 2) sc_fits_source.nd rfl (.inl rfl))) (egs_cons (eg_nm (pg_name (i := 3) sc_fits_source.nd rfl (.inl rfl))) (egs_cons (eg_nm (pg_name (i := 4) sc_fits_source.nd rfl (.inl rfl))) (egs_cons (eg_nm (pg_name (i := 5) sc_fits_source.nd rfl (.inl rfl))) (egs_nil))))))) (es_cons (es_set (i := 6) sc_fits_source.nd rfl (.inl rfl) (ev_sub ix_seq od_ix (ev_var (pv 1)) (ev_int) (fun _ _ => rfl))) (es_cons (es_if ((ew_or (et_cmp (op_neD (hu64 hr)) od_ne (ev_var (pv 4)) (ev_sub ix_seq od_ix (ev_var (pv 1)) (ev_int) (fun _ _ => rfl)) (nomark _)) (ew_or1 (et_cmp (op_notInA (hu65 hr)) od_in (ev_var (pv 5)) (ev_tup (ea_cons (ev_non) (ea_cons (ev_sub ix_seq od_ix (ev_var (pv 1)) (ev_int) (fun _ _ => rfl)) (ea_nil)))) (by with_unfolding_all rfl)))).t) (es_one (es_ret (ev_bl))) (es_nil)) (es_cons (es_if ((ew_or (et_cmp (op_ltA (hu65 hr)) od_lt (ev_callB call_lenA cd_len (by rfl) z.b_len PySem.boot_len (ea_cons (ev_var (pv 6)) (ea_nil))) (ev_callB call_lenA cd_len (by rfl) z.b_len PySem.boot_len (ea_cons (ev_var (pv 2)) (ea_nil))) (nomark _)) (ew_or1 (et_cmp (op_neD (hu64 hr)) od_ne (ev_cmp (op_gt) od_cmp (ev_callB call_lenA cd_len (by rfl) z.b_len PySem.boot_len (ea_cons (ev_var (pv 6)) (ea_nil))) (ev_callB call_lenA cd_len (by rfl) z.b_len PySem.boot_len (ea_cons (ev_var (pv 2)) (ea_nil))) (nomark _)) (ev_var (pv 3)) (nomark _)))).t) (es_one (es_ret (ev_bl))) (es_nil)) (es_one (es_ret (ev_callB (cr_all rfl) cd_all (by rfl) z.b_all (by decide +kernel) (ea_cons (ev_lc (own := [("pair", 7), ("person", 8)]) rfl sc_fits_source.nd (ei_zip (by rfl) z.b_zip (ea_cons (ev_var (pv 2)) (ea_cons (ev_var (pv 6)) (ea_nil)))) (blkOk_by (N := N_fits_source) (sc := defScope s_fits_source) (by decide +kernel)) (by decide) (fun _ _ _ _ _ => eg_tp rfl (egs_cons (eg_nm (pg_name (i := 7) sc_fits_source.nd rfl (.inl rfl))) (egs_cons (eg_nm (pg_name (i := 8) sc_fits_source.nd rfl (.inl rfl))) (egs_nil)))) (fun _ _ _ _ _ => ets_nil) (fun _ _ _ _ _ => ev_andV (ev_cmp (op_eqD (hu64 hr)) od_eq (ev_sub ix_seq od_ix (ev_var (pv 7)) (ev_int) (fun _ _ => rfl)) (ev_sub ix_seq od_ix (ev_var (pv 8)) (ev_int) (fun _ _ => rfl)) (nomark _)) (ev_one (ev_call [false, false] (c_part_fits z) (hr.mono (by decide)) (by rfl) (ea_cons (ev_sub ix_seq od_ix (ev_var (pv 7)) (ev_int) (fun _ _ => rfl)) (ea_cons (ev_sub ix_seq od_ix (ev_var (pv 8)) (ev_int) (fun _ _ => rfl)) (ea_nil))))))) (ea_nil))))))))
abbrev s_number_within : Stmt := top 35
abbrev N_number_within : List Str := ["label", "other", "many", "more"]
theorem sc_number_within : FnScope N_number_within ["label", "other"] (defScope s_number_within) := ⟨rfl, rfl, rfl, by decide +kernel, rfl, by decide +kernel, by decide +kernel⟩
def m_number_within : Sl → Option Fl := mSeq (mPar2 2 3 (mCall lenD (mCons (m2 ixD (mVar 0) (mC (.int 0))) (mNil))) (m2 ixD (mVar 0) (mC (.int 1)))) (mSeq (mIf (mB (m2 ixD (mVar 1) (mC (.int 1)))) (mRet (mOrV (m2 gtD (mVar 2) (mCall lenD (mCons (m2 ixD (mVar 1) (mC (.int 0))) (mNil)))) (mAndV (mVar 3) (m2 eqD (mVar 2) (mCall lenD (mCons (m2 ixD (mVar 1) (mC (.int 0))) (mNil))))))) (mNext)) (mRet (mAndV (mNotV (mVar 3)) (m2 eqD (mVar 2) (mCall lenD (mCons (m2 ixD (mVar 1) (mC (.int 0))) (mNil)))))))
theorem c_number_within (z : Z K mg) : Cal P w K mg base 2 "number_within" ["label", "other"] 2 4 m_number_within :=
  cal_mk z.f_number_within sc_number_within rfl rfl (fun _ _ _ _ _ _ us hl => match us, hl with | [_, _], _ => rfl) fun f cdv A outer s H E hr =>
    es_cons (es_par2 rfl sc_number_within.nd rfl rfl (by decide) rfl rfl (ev_callB call_lenA cd_len (by rfl) z.b_len PySem.boot_len (ea_cons (ev_sub ix_seq od_ix (ev_var (pv 0)) (ev_int) (fun _ _ => rfl)) (ea_nil))) (ev_sub ix_seq od_ix (ev_var (pv 0)) (ev_int) (fun _ _ => rfl)) rfl rfl (by with_unfolding_all rfl)) (es_cons (es_if (et_val (ev_sub ix_seq od_ix (ev_var (pv 1)) (ev_int) (fun _ _ => rfl))) (es_one (es_ret (ev_orV (ev_cmp (op_gt) od_cmp (ev_var (pv 2)) (ev_callB call_lenA cd_len (by rfl) z.b_len PySem.boot_len (ea_cons (ev_sub ix_seq od_ix (ev_var (pv 1)) (ev_int) (fun _ _ => rfl)) (ea_nil))) (nomark _)) (ev_one (ev_andV (ev_var (pv 3)) (ev_one (ev_cmp (op_eqD (hu64 hr)) od_eq (ev_var (pv 2)) (ev_callB call_lenA cd_len (by rfl) z.b_len PySem.boot_len (ea_cons (ev_sub ix_seq od_ix (ev_var (pv 1)) (ev_int) (fun _ _ => rfl)) (ea_nil))) (nomark _)))))))) (es_nil)) (es_one (es_ret (ev_andV (ev_notV (ev_var (pv 3))) (ev_one (ev_cmp (op_eqD (hu64 hr)) od_eq (ev_var (pv 2)) (ev_callB call_lenA cd_len (by rfl) z.b_len PySem.boot_len (ea_cons (ev_sub ix_seq od_ix (ev_var (pv 1)) (ev_int) (fun _ _ => rfl)) (ea_nil))) (nomark _)))))))
abbrev s_is_narrower : Stmt := top 36
abbrev N_is_narrower : List Str := ["label", "other", "one", "two"]
theorem sc_is_narrower : FnScope N_is_narrower ["label", "other"] (defScope s_is_narrower) := ⟨rfl, rfl, rfl, by decide +kernel, rfl, by decide +kernel, by decide +kernel⟩
def m_is_narrower : Sl → Option Fl := mSeq (mIf (mTOr (mB (m2 neD (m2 ixD (mVar 0) (mC (.int 2))) (m2 ixD (mVar 1) (mC (.int 2))))) (mTOr (mB (m2 (inA true) (m2 ixD (mVar 1) (mC (.int 3))) (mTup (mCons (mC .none) (mCons (m2 ixD (mVar 0) (mC (.int 3))) (mNil)))))) (mTNot (mB (mFn' 2 4 m_number_within [false, false] [] (mCons (mVar 0) (mCons (mVar 1) (mNil)))))))) (mRet (mC (.bool false))) (mNext)) (mRet (mCall allD (mCons (mLc [2, 3] (mZip (mCons (m2 ixD (mVar 0) (mC (.int 0))) (mCons (m2 ixD (mVar 1) (mC (.int 0))) (mNil)))) (gTp 2 (gsCons (gNm 2) (gsCons (gNm 3) (gsNil)))) (mYes) (mAndV (m2 eqD (m2 ixD (mVar 2) (mC (.int 0))) (m2 ixD (mVar 3) (mC (.int 0)))) (mFn' 2 2 m_part_within [false, false] [] (mCons (m2 ixD (mVar 2) (mC (.int 1))) (mCons (m2 ixD (mVar 3) (mC (.int 1))) (mNil)))))) (mNil))))
theorem c_is_narrower (z : Z K mg) : Cal P w K mg base 3 "is_narrower" ["label", "other"] 2 4 m_is_narrower :=
  cal_mk z.f_is_narrower sc_is_narrower rfl rfl (fun _ _ _ _ _ _ us hl => match us, hl with | [_, _], _ => rfl) fun f cdv A outer s H E hr =>
    es_cons (es_if ((ew_or (et_cmp (op_neD (hu64 hr)) od_ne (ev_sub ix_seq od_ix (ev_var (pv 0)) (ev_int) (fun _ _ => rfl)) (ev_sub ix_seq od_ix (ev_var (pv 1)) (ev_int) (fun _ _ => rfl)) (nomark _)) (ew_or (et_cmp (op_notInA (hu65 hr)) od_in (ev_sub ix_seq od_ix (ev_var (pv 1)) (ev_int) (fun _ _ => rfl)) (ev_tup (ea_cons (ev_non) (ea_cons (ev_sub ix_seq od_ix (ev_var (pv 0)) (ev_int) (fun _ _ => rfl)) (ea_nil)))) (by with_unfolding_all rfl)) (ew_or1 (et_not (et_val (ev_call [false, false] (c_number_within z) (hr.mono (by decide)) (by rfl) (ea_cons (ev_var (pv 0)) (ea_cons (ev_var (pv 1)) (ea_nil))))))))).t) (es_one (es_ret (ev_bl))) (es_nil)) (es_one (es_ret (ev_callB (cr_all rfl) cd_all (by rfl) z.b_all (by decide +kernel) (ea_cons (ev_lc (own := [("one", 2), ("two", 3)]) rfl sc_is_narrower.nd (ei_zip (by rfl) z.b_zip (ea_cons (ev_sub ix_seq od_ix (ev_var (pv 0)) (ev_int) (fun _ _ => rfl)) (ea_cons (ev_sub ix_seq od_ix (ev_var (pv 1)) (ev_int) (fun _ _ => rfl)) (ea_nil)))) (blkOk_by (N := N_is_narrower) (sc := defScope s_is_narrower) (by decide +kernel)) (by decide) (fun _ _ _ _ _ => eg_tp rfl (egs_cons (eg_nm (pg_name (i := 2) sc_is_narrower.nd rfl (.inl rfl))) (egs_cons (eg_nm (pg_name (i := 3) sc_is_narrower.nd rfl (.inl rfl))) (egs_nil)))) (fun _ _ _ _ _ => ets_nil) (fun _ _ _ _ _ => ev_andV (ev_cmp (op_eqD (hu64 hr)) od_eq (ev_sub ix_seq od_ix (ev_var (pv 2)) (ev_int) (fun _ _ => rfl)) (ev_sub ix_seq od_ix (ev_var (pv 3)) (ev_int) (fun _ _ => rfl)) (nomark _)) (ev_one (ev_call [false, false] (c_part_within z) (hr.mono (by decide)) (by rfl) (ea_cons (ev_sub ix_seq od_ix (ev_var (pv 2)) (ev_int) (fun _ _ => rfl)) (ea_cons (ev_sub ix_seq od_ix (ev_var (pv 3)) (ev_int) (fun _ _ => rfl)) (ea_nil))))))) (ea_nil)))))
abbrev s_fresh_given : Stmt := top 37
abbrev N_fresh_given : List Str := ["part", "other", "names", "good", "name"]
theorem sc_fresh_given : FnScope N_fresh_given ["part", "other"] (defScope s_fresh_given) := ⟨rfl, rfl, rfl, by decide +kernel, rfl, by decide +kernel, by decide +kernel⟩
def m_fresh_given : Sl → Option Fl := mSeq (mIf (mB (m2 eqD (mVar 0) (mC (.str "")))) (mSet 2 (mC (.tuple [.str "a", .str "b"]))) (mIf (mB (m2 eqD (m2 ixD (mVar 0) (m1 negD (mC (.int 1)))) (mC (.str ".")))) (mSet 2 (mTup (mCons (m2 ixD (mVar 0) (mC (.int 0))) (mCons (m2 mulB (m2 ixD (mVar 0) (mC (.int 0))) (mC (.int 2))) (mNil))))) (mSet 2 (mTup (mCons (mVar 0) (mNil)))))) (mSeq (mSet 3 (mLc [4] (mItA (mVar 2)) (gNm 4) (mTNot (mB (mFn' 2 2 m_part_fits [false, false] [] (mCons (mVar 1) (mCons (mVar 4) (mNil)))))) (mVar 4))) (mRet (mIfE (mB (m2 neD (mVar 3) (mLst (mNil)))) (m2 ixD (mVar 3) (mC (.int 0))) (m2 ixD (mVar 2) (mC (.int 0))))))
theorem c_fresh_given (z : Z K mg) : Cal P w K mg base 3 "fresh_given" ["part", "other"] 2 5 m_fresh_given :=
  cal_mk z.f_fresh_given sc_fresh_given rfl rfl (fun _ _ _ _ _ _ us hl => match us, hl with | [_, _], _ => rfl) fun f cdv A outer s H E hr =>
    es_cons (es_if (et_cmp (op_eqD (hu64 hr)) od_eq (ev_var (pv 0)) (ev_str) (nomark _)) (es_one (es_set (i := 2) sc_fresh_given.nd rfl (.inl rfl) (ev_gtup (ys := ["a", "b"]) (by rfl) z.c_FRESH))) (es_one (es_if (et_cmp (op_eqD (hu64 hr)) od_eq (ev_sub ix_seq od_ix (ev_var (pv 0)) (ev_un un_neg ud_neg (ev_int)) (fun _ _ => rfl)) (ev_gstr (by rfl) z.c_POINT) (nomark _)) (es_one (es_set (i := 2) sc_fresh_given.nd rfl (.inl rfl) (ev_tup (ea_cons (ev_sub ix_seq od_ix (ev_var (pv 0)) (ev_int) (fun _ _ => rfl)) (ea_cons (ev_bin op_mulB od_mulB (ev_sub ix_seq od_ix (ev_var (pv 0)) (ev_int) (fun _ _ => rfl)) (ev_int)) (ea_nil)))))) (es_one (es_set (i := 2) sc_fresh_given.nd rfl (.inl rfl) (ev_tup (ea_cons (ev_var (pv 0)) (ea_nil)))))))) (es_cons (es_setLc (i := 3) (own := [("name", 4)]) rfl sc_fresh_given.nd rfl rfl (sw_true rfl rfl rfl (by decide +kernel)) (ei_any (ev_var (pv 2))) (blkOk_by (N := N_fresh_given) (sc := defScope s_fresh_given) (by decide +kernel)) (by decide) (fun _ _ _ _ _ => eg_nm (pg_name (i := 4) sc_fresh_given.nd rfl (.inl rfl))) (fun _ _ _ _ _ => ets_one (et_not (et_val (ev_call [false, false] (c_part_fits z) (hr.mono (by decide)) (by rfl) (ea_cons (ev_var (pv 1)) (ea_cons (ev_var (pv 4)) (ea_nil))))))) (fun _ _ _ _ _ => ev_var (pv 4))) (es_one (es_ret (ev_ifE (et_cmp (op_neD (hu64 hr)) od_ne (ev_var (pv 3)) (ev_lst (ea_nil)) (nomark _)) (ev_sub ix_seq od_ix (ev_var (pv 3)) (ev_int) (fun _ _ => rfl)) (ev_sub ix_seq od_ix (ev_var (pv 2)) (ev_int) (fun _ _ => rfl))))))
abbrev s_source_outside : Stmt := top 38
abbrev N_source_outside : List Str := ["label", "other", "shown", "more", "year", "title", "theirs", "people", "index", "pair", "part", "many", "family", "name"]
theorem sc_source_outside : FnScope N_source_outside ["label", "other"] (defScope s_source_outside) := ⟨rfl, rfl, rfl, by decide +kernel, rfl, by decide +kernel, by decide +kernel⟩
def m_source_outside : Sl → Option Fl := mSeq (mUnp (gTp 4 (gsCons (gNm 2) (gsCons (gNm 3) (gsCons (gNm 4) (gsCons (gNm 5) (gsNil)))))) (mSl (mVar 0) (mNoPart) (mPart (mC (.int 4))))) (mSeq (mSet 6 (m2 ixD (mVar 1) (mC (.int 0)))) (mSeq (mSet 7 (mLst (mNil))) (mSeq (mFor (mEnum (mCons (mVar 2) (mNil))) (gTp 2 (gsCons (gNm 8) (gsCons (gNm 9) (gsNil)))) (mSeq (mSet 10 (mIfE (mB (m2 ltD (mVar 8) (mCall lenD (mCons (mVar 6) (mNil))))) (m2 ixD (m2 ixD (mVar 6) (mVar 8)) (mC (.int 1))) (mC (.str "")))) (mDrop (mOwnL 7 appD (mCons (mTup (mCons (m2 ixD (mVar 9) (mC (.int 0))) (mCons (mFn' 2 5 m_fresh_given [false, false] [] (mCons (m2 ixD (mVar 9) (mC (.int 1))) (mCons (mVar 10) (mNil)))) (mNil)))) (mNil)))))) (mSeq (mIf (mB (mVar 3)) (mSeq (mSet 11 (m2 addD (mCall maxD (mCons (mCall lenD (mCons (mVar 2) (mNil))) (mCons (mCall lenD (mCons (mVar 6) (mNil))) (mNil)))) (mC (.int 1)))) (mFor (mRng2 false (mCons (mCall lenD (mCons (mVar 2) (mNil))) (mCons (mVar 11) (mNil)))) (gNm 8) (mSeq (mSet 12 (mIfE (mB (m2 ltD (mVar 8) (mCall lenD (mCons (mVar 6) (mNil))))) (m2 ixD (m2 ixD (mVar 6) (mVar 8)) (mC (.int 0))) (mC (.str "")))) (mDrop (mOwnL 7 appD (mCons (mTup (mCons (m2 ixD (mC (.tuple [.str "a", .str "b"])) (mCall intD1 (mCons (m2 eqD (mVar 12) (m2 ixD (mC (.tuple [.str "a", .str "b"])) (mC (.int 0)))) (mNil)))) (mCons (m2 ixD (mC (.tuple [.str "a", .str "b"])) (mC (.int 0))) (mNil)))) (mNil))))))) (mNext)) (mSeq (mSet 13 (mIfE (mB (mIsN true (mVar 5))) (mVar 5) (m2 ixD (mC (.tuple [.str "a", .str "b"])) (mCall intD1 (mCons (m2 eqD (m2 ixD (mVar 1) (mC (.int 3))) (m2 ixD (mC (.tuple [.str "a", .str "b"])) (mC (.int 0)))) (mNil)))))) (mRet (mTup (mCons (mCall tupD1 (mCons (mVar 7) (mNil))) (mCons (mVar 4) (mCons (mVar 13) (mNil)))))))))))
theorem c_source_outside (z : Z K mg) : Cal P w K mg base 4 "source_outside" ["label", "other"] 2 14 m_source_outside :=
  cal_mk z.f_source_outside sc_source_outside rfl rfl (fun _ _ _ _ _ _ us hl => match us, hl with | [_, _], _ => rfl) fun f cdv A outer s H E hr =>
    es_cons (es_unp (ev_slice (ev_var (pv 0)) (eo_none) (eo_some (ev_int))) (eg_tp rfl (egs_cons (eg_nm (pg_name (i := 2) sc_source_outside.nd rfl (.inl rfl))) (egs_cons (eg_nm (pg_name (i := 3) sc_source_outside.nd rfl (.inl rfl))) (egs_cons (eg_nm (pg_name (i := 4) sc_source_outside.nd rfl (.inl rfl))) (egs_cons (eg_nm (pg_name (i := 5) sc_source_outside.nd rfl (.inl rfl))) (egs_nil))))))) (es_cons (es_set (i := 6) sc_source_outside.nd rfl (.inl rfl) (ev_sub ix_seq od_ix (ev_var (pv 1)) (ev_int) (fun _ _ => rfl))) (es_cons (es_set (i := 7) sc_source_outside.nd rfl (.inl rfl) (ev_lst (ea_nil))) (es_cons (es_for (bd := false) PassesOwn.never rfl (ei_enum (by rfl) z.b_enumerate (ea_cons (ev_var (pv 2)) (ea_nil))) (eg_tp rfl (egs_cons (eg_nm (pg_name (i := 8) sc_source_outside.nd rfl (.inl rfl))) (egs_cons (eg_nm (pg_name (i := 9) sc_source_outside.nd rfl (.inl rfl))) (egs_nil)))) (es_cons (es_set (i := 10) sc_source_outside.nd rfl (.inl rfl) (ev_ifE (et_cmp (op_ltA (hu65 hr)) od_lt (ev_var (pv 8)) (ev_callB call_lenA cd_len (by rfl) z.b_len PySem.boot_len (ea_cons (ev_var (pv 6)) (ea_nil))) (nomark _)) (ev_sub ix_seq od_ix (ev_sub ix_seq od_ix (ev_var (pv 6)) (ev_var (pv 8)) (fun _ _ => rfl)) (ev_int) (fun _ _ => rfl)) (ev_str))) (es_one (es_expr (ev_own PySem.F.slot_list_append PySem.F.type_list_append mt_append ow_app (pv 7) (ea_cons (ev_tup (ea_cons (ev_sub ix_seq od_ix (ev_var (pv 9)) (ev_int) (fun _ _ => rfl)) (ea_cons (ev_call [false, false] (c_fresh_given z) (hr.mono (by decide)) (by rfl) (ea_cons (ev_sub ix_seq od_ix (ev_var (pv 9)) (ev_int) (fun _ _ => rfl)) (ea_cons (ev_var (pv 10)) (ea_nil)))) (ea_nil)))) (ea_nil))))))) (es_cons (es_if (et_val (ev_var (pv 3))) (es_cons (es_set (i := 11) sc_source_outside.nd rfl (.inl rfl) (ev_bin op_addA od_add (ev_callB (call_maxA rfl) cd_max (by rfl) z.b_max (by decide +kernel) (ea_cons (ev_callB call_lenA cd_len (by rfl) z.b_len PySem.boot_len (ea_cons (ev_var (pv 2)) (ea_nil))) (ea_cons (ev_callB call_lenA cd_len (by rfl) z.b_len PySem.boot_len (ea_cons (ev_var (pv 6)) (ea_nil))) (ea_nil)))) (ev_int))) (es_one (es_for (bd := false) PassesOwn.never rfl (ei_range2 (by rfl) z.b_range (ea_cons (ev_callB call_lenA cd_len (by rfl) z.b_len PySem.boot_len (ea_cons (ev_var (pv 2)) (ea_nil))) (ea_cons (ev_var (pv 11)) (ea_nil)))) (eg_nm (pg_name (i := 8) sc_source_outside.nd rfl (.inl rfl))) (es_cons (es_set (i := 12) sc_source_outside.nd rfl (.inl rfl) (ev_ifE (et_cmp (op_ltA (hu65 hr)) od_lt (ev_var (pv 8)) (ev_callB call_lenA cd_len (by rfl) z.b_len PySem.boot_len (ea_cons (ev_var (pv 6)) (ea_nil))) (nomark _)) (ev_sub ix_seq od_ix (ev_sub ix_seq od_ix (ev_var (pv 6)) (ev_var (pv 8)) (fun _ _ => rfl)) (ev_int) (fun _ _ => rfl)) (ev_str))) (es_one (es_expr (ev_own PySem.F.slot_list_append PySem.F.type_list_append mt_append ow_app (pv 7) (ea_cons (ev_tup (ea_cons (ev_sub ix_seq od_ix (ev_gtup (ys := ["a", "b"]) (by rfl) z.c_FRESH) (ev_callTy call_int1 cd_int (by rfl) z.b_int (by decide +kernel) (ea_cons (ev_cmp (op_eqD (hu64 hr)) od_eq (ev_var (pv 12)) (ev_sub ix_seq od_ix (ev_gtup (ys := ["a", "b"]) (by rfl) z.c_FRESH) (ev_int) (fun _ _ => rfl)) (nomark _)) (ea_nil))) (fun _ _ => rfl)) (ea_cons (ev_sub ix_seq od_ix (ev_gtup (ys := ["a", "b"]) (by rfl) z.c_FRESH) (ev_int) (fun _ _ => rfl)) (ea_nil)))) (ea_nil))))))))) (es_nil)) (es_cons (es_set (i := 13) sc_source_outside.nd rfl (.inl rfl) (ev_ifE (et_notN (ev_var (pv 5))) (ev_var (pv 5)) (ev_sub ix_seq od_ix (ev_gtup (ys := ["a", "b"]) (by rfl) z.c_FRESH) (ev_callTy call_int1 cd_int (by rfl) z.b_int (by decide +kernel) (ea_cons (ev_cmp (op_eqD (hu64 hr)) od_eq (ev_sub ix_seq od_ix (ev_var (pv 1)) (ev_int) (fun _ _ => rfl)) (ev_sub ix_seq od_ix (ev_gtup (ys := ["a", "b"]) (by rfl) z.c_FRESH) (ev_int) (fun _ _ => rfl)) (nomark _)) (ea_nil))) (fun _ _ => rfl)))) (es_one (es_ret (ev_tup (ea_cons (ev_callTy call_tuple_of cd_tup (by rfl) z.b_tuple (by decide +kernel) (ea_cons (ev_var (pv 7)) (ea_nil))) (ea_cons (ev_var (pv 4)) (ea_cons (ev_var (pv 13)) (ea_nil))))))))))))
abbrev s_outside : Stmt := top 39
abbrev N_outside : List Str := ["label", "other"]
theorem sc_outside : FnScope N_outside ["label", "other"] (defScope s_outside) := ⟨rfl, rfl, rfl, by decide +kernel, rfl, by decide +kernel, by decide +kernel⟩
def m_outside : Sl → Option Fl := mSeq (mDrop (mFn' 1 1 m_check_label [false] [] (mCons (mVar 0) (mNil)))) (mSeq (mDrop (mFn' 1 1 m_check_label [false] [] (mCons (mVar 1) (mNil)))) (mSeq (mIf (mB (mFn' 2 4 m_is_narrower [false, false] [] (mCons (mVar 0) (mCons (mVar 1) (mNil))))) (mRet (mC .none)) (mNext)) (mRet (mFn' 2 14 m_source_outside [false, false] [] (mCons (mVar 0) (mCons (mVar 1) (mNil)))))))
theorem c_outside (z : Z K mg) : Cal P w K mg base 8 "outside" ["label", "other"] 2 2 m_outside :=
  cal_mk z.f_outside sc_outside rfl rfl (fun _ _ _ _ _ _ us hl => match us, hl with | [_, _], _ => rfl) fun f cdv A outer s H E hr =>
    es_cons (es_expr (ev_call [false] (c_check_label z) (hr.mono (by decide)) (by rfl) (ea_cons (ev_var (pv 0)) (ea_nil)))) (es_cons (es_expr (ev_call [false] (c_check_label z) (hr.mono (by decide)) (by rfl) (ea_cons (ev_var (pv 1)) (ea_nil)))) (es_cons (es_if (et_val (ev_call [false, false] (c_is_narrower z) (hr.mono (by decide)) (by rfl) (ea_cons (ev_var (pv 0)) (ea_cons (ev_var (pv 1)) (ea_nil))))) (es_one (es_ret (ev_non))) (es_nil)) (es_one (es_ret (ev_call [false, false] (c_source_outside z) (hr.mono (by decide)) (by rfl) (ea_cons (ev_var (pv 0)) (ea_cons (ev_var (pv 1)) (ea_nil))))))))
abbrev s_are_steps : Stmt := top 49
abbrev N_are_steps : List Str := ["value", "step"]
theorem sc_are_steps : FnScope N_are_steps ["value"] (defScope s_are_steps) := ⟨rfl, rfl, rfl, by decide +kernel, rfl, by decide +kernel, by decide +kernel⟩
def m_are_steps : Sl → Option Fl := mSeq (mIf (mTOr (mTNot (mB (mIsi "tuple" (mVar 0)))) (mTNot (mB (mCall allD (mCons (mLc [1] (mItA (mVar 0)) (gNm 1) (mYes) (mAndV (mIsi "str" (mVar 1)) (m2 (inA false) (mVar 1) (mC (.tuple [.str "names", .str "all", .str "first initial", .str "initials", .str "first given", .str "given", .str "title"]))))) (mNil)))))) (mRet (mC (.bool false))) (mNext)) (mRet (m2 eqD (mLenSet (mVar 0)) (mCall lenD (mCons (mVar 0) (mNil)))))
theorem c_are_steps (z : Z K mg) : Cal P w K mg base 2 "are_steps" ["value"] 1 2 m_are_steps :=
  cal_mk z.f_are_steps sc_are_steps rfl rfl (fun _ _ _ _ _ _ us hl => match us, hl with | [_], _ => rfl) fun f cdv A outer s H E hr =>
    es_cons (es_if ((ew_or (et_not (et_val (ev_isi (Ts := "tuple") (by rfl) z.b_isinstance (by rfl) z.b_tuple (by decide +kernel) (ev_var (pv 0))))) (ew_or1 (et_not (et_val (ev_callB (cr_all rfl) cd_all (by rfl) z.b_all (by decide +kernel) (ea_cons (ev_lc (own := [("step", 1)]) rfl sc_are_steps.nd (ei_any (ev_var (pv 0))) (blkOk_by (N := N_are_steps) (sc := defScope s_are_steps) (by decide +kernel)) (by decide) (fun _ _ _ _ _ => eg_nm (pg_name (i := 1) sc_are_steps.nd rfl (.inl rfl))) (fun _ _ _ _ _ => ets_nil) (fun _ _ _ _ _ => ev_andV (ev_isi (Ts := "str") (by rfl) z.b_isinstance (by rfl) z.b_str (by decide +kernel) (ev_var (pv 1))) (ev_one (ev_cmp (op_inA (hu65 hr)) od_in (ev_var (pv 1)) (ev_gtup (ys := ["names", "all", "first initial", "initials", "first given", "given", "title"]) (by rfl) z.c_STEPS) (by with_unfolding_all rfl))))) (ea_nil))))))).t) (es_one (es_ret (ev_bl))) (es_nil)) (es_one (es_ret (ev_cmp (op_eqD (hu64 hr)) od_eq (ev_len_set (hu65 hr) rfl (by rfl) z.b_len (by rfl) z.b_set (ev_var (pv 0))) (ev_callB call_lenA cd_len (by rfl) z.b_len PySem.boot_len (ea_cons (ev_var (pv 0)) (ea_nil))) (nomark _))))
abbrev s_is_style : Stmt := top 50
abbrev N_is_style : List Str := ["value"]
theorem sc_is_style : FnScope N_is_style ["value"] (defScope s_is_style) := ⟨rfl, rfl, rfl, by decide +kernel, rfl, by decide +kernel, by decide +kernel⟩
def m_is_style : Sl → Option Fl := mSeq (mIf (mTOr (mTNot (mB (mIsi "tuple" (mVar 0)))) (mTOr (mB (m2 neD (mCall lenD (mCons (mVar 0) (mNil))) (mC (.int 3)))) (mTNot (mB (mFn' 3 3 m_is_integer [false, false, false] [] (mCons (m2 ixD (mVar 0) (mC (.int 0))) (mCons (mC (.int 1)) (mCons (mC .none) (mNil))))))))) (mRet (mC (.bool false))) (mNext)) (mRet (mAndV (mFn' 3 3 m_is_integer [false, false, false] [] (mCons (m2 ixD (mVar 0) (mC (.int 1))) (mCons (mC (.int 1)) (mCons (m2 ixD (mVar 0) (mC (.int 0))) (mNil))))) (mFn' 1 2 m_are_steps [false] [] (mCons (m2 ixD (mVar 0) (mC (.int 2))) (mNil)))))
theorem c_is_style (z : Z K mg) : Cal P w K mg base 3 "is_style" ["value"] 1 1 m_is_style :=
  cal_mk z.f_is_style sc_is_style rfl rfl (fun _ _ _ _ _ _ us hl => match us, hl with | [_], _ => rfl) fun f cdv A outer s H E hr =>
    es_cons (es_if ((ew_or (et_not (et_val (ev_isi (Ts := "tuple") (by rfl) z.b_isinstance (by rfl) z.b_tuple (by decide +kernel) (ev_var (pv 0))))) (ew_or (et_cmp (op_neD (hu64 hr)) od_ne (ev_callB call_lenA cd_len (by rfl) z.b_len PySem.boot_len (ea_cons (ev_var (pv 0)) (ea_nil))) (ev_int) (nomark _)) (ew_or1 (et_not (et_val (ev_call [false, false, false] (c_is_integer z) (hr.mono (by decide)) (by rfl) (ea_cons (ev_sub ix_seq od_ix (ev_var (pv 0)) (ev_int) (fun _ _ => rfl)) (ea_cons (ev_int) (ea_cons (ev_non) (ea_nil)))))))))).t) (es_one (es_ret (ev_bl))) (es_nil)) (es_one (es_ret (ev_andV (ev_call [false, false, false] (c_is_integer z) (hr.mono (by decide)) (by rfl) (ea_cons (ev_sub ix_seq od_ix (ev_var (pv 0)) (ev_int) (fun _ _ => rfl)) (ea_cons (ev_int) (ea_cons (ev_sub ix_seq od_ix (ev_var (pv 0)) (ev_int) (fun _ _ => rfl)) (ea_nil))))) (ev_one (ev_call [false] (c_are_steps z) (hr.mono (by decide)) (by rfl) (ea_cons (ev_sub ix_seq od_ix (ev_var (pv 0)) (ev_int) (fun _ _ => rfl)) (ea_nil)))))))
abbrev s_check_style : Stmt := top 51
abbrev N_check_style : List Str := ["style"]
theorem sc_check_style : FnScope N_check_style ["style"] (defScope s_check_style) := ⟨rfl, rfl, rfl, by decide +kernel, rfl, by decide +kernel, by decide +kernel⟩
def m_check_style : Sl → Option Fl := mIf (mTNot (mB (mFn' 1 1 m_is_style [false] [] (mCons (mVar 0) (mNil))))) (mNever) (mNext)
theorem c_check_style (z : Z K mg) : Cal P w K mg base 4 "check_style" ["style"] 1 1 m_check_style :=
  cal_mk z.f_check_style sc_check_style rfl rfl (fun _ _ _ _ _ _ us hl => match us, hl with | [_], _ => rfl) fun f cdv A outer s H E hr =>
    es_one (es_if (et_not (et_val (ev_call [false] (c_is_style z) (hr.mono (by decide)) (by rfl) (ea_cons (ev_var (pv 0)) (ea_nil))))) (es_one (es_never)) (es_nil))
abbrev s_first_state : Stmt := top 52
abbrev N_first_state : List Str := ["most", "kept", "people"]
theorem sc_first_state : FnScope N_first_state ["most", "kept", "people"] (defScope s_first_state) := ⟨rfl, rfl, rfl, by decide +kernel, rfl, by decide +kernel, by decide +kernel⟩
def m_first_state : Sl → Option Fl := mRet (mTup (mCons (mIfE (mB (m2 leD (mVar 2) (mVar 0))) (mVar 2) (mVar 1)) (mCons (mC (.int 0)) (mCons (mC (.int 0)) (mCons (mC (.bool false)) (mNil))))))
theorem c_first_state (z : Z K mg) : Cal P w K mg base 2 "first_state" ["most", "kept", "people"] 3 3 m_first_state :=
  cal_mk z.f_first_state sc_first_state rfl rfl (fun _ _ _ _ _ _ us hl => match us, hl with | [_, _, _], _ => rfl) fun f cdv A outer s H E hr =>
    es_one (es_ret (ev_tup (ea_cons (ev_ifE (et_cmp (op_le) od_cmp (ev_var (pv 2)) (ev_var (pv 0)) (nomark _)) (ev_var (pv 2)) (ev_var (pv 1))) (ea_cons (ev_int) (ea_cons (ev_int) (ea_cons (ev_bl) (ea_nil)))))))
abbrev s_states_behind : Stmt := top 53
abbrev N_states_behind : List Str := ["state", "step", "people", "many", "first", "rest", "title", "shown"]
theorem sc_states_behind : FnScope N_states_behind ["state", "step", "people"] (defScope s_states_behind) := ⟨rfl, rfl, rfl, by decide +kernel, rfl, by decide +kernel, by decide +kernel⟩
def m_states_behind : Sl → Option Fl := mSeq (mUnp (gTp 4 (gsCons (gNm 3) (gsCons (gNm 4) (gsCons (gNm 5) (gsCons (gNm 6) (gsNil)))))) (mVar 0)) (mSeq (mIf (mB (m2 eqD (mVar 1) (mC (.str "names")))) (mRet (mLc [7] (mRng2 true (mCons (m2 addD (mVar 3) (mC (.int 1))) (mCons (m2 addD (mVar 2) (mC (.int 1))) (mNil)))) (gNm 7) (mYes) (mTup (mCons (mVar 7) (mCons (mVar 4) (mCons (mVar 5) (mCons (mVar 6) (mNil)))))))) (mNext)) (mSeq (mIf (mB (m2 eqD (mVar 1) (mC (.str "all")))) (mRet (mLst (mCons (mTup (mCons (mVar 2) (mCons (mVar 4) (mCons (mVar 5) (mCons (mVar 6) (mNil)))))) (mNil)))) (mNext)) (mSeq (mIf (mB (m2 eqD (mVar 1) (mC (.str "title")))) (mRet (mLst (mCons (mTup (mCons (mVar 3) (mCons (mVar 4) (mCons (mVar 5) (mCons (mC (.bool true)) (mNil)))))) (mNil)))) (mNext)) (mSeq (mIf (mB (m2 eqD (mVar 1) (mC (.str "first initial")))) (mRet (mLst (mCons (mTup (mCons (mVar 3) (mCons (mCall maxD (mCons (mVar 4) (mCons (mC (.int 1)) (mNil)))) (mCons (mVar 5) (mCons (mVar 6) (mNil)))))) (mNil)))) (mNext)) (mSeq (mIf (mB (m2 eqD (mVar 1) (mC (.str "initials")))) (mRet (mLst (mCons (mTup (mCons (mVar 3) (mCons (mCall maxD (mCons (mVar 4) (mCons (mC (.int 1)) (mNil)))) (mCons (mCall maxD (mCons (mVar 5) (mCons (mC (.int 1)) (mNil)))) (mCons (mVar 6) (mNil)))))) (mNil)))) (mNext)) (mRet (mLst (mCons (mTup (mCons (mVar 3) (mCons (mC (.int 2)) (mCons (mIfE (mB (m2 eqD (mVar 1) (mC (.str "first given")))) (mVar 5) (mC (.int 2))) (mCons (mVar 6) (mNil)))))) (mNil)))))))))
theorem c_states_behind (z : Z K mg) : Cal P w K mg base 2 "states_behind" ["state", "step", "people"] 3 8 m_states_behind :=
  cal_mk z.f_states_behind sc_states_behind rfl rfl (fun _ _ _ _ _ _ us hl => match us, hl with | [_, _, _], _ => rfl) fun f cdv A outer s H E hr =>
    es_cons (es_unp (ev_var (pv 0)) (eg_tp rfl (egs_cons (eg_nm (pg_name (i := 3) sc_states_behind.nd rfl (.inl rfl))) (egs_cons (eg_nm (pg_name (i := 4) sc_states_behind.nd rfl (.inr rfl))) (egs_cons (eg_nm (pg_name (i := 5) sc_states_behind.nd rfl (.inr rfl))) (egs_cons (eg_nm (pg_name (i := 6) sc_states_behind.nd rfl (.inr rfl))) (egs_nil))))))) (es_cons (es_if (et_cmp (op_eqD (hu64 hr)) od_eq (ev_var (pv 1)) (ev_gstr (by rfl) z.c_NAMES) (nomark _)) (es_one (es_ret (ev_lc (own := [("shown", 7)]) rfl sc_states_behind.nd (ei_range2 (by rfl) z.b_range (ea_cons (ev_bin op_addA od_add (ev_var (pv 3)) (ev_int)) (ea_cons (ev_bin op_addA od_add (ev_var (pv 2)) (ev_int)) (ea_nil)))) (blkOk_by (N := N_states_behind) (sc := defScope s_states_behind) (by decide +kernel)) (by decide) (fun _ _ _ _ _ => eg_nm (pg_name (i := 7) sc_states_behind.nd rfl (.inl rfl))) (fun _ _ _ _ _ => ets_nil) (fun _ _ _ _ _ => ev_tup (ea_cons (ev_var (pv 7)) (ea_cons (ev_var (pv 4)) (ea_cons (ev_var (pv 5)) (ea_cons (ev_var (pv 6)) (ea_nil))))))))) (es_nil)) (es_cons (es_if (et_cmp (op_eqD (hu64 hr)) od_eq (ev_var (pv 1)) (ev_gstr (by rfl) z.c_ALL) (nomark _)) (es_one (es_ret (ev_lst (ea_cons (ev_tup (ea_cons (ev_var (pv 2)) (ea_cons (ev_var (pv 4)) (ea_cons (ev_var (pv 5)) (ea_cons (ev_var (pv 6)) (ea_nil)))))) (ea_nil))))) (es_nil)) (es_cons (es_if (et_cmp (op_eqD (hu64 hr)) od_eq (ev_var (pv 1)) (ev_gstr (by rfl) z.c_TITLE) (nomark _)) (es_one (es_ret (ev_lst (ea_cons (ev_tup (ea_cons (ev_var (pv 3)) (ea_cons (ev_var (pv 4)) (ea_cons (ev_var (pv 5)) (ea_cons (ev_bl) (ea_nil)))))) (ea_nil))))) (es_nil)) (es_cons (es_if (et_cmp (op_eqD (hu64 hr)) od_eq (ev_var (pv 1)) (ev_gstr (by rfl) z.c_FIRST_INITIAL) (nomark _)) (es_one (es_ret (ev_lst (ea_cons (ev_tup (ea_cons (ev_var (pv 3)) (ea_cons (ev_callB (call_maxA rfl) cd_max (by rfl) z.b_max (by decide +kernel) (ea_cons (ev_var (pv 4)) (ea_cons (ev_int) (ea_nil)))) (ea_cons (ev_var (pv 5)) (ea_cons (ev_var (pv 6)) (ea_nil)))))) (ea_nil))))) (es_nil)) (es_cons (es_if (et_cmp (op_eqD (hu64 hr)) od_eq (ev_var (pv 1)) (ev_gstr (by rfl) z.c_INITIALS) (nomark _)) (es_one (es_ret (ev_lst (ea_cons (ev_tup (ea_cons (ev_var (pv 3)) (ea_cons (ev_callB (call_maxA rfl) cd_max (by rfl) z.b_max (by decide +kernel) (ea_cons (ev_var (pv 4)) (ea_cons (ev_int) (ea_nil)))) (ea_cons (ev_callB (call_maxA rfl) cd_max (by rfl) z.b_max (by decide +kernel) (ea_cons (ev_var (pv 5)) (ea_cons (ev_int) (ea_nil)))) (ea_cons (ev_var (pv 6)) (ea_nil)))))) (ea_nil))))) (es_nil)) (es_one (es_ret (ev_lst (ea_cons (ev_tup (ea_cons (ev_var (pv 3)) (ea_cons (ev_int) (ea_cons (ev_ifE (et_cmp (op_eqD (hu64 hr)) od_eq (ev_var (pv 1)) (ev_gstr (by rfl) z.c_FIRST_GIVEN) (nomark _)) (ev_var (pv 5)) (ev_int)) (ea_cons (ev_var (pv 6)) (ea_nil)))))) (ea_nil))))))))))
abbrev s_states_of : Stmt := top 54
abbrev N_states_of : List Str := ["style", "people", "most", "kept", "steps", "found", "step"]
theorem sc_states_of : FnScope N_states_of ["style", "people"] (defScope s_states_of) := ⟨rfl, rfl, rfl, by decide +kernel, rfl, by decide +kernel, by decide +kernel⟩
def m_states_of : Sl → Option Fl := mSeq (mUnp (gTp 3 (gsCons (gNm 2) (gsCons (gNm 3) (gsCons (gNm 4) (gsNil))))) (mVar 0)) (mSeq (mSet 5 (mLst (mCons (mFn' 3 3 m_first_state [false, false, false] [] (mCons (mVar 2) (mCons (mVar 3) (mCons (mVar 1) (mNil))))) (mNil)))) (mSeq (mFor (mItA (mVar 4)) (gNm 6) (mDrop (mOwnL 5 extD (mCons (mFn' 3 8 m_states_behind [false, false, false] [] (mCons (m2 ixD (mVar 5) (m1 negD (mC (.int 1)))) (mCons (mVar 6) (mCons (mVar 1) (mNil))))) (mNil))))) (mRet (mVar 5))))
theorem c_states_of (z : Z K mg) : Cal P w K mg base 3 "states_of" ["style", "people"] 2 7 m_states_of :=
  cal_mk z.f_states_of sc_states_of rfl rfl (fun _ _ _ _ _ _ us hl => match us, hl with | [_, _], _ => rfl) fun f cdv A outer s H E hr =>
    es_cons (es_unp (ev_var (pv 0)) (eg_tp rfl (egs_cons (eg_nm (pg_name (i := 2) sc_states_of.nd rfl (.inl rfl))) (egs_cons (eg_nm (pg_name (i := 3) sc_states_of.nd rfl (.inl rfl))) (egs_cons (eg_nm (pg_name (i := 4) sc_states_of.nd rfl (.inl rfl))) (egs_nil)))))) (es_cons (es_set (i := 5) sc_states_of.nd rfl (.inl rfl) (ev_lst (ea_cons (ev_call [false, false, false] (c_first_state z) (hr.mono (by decide)) (by rfl) (ea_cons (ev_var (pv 2)) (ea_cons (ev_var (pv 3)) (ea_cons (ev_var (pv 1)) (ea_nil))))) (ea_nil)))) (es_cons (es_for (bd := false) PassesOwn.never rfl (ei_any (ev_var (pv 4))) (eg_nm (pg_name (i := 6) sc_states_of.nd rfl (.inl rfl))) (es_one (es_expr (ev_own PySem.F.slot_list_extend PySem.F.type_list_extend mt_extend ow_ext (pv 5) (ea_cons (ev_call [false, false, false] (c_states_behind z) (hr.mono (by decide)) (by rfl) (ea_cons (ev_sub ix_seq od_ix (ev_var (pv 5)) (ev_un un_neg ud_neg (ev_int)) (fun _ _ => rfl)) (ea_cons (ev_var (pv 6)) (ea_cons (ev_var (pv 1)) (ea_nil))))) (ea_nil)))))) (es_one (es_ret (ev_var (pv 5))))))
abbrev s_shown_state : Stmt := top 55
abbrev N_shown_state : List Str := ["state", "many", "first", "rest", "title"]
theorem sc_shown_state : FnScope N_shown_state ["state"] (defScope s_shown_state) := ⟨rfl, rfl, rfl, by decide +kernel, rfl, by decide +kernel, by decide +kernel⟩
def m_shown_state : Sl → Option Fl := mSeq (mUnp (gTp 4 (gsCons (gNm 1) (gsCons (gNm 2) (gsCons (gNm 3) (gsCons (gNm 4) (gsNil)))))) (mVar 0)) (mRet (mTup (mCons (mVar 1) (mCons (mVar 2) (mCons (mIfE (mB (m2 gtD (mVar 1) (mC (.int 1)))) (mVar 3) (mC (.int 0))) (mCons (mVar 4) (mNil)))))))
theorem c_shown_state (z : Z K mg) : Cal P w K mg base 2 "shown_state" ["state"] 1 5 m_shown_state :=
  cal_mk z.f_shown_state sc_shown_state rfl rfl (fun _ _ _ _ _ _ us hl => match us, hl with | [_], _ => rfl) fun f cdv A outer s H E hr =>
    es_cons (es_unp (ev_var (pv 0)) (eg_tp rfl (egs_cons (eg_nm (pg_name (i := 1) sc_shown_state.nd rfl (.inl rfl))) (egs_cons (eg_nm (pg_name (i := 2) sc_shown_state.nd rfl (.inl rfl))) (egs_cons (eg_nm (pg_name (i := 3) sc_shown_state.nd rfl (.inl rfl))) (egs_cons (eg_nm (pg_name (i := 4) sc_shown_state.nd rfl (.inl rfl))) (egs_nil))))))) (es_one (es_ret (ev_tup (ea_cons (ev_var (pv 1)) (ea_cons (ev_var (pv 2)) (ea_cons (ev_ifE (et_cmp (op_gt) od_cmp (ev_var (pv 1)) (ev_int) (nomark _)) (ev_var (pv 3)) (ev_int)) (ea_cons (ev_var (pv 4)) (ea_nil))))))))
abbrev s_part_by : Stmt := top 56
abbrev N_part_by : List Str := ["given", "level"]
theorem sc_part_by : FnScope N_part_by ["given", "level"] (defScope s_part_by) := ⟨rfl, rfl, rfl, by decide +kernel, rfl, by decide +kernel, by decide +kernel⟩
def m_part_by : Sl → Option Fl := mRet (m2 ixD (mTup (mCons (mC (.str "")) (mCons (m2 addD (m2 ixD (mVar 0) (mC (.int 0))) (mC (.str "."))) (mCons (mVar 0) (mNil))))) (mVar 1))
theorem c_part_by (z : Z K mg) : Cal P w K mg base 2 "part_by" ["given", "level"] 2 2 m_part_by :=
  cal_mk z.f_part_by sc_part_by rfl rfl (fun _ _ _ _ _ _ us hl => match us, hl with | [_, _], _ => rfl) fun f cdv A outer s H E hr =>
    es_one (es_ret (ev_sub ix_seq od_ix (ev_tup (ea_cons (ev_str) (ea_cons (ev_bin op_addA od_add (ev_sub ix_seq od_ix (ev_var (pv 0)) (ev_int) (fun _ _ => rfl)) (ev_gstr (by rfl) z.c_POINT)) (ea_cons (ev_var (pv 0)) (ea_nil))))) (ev_var (pv 1)) (fun _ _ => rfl)))
abbrev s_label_by : Stmt := top 57
abbrev N_label_by : List Str := ["source", "state", "people", "year", "title", "many", "first", "rest", "is_titled", "pairs", "index", "family", "given"]
theorem sc_label_by : FnScope N_label_by ["source", "state"] (defScope s_label_by) := ⟨rfl, rfl, rfl, by decide +kernel, rfl, by decide +kernel, by decide +kernel⟩
def m_label_by : Sl → Option Fl := mSeq (mUnp (gTp 3 (gsCons (gNm 2) (gsCons (gNm 3) (gsCons (gNm 4) (gsNil))))) (mVar 0)) (mSeq (mUnp (gTp 4 (gsCons (gNm 5) (gsCons (gNm 6) (gsCons (gNm 7) (gsCons (gNm 8) (gsNil)))))) (mVar 1)) (mSeq (mSet 9 (mLc [10, 11, 12] (mEnum (mCons (mVar 2) (mNil))) (gTp 2 (gsCons (gNm 10) (gsCons (gTp 2 (gsCons (gNm 11) (gsCons (gNm 12) (gsNil)))) (gsNil)))) (mYes) (mTup (mCons (mVar 11) (mCons (mFn' 2 2 m_part_by [false, false] [] (mCons (mVar 12) (mCons (mIfE (mB (m2 gtD (mVar 10) (mC (.int 0)))) (mVar 7) (mVar 6)) (mNil)))) (mNil)))))) (mRet (mTup (mCons (mCall tupD1 (mCons (mSl (mVar 9) (mNoPart) (mPart (mVar 5))) (mNil))) (mCons (m2 ltD (mVar 5) (mCall lenD (mCons (mVar 2) (mNil)))) (mCons (mVar 3) (mCons (mIfE (mB (mVar 8)) (mVar 4) (mC .none)) (mCons (mC (.str "")) (mNil))))))))))
theorem c_label_by (z : Z K mg) : Cal P w K mg base 3 "label_by" ["source", "state"] 2 13 m_label_by :=
  cal_mk z.f_label_by sc_label_by rfl rfl (fun _ _ _ _ _ _ us hl => match us, hl with | [_, _], _ => rfl) fun f cdv A outer s H E hr =>
    es_cons (es_unp (ev_var (pv 0)) (eg_tp rfl (egs_cons (eg_nm (pg_name (i := 2) sc_label_by.nd rfl (.inl rfl))) (egs_cons (eg_nm (pg_name (i := 3) sc_label_by.nd rfl (.inl rfl))) (egs_cons (eg_nm (pg_name (i := 4) sc_label_by.nd rfl (.inl rfl))) (egs_nil)))))) (es_cons (es_unp (ev_var (pv 1)) (eg_tp rfl (egs_cons (eg_nm (pg_name (i := 5) sc_label_by.nd rfl (.inl rfl))) (egs_cons (eg_nm (pg_name (i := 6) sc_label_by.nd rfl (.inr rfl))) (egs_cons (eg_nm (pg_name (i := 7) sc_label_by.nd rfl (.inr rfl))) (egs_cons (eg_nm (pg_name (i := 8) sc_label_by.nd rfl (.inl rfl))) (egs_nil))))))) (es_cons (es_setLc (i := 9) (own := [("index", 10), ("family", 11), ("given", 12)]) rfl sc_label_by.nd rfl rfl (sw_true rfl rfl rfl (by decide +kernel)) (ei_enum (by rfl) z.b_enumerate (ea_cons (ev_var (pv 2)) (ea_nil))) (blkOk_by (N := N_label_by) (sc := defScope s_label_by) (by decide +kernel)) (by decide) (fun _ _ _ _ _ => eg_tp rfl (egs_cons (eg_nm (pg_name (i := 10) sc_label_by.nd rfl (.inl rfl))) (egs_cons (eg_tp rfl (egs_cons (eg_nm (pg_name (i := 11) sc_label_by.nd rfl (.inl rfl))) (egs_cons (eg_nm (pg_name (i := 12) sc_label_by.nd rfl (.inl rfl))) (egs_nil)))) (egs_nil)))) (fun _ _ _ _ _ => ets_nil) (fun _ _ _ _ _ => ev_tup (ea_cons (ev_var (pv 11)) (ea_cons (ev_call [false, false] (c_part_by z) (hr.mono (by decide)) (by rfl) (ea_cons (ev_var (pv 12)) (ea_cons (ev_ifE (et_cmp (op_gt) od_cmp (ev_var (pv 10)) (ev_int) (nomark _)) (ev_var (pv 7)) (ev_var (pv 6))) (ea_nil)))) (ea_nil))))) (es_one (es_ret (ev_tup (ea_cons (ev_callTy call_tuple_of cd_tup (by rfl) z.b_tuple (by decide +kernel) (ea_cons (ev_slice (ev_var (pv 9)) (eo_none) (eo_some (ev_var (pv 5)))) (ea_nil))) (ea_cons (ev_cmp (op_ltA (hu65 hr)) od_lt (ev_var (pv 5)) (ev_callB call_lenA cd_len (by rfl) z.b_len PySem.boot_len (ea_cons (ev_var (pv 2)) (ea_nil))) (nomark _)) (ea_cons (ev_var (pv 3)) (ea_cons (ev_ifE (et_val (ev_var (pv 8))) (ev_var (pv 4)) (ev_non)) (ea_cons (ev_str) (ea_nil)))))))))))
abbrev s_seen_states : Stmt := top 58
abbrev N_seen_states : List Str := ["style", "people", "found", "state", "seen"]
theorem sc_seen_states : FnScope N_seen_states ["style", "people"] (defScope s_seen_states) := ⟨rfl, rfl, rfl, by decide +kernel, rfl, by decide +kernel, by decide +kernel⟩
def m_seen_states : Sl → Option Fl := mSeq (mSet 2 (mLst (mNil))) (mSeq (mFor (mItA (mFn' 2 7 m_states_of [false, false] [] (mCons (mVar 0) (mCons (mVar 1) (mNil))))) (gNm 3) (mSeq (mSet 4 (mFn' 1 5 m_shown_state [false] [] (mCons (mVar 3) (mNil)))) (mIf (mTOr (mB (m2 eqD (mVar 2) (mLst (mNil)))) (mB (m2 neD (m2 ixD (mVar 2) (m1 negD (mC (.int 1)))) (mVar 4)))) (mDrop (mOwnL 2 appD (mCons (mVar 4) (mNil)))) (mNext)))) (mRet (mVar 2)))
theorem c_seen_states (z : Z K mg) : Cal P w K mg base 4 "seen_states" ["style", "people"] 2 5 m_seen_states :=
  cal_mk z.f_seen_states sc_seen_states rfl rfl (fun _ _ _ _ _ _ us hl => match us, hl with | [_, _], _ => rfl) fun f cdv A outer s H E hr =>
    es_cons (es_set (i := 2) sc_seen_states.nd rfl (.inl rfl) (ev_lst (ea_nil))) (es_cons (es_for (bd := false) PassesOwn.never rfl (ei_any (ev_call [false, false] (c_states_of z) (hr.mono (by decide)) (by rfl) (ea_cons (ev_var (pv 0)) (ea_cons (ev_var (pv 1)) (ea_nil))))) (eg_nm (pg_name (i := 3) sc_seen_states.nd rfl (.inl rfl))) (es_cons (es_set (i := 4) sc_seen_states.nd rfl (.inl rfl) (ev_call [false] (c_shown_state z) (hr.mono (by decide)) (by rfl) (ea_cons (ev_var (pv 3)) (ea_nil)))) (es_one (es_if ((ew_or (et_cmp (op_eqD (hu64 hr)) od_eq (ev_var (pv 2)) (ev_lst (ea_nil)) (nomark _)) (ew_or1 (et_cmp (op_neD (hu64 hr)) od_ne (ev_sub ix_seq od_ix (ev_var (pv 2)) (ev_un un_neg ud_neg (ev_int)) (fun _ _ => rfl)) (ev_var (pv 4)) (nomark _)))).t) (es_one (es_expr (ev_own PySem.F.slot_list_append PySem.F.type_list_append mt_append ow_app (pv 2) (ea_cons (ev_var (pv 4)) (ea_nil))))) (es_nil))))) (es_one (es_ret (ev_var (pv 2)))))
abbrev s_path_of : Stmt := top 59
abbrev N_path_of : List Str := ["style", "source", "state"]
theorem sc_path_of : FnScope N_path_of ["style", "source"] (defScope s_path_of) := ⟨rfl, rfl, rfl, by decide +kernel, rfl, by decide +kernel, by decide +kernel⟩
def m_path_of : Sl → Option Fl := mRet (mLc [2] (mItA (mFn' 2 5 m_seen_states [false, false] [] (mCons (mVar 0) (mCons (mCall lenD (mCons (m2 ixD (mVar 1) (mC (.int 0))) (mNil))) (mNil))))) (gNm 2) (mYes) (mFn' 2 13 m_label_by [false, false] [] (mCons (mVar 1) (mCons (mVar 2) (mNil)))))
theorem c_path_of (z : Z K mg) : Cal P w K mg base 5 "path_of" ["style", "source"] 2 3 m_path_of :=
  cal_mk z.f_path_of sc_path_of rfl rfl (fun _ _ _ _ _ _ us hl => match us, hl with | [_, _], _ => rfl) fun f cdv A outer s H E hr =>
    es_one (es_ret (ev_lc (own := [("state", 2)]) rfl sc_path_of.nd (ei_any (ev_call [false, false] (c_seen_states z) (hr.mono (by decide)) (by rfl) (ea_cons (ev_var (pv 0)) (ea_cons (ev_callB call_lenA cd_len (by rfl) z.b_len PySem.boot_len (ea_cons (ev_sub ix_seq od_ix (ev_var (pv 1)) (ev_int) (fun _ _ => rfl)) (ea_nil))) (ea_nil))))) (blkOk_by (N := N_path_of) (sc := defScope s_path_of) (by decide +kernel)) (by decide) (fun _ _ _ _ _ => eg_nm (pg_name (i := 2) sc_path_of.nd rfl (.inl rfl))) (fun _ _ _ _ _ => ets_nil) (fun _ _ _ _ _ => ev_call [false, false] (c_label_by z) (hr.mono (by decide)) (by rfl) (ea_cons (ev_var (pv 1)) (ea_cons (ev_var (pv 2)) (ea_nil))))))
abbrev s_path : Stmt := top 60
abbrev N_path : List Str := ["style", "source"]
theorem sc_path : FnScope N_path ["style", "source"] (defScope s_path) := ⟨rfl, rfl, rfl, by decide +kernel, rfl, by decide +kernel, by decide +kernel⟩
def m_path : Sl → Option Fl := mSeq (mDrop (mFn' 1 1 m_check_style [false] [] (mCons (mVar 0) (mNil)))) (mSeq (mDrop (mFn' 1 1 m_check_source [false] [] (mCons (mVar 1) (mNil)))) (mRet (mFn' 2 3 m_path_of [false, false] [] (mCons (mVar 0) (mCons (mVar 1) (mNil))))))
theorem c_path (z : Z K mg) : Cal P w K mg base 8 "path" ["style", "source"] 2 2 m_path :=
  cal_mk z.f_path sc_path rfl rfl (fun _ _ _ _ _ _ us hl => match us, hl with | [_, _], _ => rfl) fun f cdv A outer s H E hr =>
    es_cons (es_expr (ev_call [false] (c_check_style z) (hr.mono (by decide)) (by rfl) (ea_cons (ev_var (pv 0)) (ea_nil)))) (es_cons (es_expr (ev_call [false] (c_check_source z) (hr.mono (by decide)) (by rfl) (ea_cons (ev_var (pv 1)) (ea_nil)))) (es_one (es_ret (ev_call [false, false] (c_path_of z) (hr.mono (by decide)) (by rfl) (ea_cons (ev_var (pv 0)) (ea_cons (ev_var (pv 1)) (ea_nil)))))))
abbrev s_need_in : Stmt := top 62
abbrev N_need_in : List Str := ["path", "other", "index", "label"]
theorem sc_need_in : FnScope N_need_in ["path", "other"] (defScope s_need_in) := ⟨rfl, rfl, rfl, by decide +kernel, rfl, by decide +kernel, by decide +kernel⟩
def m_need_in : Sl → Option Fl := mSeq (mFor (mEnum (mCons (mVar 0) (mNil))) (gTp 2 (gsCons (gNm 2) (gsCons (gNm 3) (gsNil)))) (mIf (mTNot (mB (mFn' 2 9 m_fits_source [false, false] [] (mCons (mVar 3) (mCons (mVar 1) (mNil)))))) (mRet (mVar 2)) (mNext))) (mRet (mC .none))
theorem c_need_in (z : Z K mg) : Cal P w K mg base 4 "need_in" ["path", "other"] 2 4 m_need_in :=
  cal_mk z.f_need_in sc_need_in rfl rfl (fun _ _ _ _ _ _ us hl => match us, hl with | [_, _], _ => rfl) fun f cdv A outer s H E hr =>
    es_cons (es_for (bd := false) PassesOwn.never rfl (ei_enum (by rfl) z.b_enumerate (ea_cons (ev_var (pv 0)) (ea_nil))) (eg_tp rfl (egs_cons (eg_nm (pg_name (i := 2) sc_need_in.nd rfl (.inl rfl))) (egs_cons (eg_nm (pg_name (i := 3) sc_need_in.nd rfl (.inl rfl))) (egs_nil)))) (es_one (es_if (et_not (et_val (ev_call [false, false] (c_fits_source z) (hr.mono (by decide)) (by rfl) (ea_cons (ev_var (pv 3)) (ea_cons (ev_var (pv 1)) (ea_nil)))))) (es_one (es_ret (ev_var (pv 2)))) (es_nil)))) (es_one (es_ret (ev_non)))
abbrev s_as_number : Stmt := top 63
abbrev N_as_number : List Str := ["place", "path"]
theorem sc_as_number : FnScope N_as_number ["place", "path"] (defScope s_as_number) := ⟨rfl, rfl, rfl, by decide +kernel, rfl, by decide +kernel, by decide +kernel⟩
def m_as_number : Sl → Option Fl := mRet (mIfE (mB (mIsN false (mVar 0))) (mCall lenD (mCons (mVar 1) (mNil))) (mVar 0))
theorem c_as_number (z : Z K mg) : Cal P w K mg base 2 "as_number" ["place", "path"] 2 2 m_as_number :=
  cal_mk z.f_as_number sc_as_number rfl rfl (fun _ _ _ _ _ _ us hl => match us, hl with | [_, _], _ => rfl) fun f cdv A outer s H E hr =>
    es_one (es_ret (ev_ifE (et_isN (ev_var (pv 0))) (ev_callB call_lenA cd_len (by rfl) z.b_len PySem.boot_len (ea_cons (ev_var (pv 1)) (ea_nil))) (ev_var (pv 0))))
abbrev s_needs_in : Stmt := top 64
abbrev N_needs_in : List Str := ["style", "library", "index", "source", "path", "found", "other"]
theorem sc_needs_in : FnScope N_needs_in ["style", "library", "index"] (defScope s_needs_in) := ⟨rfl, rfl, rfl, by decide +kernel, rfl, by decide +kernel, by decide +kernel⟩
def m_needs_in : Sl → Option Fl := mSeq (mSet 3 (m2 ixD (mVar 1) (mVar 2))) (mSeq (mSet 4 (mFn' 2 3 m_path_of [false, false] [] (mCons (mVar 0) (mCons (mVar 3) (mNil))))) (mSeq (mSet 5 (mLc [6] (mItA (mVar 1)) (gNm 6) (mYes) (mIfE (mB (m2 eqD (mVar 6) (mVar 3))) (mC (.int 0)) (mFn' 2 2 m_as_number [false, false] [] (mCons (mFn' 2 4 m_need_in [false, false] [] (mCons (mVar 4) (mCons (mVar 6) (mNil)))) (mCons (mVar 4) (mNil))))))) (mRet (mTup (mCons (mVar 4) (mCons (mVar 5) (mNil)))))))
theorem c_needs_in (z : Z K mg) : Cal P w K mg base 6 "needs_in" ["style", "library", "index"] 3 7 m_needs_in :=
  cal_mk z.f_needs_in sc_needs_in rfl rfl (fun _ _ _ _ _ _ us hl => match us, hl with | [_, _, _], _ => rfl) fun f cdv A outer s H E hr =>
    es_cons (es_set (i := 3) sc_needs_in.nd rfl (.inr rfl) (ev_sub ix_seq od_ix (ev_var (pv 1)) (ev_var (pv 2)) (fun _ _ => rfl))) (es_cons (es_set (i := 4) sc_needs_in.nd rfl (.inr rfl) (ev_call [false, false] (c_path_of z) (hr.mono (by decide)) (by rfl) (ea_cons (ev_var (pv 0)) (ea_cons (ev_var (pv 3)) (ea_nil))))) (es_cons (es_setLc (i := 5) (own := [("other", 6)]) rfl sc_needs_in.nd rfl rfl (sw_true rfl rfl rfl (by decide +kernel)) (ei_any (ev_var (pv 1))) (blkOk_by (N := N_needs_in) (sc := defScope s_needs_in) (by decide +kernel)) (by decide) (fun _ _ _ _ _ => eg_nm (pg_name (i := 6) sc_needs_in.nd rfl (.inl rfl))) (fun _ _ _ _ _ => ets_nil) (fun _ _ _ _ _ => ev_ifE (et_cmp (op_eqD (hu64 hr)) od_eq (ev_var (pv 6)) (ev_var (pv 3)) (nomark _)) (ev_int) (ev_call [false, false] (c_as_number z) (hr.mono (by decide)) (by rfl) (ea_cons (ev_call [false, false] (c_need_in z) (hr.mono (by decide)) (by rfl) (ea_cons (ev_var (pv 4)) (ea_cons (ev_var (pv 6)) (ea_nil)))) (ea_cons (ev_var (pv 4)) (ea_nil)))))) (es_one (es_ret (ev_tup (ea_cons (ev_var (pv 4)) (ea_cons (ev_var (pv 5)) (ea_nil))))))))
abbrev s_place_in : Stmt := top 65
abbrev N_place_in : List Str := ["style", "library", "index", "path", "needs"]
theorem sc_place_in : FnScope N_place_in ["style", "library", "index"] (defScope s_place_in) := ⟨rfl, rfl, rfl, by decide +kernel, rfl, by decide +kernel, by decide +kernel⟩
def m_place_in : Sl → Option Fl := mSeq (mUnp (gTp 2 (gsCons (gNm 3) (gsCons (gNm 4) (gsNil)))) (mFn' 3 7 m_needs_in [false, false, false] [] (mCons (mVar 0) (mCons (mVar 1) (mCons (mVar 2) (mNil)))))) (mRet (mIfE (mB (m2 ltD (mCall maxD (mCons (mVar 4) (mNil))) (mCall lenD (mCons (mVar 3) (mNil))))) (mCall maxD (mCons (mVar 4) (mNil))) (mC .none)))
theorem c_place_in (z : Z K mg) : Cal P w K mg base 7 "place_in" ["style", "library", "index"] 3 5 m_place_in :=
  cal_mk z.f_place_in sc_place_in rfl rfl (fun _ _ _ _ _ _ us hl => match us, hl with | [_, _, _], _ => rfl) fun f cdv A outer s H E hr =>
    es_cons (es_unp (ev_call [false, false, false] (c_needs_in z) (hr.mono (by decide)) (by rfl) (ea_cons (ev_var (pv 0)) (ea_cons (ev_var (pv 1)) (ea_cons (ev_var (pv 2)) (ea_nil))))) (eg_tp rfl (egs_cons (eg_nm (pg_name (i := 3) sc_place_in.nd rfl (.inl rfl))) (egs_cons (eg_nm (pg_name (i := 4) sc_place_in.nd rfl (.inl rfl))) (egs_nil))))) (es_one (es_ret (ev_ifE (et_cmp (op_ltA (hu65 hr)) od_lt (ev_callB (call_maxA rfl) cd_max (by rfl) z.b_max (by decide +kernel) (ea_cons (ev_var (pv 4)) (ea_nil))) (ev_callB call_lenA cd_len (by rfl) z.b_len PySem.boot_len (ea_cons (ev_var (pv 3)) (ea_nil))) (nomark _)) (ev_callB (call_maxA rfl) cd_max (by rfl) z.b_max (by decide +kernel) (ea_cons (ev_var (pv 4)) (ea_nil))) (ev_non))))
abbrev s_plain_label : Stmt := top 66
abbrev N_plain_label : List Str := ["style", "library", "index", "path", "needs", "place"]
theorem sc_plain_label : FnScope N_plain_label ["style", "library", "index"] (defScope s_plain_label) := ⟨rfl, rfl, rfl, by decide +kernel, rfl, by decide +kernel, by decide +kernel⟩
def m_plain_label : Sl → Option Fl := mSeq (mUnp (gTp 2 (gsCons (gNm 3) (gsCons (gNm 4) (gsNil)))) (mFn' 3 7 m_needs_in [false, false, false] [] (mCons (mVar 0) (mCons (mVar 1) (mCons (mVar 2) (mNil)))))) (mSeq (mSet 5 (mCall maxD (mCons (mVar 4) (mNil)))) (mRet (mTup (mCons (m2 ixD (mVar 3) (mCall minD (mCons (mVar 5) (mCons (m2 subD (mCall lenD (mCons (mVar 3) (mNil))) (mC (.int 1))) (mNil))))) (mCons (m2 eqD (mVar 5) (mCall lenD (mCons (mVar 3) (mNil)))) (mNil))))))
theorem c_plain_label (z : Z K mg) : Cal P w K mg base 7 "plain_label" ["style", "library", "index"] 3 6 m_plain_label :=
  cal_mk z.f_plain_label sc_plain_label rfl rfl (fun _ _ _ _ _ _ us hl => match us, hl with | [_, _, _], _ => rfl) fun f cdv A outer s H E hr =>
    es_cons (es_unp (ev_call [false, false, false] (c_needs_in z) (hr.mono (by decide)) (by rfl) (ea_cons (ev_var (pv 0)) (ea_cons (ev_var (pv 1)) (ea_cons (ev_var (pv 2)) (ea_nil))))) (eg_tp rfl (egs_cons (eg_nm (pg_name (i := 3) sc_plain_label.nd rfl (.inl rfl))) (egs_cons (eg_nm (pg_name (i := 4) sc_plain_label.nd rfl (.inl rfl))) (egs_nil))))) (es_cons (es_set (i := 5) sc_plain_label.nd rfl (.inl rfl) (ev_callB (call_maxA rfl) cd_max (by rfl) z.b_max (by decide +kernel) (ea_cons (ev_var (pv 4)) (ea_nil)))) (es_one (es_ret (ev_tup (ea_cons (ev_sub ix_seq od_ix (ev_var (pv 3)) (ev_callB (call_minA rfl) cd_min (by rfl) z.b_min (by decide +kernel) (ea_cons (ev_var (pv 5)) (ea_cons (ev_bin op_sub od_sub (ev_callB call_lenA cd_len (by rfl) z.b_len PySem.boot_len (ea_cons (ev_var (pv 3)) (ea_nil))) (ev_int)) (ea_nil)))) (fun _ _ => rfl)) (ea_cons (ev_cmp (op_eqD (hu64 hr)) od_eq (ev_var (pv 5)) (ev_callB call_lenA cd_len (by rfl) z.b_len PySem.boot_len (ea_cons (ev_var (pv 3)) (ea_nil))) (nomark _)) (ea_nil)))))))
abbrev s_with_letters : Stmt := top 67
abbrev N_with_letters : List Str := ["library", "plains", "ranks", "found", "source", "label", "is_lettered", "number"]
theorem sc_with_letters : FnScope N_with_letters ["library", "plains"] (defScope s_with_letters) := ⟨rfl, rfl, rfl, by decide +kernel, rfl, by decide +kernel, by decide +kernel⟩
def m_with_letters : Sl → Option Fl := mSeq (mSet 2 (mDct)) (mSeq (mSet 3 (mDct)) (mSeq (mFor (mItA (mSortedZip (mCons (mVar 0) (mCons (mVar 1) (mNil))))) (gTp 2 (gsCons (gNm 4) (gsCons (gTp 2 (gsCons (gNm 5) (gsCons (gNm 6) (gsNil)))) (gsNil)))) (mSeq (mSet 7 (mDGet 2 (mCons (mVar 5) (mCons (mC (.int 0)) (mNil))))) (mSeq (mSetKey 3 (mVar 4) (mTup (mStar (mSl (mVar 5) (mNoPart) (mPart (mC (.int 4)))) (mCons (mIfE (mB (mVar 6)) (mFn' 1 3 m_written_letters [false] [] (mCons (mVar 7) (mNil))) (mC (.str ""))) (mNil))))) (mSetKey 2 (mVar 5) (m2 addD (mVar 7) (mCall intD1 (mCons (mVar 6) (mNil)))))))) (mRet (mLc [4] (mItA (mVar 0)) (gNm 4) (mYes) (mDX 3 (mVar 4))))))
theorem c_with_letters (z : Z K mg) : Cal P w K mg base 3 "with_letters" ["library", "plains"] 2 8 m_with_letters :=
  cal_mk z.f_with_letters sc_with_letters rfl rfl (fun _ _ _ _ _ _ us hl => match us, hl with | [_, _], _ => rfl) fun f cdv A outer s H E hr =>
    es_cons (es_set (i := 2) sc_with_letters.nd rfl (.inl rfl) (ev_dct)) (es_cons (es_set (i := 3) sc_with_letters.nd rfl (.inr rfl) (ev_dct)) (es_cons (es_for (bd := false) PassesOwn.never rfl (ei_any (ev_sorted_zip (hu65 hr) rfl (by rfl) z.b_sorted (by rfl) z.b_zip (ea_cons (ev_var (pv 0)) (ea_cons (ev_var (pv 1)) (ea_nil))))) (eg_tp rfl (egs_cons (eg_nm (pg_name (i := 4) sc_with_letters.nd rfl (.inl rfl))) (egs_cons (eg_tp rfl (egs_cons (eg_nm (pg_name (i := 5) sc_with_letters.nd rfl (.inl rfl))) (egs_cons (eg_nm (pg_name (i := 6) sc_with_letters.nd rfl (.inl rfl))) (egs_nil)))) (egs_nil)))) (es_cons (es_set (i := 7) sc_with_letters.nd rfl (.inl rfl) (ev_dget (hu65 hr) (pv 2) (ea_cons (ev_var (pv 5)) (ea_cons (ev_int) (ea_nil))))) (es_cons (es_setKey (hu65 hr) (pv 3) (ev_var (pv 4)) (ev_tup (ea_star (ev_slice (ev_var (pv 5)) (eo_none) (eo_some (ev_int))) (ea_cons (ev_ifE (et_val (ev_var (pv 6))) (ev_call [false] (c_written_letters z) (hr.mono (by decide)) (by rfl) (ea_cons (ev_var (pv 7)) (ea_nil))) (ev_str)) (ea_nil))))) (es_one (es_setKey (hu65 hr) (pv 2) (ev_var (pv 5)) (ev_bin op_addA od_add (ev_var (pv 7)) (ev_callTy call_int1 cd_int (by rfl) z.b_int (by decide +kernel) (ea_cons (ev_var (pv 6)) (ea_nil))))))))) (es_one (es_ret (ev_lc (own := [("source", 4)]) rfl sc_with_letters.nd (ei_any (ev_var (pv 0))) (blkOk_by (N := N_with_letters) (sc := defScope s_with_letters) (by decide +kernel)) (by decide) (fun _ _ _ _ _ => eg_nm (pg_name (i := 4) sc_with_letters.nd rfl (.inl rfl))) (fun _ _ _ _ _ => ets_nil) (fun _ _ _ _ _ => ev_dx (hu65 hr) (pv 3) (ev_var (pv 4))))))))
abbrev s_all_labels : Stmt := top 68
abbrev N_all_labels : List Str := ["style", "library", "index"]
theorem sc_all_labels : FnScope N_all_labels ["style", "library"] (defScope s_all_labels) := ⟨rfl, rfl, rfl, by decide +kernel, rfl, by decide +kernel, by decide +kernel⟩
def m_all_labels : Sl → Option Fl := mRet (mFn' 2 8 m_with_letters [false, false] [] (mCons (mVar 1) (mCons (mLc [2] (mRng1 true (mCons (mCall lenD (mCons (mVar 1) (mNil))) (mNil))) (gNm 2) (mYes) (mFn' 3 6 m_plain_label [false, false, false] [] (mCons (mVar 0) (mCons (mVar 1) (mCons (mVar 2) (mNil)))))) (mNil))))
theorem c_all_labels (z : Z K mg) : Cal P w K mg base 8 "all_labels" ["style", "library"] 2 3 m_all_labels :=
  cal_mk z.f_all_labels sc_all_labels rfl rfl (fun _ _ _ _ _ _ us hl => match us, hl with | [_, _], _ => rfl) fun f cdv A outer s H E hr =>
    es_one (es_ret (ev_call [false, false] (c_with_letters z) (hr.mono (by decide)) (by rfl) (ea_cons (ev_var (pv 1)) (ea_cons (ev_lc (own := [("index", 2)]) rfl sc_all_labels.nd (ei_range1 (by rfl) z.b_range (ea_cons (ev_callB call_lenA cd_len (by rfl) z.b_len PySem.boot_len (ea_cons (ev_var (pv 1)) (ea_nil))) (ea_nil))) (blkOk_by (N := N_all_labels) (sc := defScope s_all_labels) (by decide +kernel)) (by decide) (fun _ _ _ _ _ => eg_nm (pg_name (i := 2) sc_all_labels.nd rfl (.inl rfl))) (fun _ _ _ _ _ => ets_nil) (fun _ _ _ _ _ => ev_call [false, false, false] (c_plain_label z) (hr.mono (by decide)) (by rfl) (ea_cons (ev_var (pv 0)) (ea_cons (ev_var (pv 1)) (ea_cons (ev_var (pv 2)) (ea_nil)))))) (ea_nil)))))
abbrev s_label_at : Stmt := top 69
abbrev N_label_at : List Str := ["style", "library", "index"]
theorem sc_label_at : FnScope N_label_at ["style", "library", "index"] (defScope s_label_at) := ⟨rfl, rfl, rfl, by decide +kernel, rfl, by decide +kernel, by decide +kernel⟩
def m_label_at : Sl → Option Fl := mRet (m2 ixD (mFn' 2 3 m_all_labels [false, false] [] (mCons (mVar 0) (mCons (mVar 1) (mNil)))) (mVar 2))
theorem c_label_at (z : Z K mg) : Cal P w K mg base 9 "label_at" ["style", "library", "index"] 3 3 m_label_at :=
  cal_mk z.f_label_at sc_label_at rfl rfl (fun _ _ _ _ _ _ us hl => match us, hl with | [_, _, _], _ => rfl) fun f cdv A outer s H E hr =>
    es_one (es_ret (ev_sub ix_seq od_ix (ev_call [false, false] (c_all_labels z) (hr.mono (by decide)) (by rfl) (ea_cons (ev_var (pv 0)) (ea_cons (ev_var (pv 1)) (ea_nil)))) (ev_var (pv 2)) (fun _ _ => rfl)))
abbrev s_check_place : Stmt := top 70
abbrev N_check_place : List Str := ["style", "library", "index"]
theorem sc_check_place : FnScope N_check_place ["style", "library", "index"] (defScope s_check_place) := ⟨rfl, rfl, rfl, by decide +kernel, rfl, by decide +kernel, by decide +kernel⟩
def m_check_place : Sl → Option Fl := mSeq (mDrop (mFn' 1 1 m_check_style [false] [] (mCons (mVar 0) (mNil)))) (mSeq (mDrop (mFn' 1 1 m_check_library [false] [] (mCons (mVar 1) (mNil)))) (mDrop (mFn' 2 2 m_check_index [false, false] [] (mCons (mVar 1) (mCons (mVar 2) (mNil))))))
theorem c_check_place (z : Z K mg) : Cal P w K mg base 9 "check_place" ["style", "library", "index"] 3 3 m_check_place :=
  cal_mk z.f_check_place sc_check_place rfl rfl (fun _ _ _ _ _ _ us hl => match us, hl with | [_, _, _], _ => rfl) fun f cdv A outer s H E hr =>
    es_cons (es_expr (ev_call [false] (c_check_style z) (hr.mono (by decide)) (by rfl) (ea_cons (ev_var (pv 0)) (ea_nil)))) (es_cons (es_expr (ev_call [false] (c_check_library z) (hr.mono (by decide)) (by rfl) (ea_cons (ev_var (pv 1)) (ea_nil)))) (es_one (es_expr (ev_call [false, false] (c_check_index z) (hr.mono (by decide)) (by rfl) (ea_cons (ev_var (pv 1)) (ea_cons (ev_var (pv 2)) (ea_nil)))))))
abbrev s_need : Stmt := top 71
abbrev N_need : List Str := ["style", "source", "other"]
theorem sc_need : FnScope N_need ["style", "source", "other"] (defScope s_need) := ⟨rfl, rfl, rfl, by decide +kernel, rfl, by decide +kernel, by decide +kernel⟩
def m_need : Sl → Option Fl := mSeq (mDrop (mFn' 1 1 m_check_style [false] [] (mCons (mVar 0) (mNil)))) (mSeq (mDrop (mFn' 1 1 m_check_source [false] [] (mCons (mVar 1) (mNil)))) (mSeq (mDrop (mFn' 1 1 m_check_source [false] [] (mCons (mVar 2) (mNil)))) (mSeq (mIf (mB (m2 eqD (mVar 1) (mVar 2))) (mNever) (mNext)) (mRet (mFn' 2 4 m_need_in [false, false] [] (mCons (mFn' 2 3 m_path_of [false, false] [] (mCons (mVar 0) (mCons (mVar 1) (mNil)))) (mCons (mVar 2) (mNil))))))))
theorem c_need (z : Z K mg) : Cal P w K mg base 8 "need" ["style", "source", "other"] 3 3 m_need :=
  cal_mk z.f_need sc_need rfl rfl (fun _ _ _ _ _ _ us hl => match us, hl with | [_, _, _], _ => rfl) fun f cdv A outer s H E hr =>
    es_cons (es_expr (ev_call [false] (c_check_style z) (hr.mono (by decide)) (by rfl) (ea_cons (ev_var (pv 0)) (ea_nil)))) (es_cons (es_expr (ev_call [false] (c_check_source z) (hr.mono (by decide)) (by rfl) (ea_cons (ev_var (pv 1)) (ea_nil)))) (es_cons (es_expr (ev_call [false] (c_check_source z) (hr.mono (by decide)) (by rfl) (ea_cons (ev_var (pv 2)) (ea_nil)))) (es_cons (es_if (et_cmp (op_eqD (hu64 hr)) od_eq (ev_var (pv 1)) (ev_var (pv 2)) (nomark _)) (es_one (es_never)) (es_nil)) (es_one (es_ret (ev_call [false, false] (c_need_in z) (hr.mono (by decide)) (by rfl) (ea_cons (ev_call [false, false] (c_path_of z) (hr.mono (by decide)) (by rfl) (ea_cons (ev_var (pv 0)) (ea_cons (ev_var (pv 1)) (ea_nil)))) (ea_cons (ev_var (pv 2)) (ea_nil)))))))))
abbrev s_place_of : Stmt := top 72
abbrev N_place_of : List Str := ["style", "library", "index"]
theorem sc_place_of : FnScope N_place_of ["style", "library", "index"] (defScope s_place_of) := ⟨rfl, rfl, rfl, by decide +kernel, rfl, by decide +kernel, by decide +kernel⟩
def m_place_of : Sl → Option Fl := mSeq (mDrop (mFn' 3 3 m_check_place [false, false, false] [] (mCons (mVar 0) (mCons (mVar 1) (mCons (mVar 2) (mNil)))))) (mRet (mFn' 3 5 m_place_in [false, false, false] [] (mCons (mVar 0) (mCons (mVar 1) (mCons (mVar 2) (mNil))))))
theorem c_place_of (z : Z K mg) : Cal P w K mg base 10 "place_of" ["style", "library", "index"] 3 3 m_place_of :=
  cal_mk z.f_place_of sc_place_of rfl rfl (fun _ _ _ _ _ _ us hl => match us, hl with | [_, _, _], _ => rfl) fun f cdv A outer s H E hr =>
    es_cons (es_expr (ev_call [false, false, false] (c_check_place z) (hr.mono (by decide)) (by rfl) (ea_cons (ev_var (pv 0)) (ea_cons (ev_var (pv 1)) (ea_cons (ev_var (pv 2)) (ea_nil)))))) (es_one (es_ret (ev_call [false, false, false] (c_place_in z) (hr.mono (by decide)) (by rfl) (ea_cons (ev_var (pv 0)) (ea_cons (ev_var (pv 1)) (ea_cons (ev_var (pv 2)) (ea_nil)))))))
abbrev s_label_of : Stmt := top 73
abbrev N_label_of : List Str := ["style", "library", "index"]
theorem sc_label_of : FnScope N_label_of ["style", "library", "index"] (defScope s_label_of) := ⟨rfl, rfl, rfl, by decide +kernel, rfl, by decide +kernel, by decide +kernel⟩
def m_label_of : Sl → Option Fl := mSeq (mDrop (mFn' 3 3 m_check_place [false, false, false] [] (mCons (mVar 0) (mCons (mVar 1) (mCons (mVar 2) (mNil)))))) (mRet (mFn' 3 3 m_label_at [false, false, false] [] (mCons (mVar 0) (mCons (mVar 1) (mCons (mVar 2) (mNil))))))
theorem c_label_of (z : Z K mg) : Cal P w K mg base 10 "label_of" ["style", "library", "index"] 3 3 m_label_of :=
  cal_mk z.f_label_of sc_label_of rfl rfl (fun _ _ _ _ _ _ us hl => match us, hl with | [_, _, _], _ => rfl) fun f cdv A outer s H E hr =>
    es_cons (es_expr (ev_call [false, false, false] (c_check_place z) (hr.mono (by decide)) (by rfl) (ea_cons (ev_var (pv 0)) (ea_cons (ev_var (pv 1)) (ea_cons (ev_var (pv 2)) (ea_nil)))))) (es_one (es_ret (ev_call [false, false, false] (c_label_at z) (hr.mono (by decide)) (by rfl) (ea_cons (ev_var (pv 0)) (ea_cons (ev_var (pv 1)) (ea_cons (ev_var (pv 2)) (ea_nil)))))))
abbrev s_labels : Stmt := top 74
abbrev N_labels : List Str := ["style", "library"]
theorem sc_labels : FnScope N_labels ["style", "library"] (defScope s_labels) := ⟨rfl, rfl, rfl, by decide +kernel, rfl, by decide +kernel, by decide +kernel⟩
def m_labels : Sl → Option Fl := mSeq (mDrop (mFn' 1 1 m_check_style [false] [] (mCons (mVar 0) (mNil)))) (mSeq (mDrop (mFn' 1 1 m_check_library [false] [] (mCons (mVar 1) (mNil)))) (mRet (mFn' 2 3 m_all_labels [false, false] [] (mCons (mVar 0) (mCons (mVar 1) (mNil))))))
theorem c_labels (z : Z K mg) : Cal P w K mg base 9 "labels" ["style", "library"] 2 2 m_labels :=
  cal_mk z.f_labels sc_labels rfl rfl (fun _ _ _ _ _ _ us hl => match us, hl with | [_, _], _ => rfl) fun f cdv A outer s H E hr =>
    es_cons (es_expr (ev_call [false] (c_check_style z) (hr.mono (by decide)) (by rfl) (ea_cons (ev_var (pv 0)) (ea_nil)))) (es_cons (es_expr (ev_call [false] (c_check_library z) (hr.mono (by decide)) (by rfl) (ea_cons (ev_var (pv 1)) (ea_nil)))) (es_one (es_ret (ev_call [false, false] (c_all_labels z) (hr.mono (by decide)) (by rfl) (ea_cons (ev_var (pv 0)) (ea_cons (ev_var (pv 1)) (ea_nil)))))))
abbrev s_reason : Stmt := top 75
abbrev N_reason : List Str := ["style", "library", "index", "path", "needs"]
theorem sc_reason : FnScope N_reason ["style", "library", "index"] (defScope s_reason) := ⟨rfl, rfl, rfl, by decide +kernel, rfl, by decide +kernel, by decide +kernel⟩
def m_reason : Sl → Option Fl := mSeq (mDrop (mFn' 3 3 m_check_place [false, false, false] [] (mCons (mVar 0) (mCons (mVar 1) (mCons (mVar 2) (mNil)))))) (mSeq (mUnp (gTp 2 (gsCons (gNm 3) (gsCons (gNm 4) (gsNil)))) (mFn' 3 7 m_needs_in [false, false, false] [] (mCons (mVar 0) (mCons (mVar 1) (mCons (mVar 2) (mNil)))))) (mRet (mIfE (mB (m2 gtD (mCall maxD (mCons (mVar 4) (mNil))) (mC (.int 0)))) (mMeth "list" indexD (mVar 4) (mCons (mCall maxD (mCons (mVar 4) (mNil))) (mNil))) (mC .none))))
theorem c_reason (z : Z K mg) : Cal P w K mg base 10 "reason" ["style", "library", "index"] 3 5 m_reason :=
  cal_mk z.f_reason sc_reason rfl rfl (fun _ _ _ _ _ _ us hl => match us, hl with | [_, _, _], _ => rfl) fun f cdv A outer s H E hr =>
    es_cons (es_expr (ev_call [false, false, false] (c_check_place z) (hr.mono (by decide)) (by rfl) (ea_cons (ev_var (pv 0)) (ea_cons (ev_var (pv 1)) (ea_cons (ev_var (pv 2)) (ea_nil)))))) (es_cons (es_unp (ev_call [false, false, false] (c_needs_in z) (hr.mono (by decide)) (by rfl) (ea_cons (ev_var (pv 0)) (ea_cons (ev_var (pv 1)) (ea_cons (ev_var (pv 2)) (ea_nil))))) (eg_tp rfl (egs_cons (eg_nm (pg_name (i := 3) sc_reason.nd rfl (.inl rfl))) (egs_cons (eg_nm (pg_name (i := 4) sc_reason.nd rfl (.inl rfl))) (egs_nil))))) (es_one (es_ret (ev_ifE (et_cmp (op_gt) od_cmp (ev_callB (call_maxA rfl) cd_max (by rfl) z.b_max (by decide +kernel) (ea_cons (ev_var (pv 4)) (ea_nil))) (ev_int) (nomark _)) (ev_meth PySem.F.plainAttrs_list PySem.F.slot_list_index PySem.F.type_list_index (mt_indexD (hu65 hr)) md_index (ev_var (pv 4)) (ea_cons (ev_callB (call_maxA rfl) cd_max (by rfl) z.b_max (by decide +kernel) (ea_cons (ev_var (pv 4)) (ea_nil))) (ea_nil))) (ev_non)))))
abbrev s__law_well : Stmt := top 77
abbrev N__law_well : List Str := ["script", "at", "cell"]
theorem sc__law_well : FnScope N__law_well ["script", "at"] (defScope s__law_well) := ⟨rfl, rfl, rfl, by decide +kernel, rfl, by decide +kernel, by decide +kernel⟩
def m__law_well : Sl → Option Fl := mSeq (mSet 2 (mIfE (mB (m2 ltD (mVar 1) (mCall lenD (mCons (mVar 0) (mNil))))) (m2 ixD (mVar 0) (mVar 1)) (mC (.int 0)))) (mRet (mLst (mCons (mCall maxD (mCons (mC (.int 0)) (mCons (m2 subD (mCall absD (mCons (mVar 2) (mNil))) (m2 powD (mC (.int 10)) (mC (.int 18)))) (mNil)))) (mCons (m2 addD (m2 addD (m2 mulD (m2 modD (mCall intD1 (mCons (mVar 2) (mNil))) (m2 addD (m2 powD (mC (.int 10)) (mC (.int 37))) (mC (.int 79)))) (mC (.int 97))) (m2 mulD (mC (.int 61)) (mVar 1))) (mC (.int 37))) (mCons (mC (.int 0)) (mNil))))))
theorem c__law_well (z : Z K mg) : Cal P w K mg base 2 "_law_well" ["script", "at"] 2 3 m__law_well :=
  cal_mk z.f__law_well sc__law_well rfl rfl (fun _ _ _ _ _ _ us hl => match us, hl with | [_, _], _ => rfl) fun f cdv A outer s H E hr =>
    es_cons (es_set (i := 2) sc__law_well.nd rfl (.inl rfl) (ev_ifE (et_cmp (op_ltA (hu65 hr)) od_lt (ev_var (pv 1)) (ev_callB call_lenA cd_len (by rfl) z.b_len PySem.boot_len (ea_cons (ev_var (pv 0)) (ea_nil))) (nomark _)) (ev_sub ix_seq od_ix (ev_var (pv 0)) (ev_var (pv 1)) (fun _ _ => rfl)) (ev_int))) (es_one (es_ret (ev_lst (ea_cons (ev_callB (call_maxA rfl) cd_max (by rfl) z.b_max (by decide +kernel) (ea_cons (ev_int) (ea_cons (ev_bin op_sub od_sub (ev_callB call_abs cd_abs (by rfl) z.b_abs (by decide +kernel) (ea_cons (ev_var (pv 2)) (ea_nil))) (ev_bin op_powA od_pow (ev_int) (ev_int))) (ea_nil)))) (ea_cons (ev_bin op_addA od_add (ev_bin op_addA od_add (ev_bin op_mulA od_mul (ev_bin op_mod od_mod (ev_callTy call_int1 cd_int (by rfl) z.b_int (by decide +kernel) (ea_cons (ev_var (pv 2)) (ea_nil))) (ev_bin op_addA od_add (ev_bin op_powA od_pow (ev_int) (ev_int)) (ev_int))) (ev_int)) (ev_bin op_mulA od_mul (ev_int) (ev_var (pv 1)))) (ev_int)) (ea_cons (ev_int) (ea_nil)))))))
abbrev s__law_draw : Stmt := top 78
abbrev N__law_draw : List Str := ["well", "below", "digit", "mixed"]
theorem sc__law_draw : FnScope N__law_draw ["well", "below"] (defScope s__law_draw) := ⟨rfl, rfl, rfl, by decide +kernel, rfl, by decide +kernel, by decide +kernel⟩
def m__law_draw : Sl → Option Fl := mSeq (mIf (mB (m2 gtD (m2 ixD (mVar 0) (mC (.int 0))) (mC (.int 0)))) (mSeq (mSet 2 (m2 modD (mCall intD1 (mCons (m2 ixD (mVar 0) (mC (.int 0))) (mNil))) (mVar 1))) (mSeq (mSetIx 0 (mC (.int 0)) (m2 divD (m2 ixD (mVar 0) (mC (.int 0))) (mVar 1))) (mRet (mVar 2)))) (mNext)) (mSeq (mSetIx 0 (mC (.int 2)) (m2 addD (m2 ixD (mVar 0) (mC (.int 2))) (mC (.int 1)))) (mSeq (mSet 3 (m2 modD (m2 powD (mCall intD1 (mCons (m2 addD (m2 ixD (mVar 0) (mC (.int 1))) (m2 mulD (mC (.int 735632797)) (m2 ixD (mVar 0) (mC (.int 2))))) (mNil))) (mC (.int 3))) (m2 addD (m2 powD (mC (.int 10)) (mC (.int 41))) (mC (.int 109))))) (mSeq (mSet 3 (m2 modD (m2 powD (mCall intD1 (mCons (m2 addD (mVar 3) (m2 mulD (mC (.int 179426549)) (m2 ixD (mVar 0) (mC (.int 2))))) (mNil))) (mC (.int 3))) (m2 addD (m2 powD (mC (.int 10)) (mC (.int 39))) (mC (.int 3))))) (mRet (m2 modD (mCall intD1 (mCons (m2 divD (mVar 3) (mC (.int 1048576))) (mNil))) (mVar 1))))))
theorem c__law_draw (z : Z K mg) : Cal P w K mg base 2 "_law_draw" ["well", "below"] 2 4 m__law_draw :=
  cal_mk z.f__law_draw sc__law_draw rfl rfl (fun _ _ _ _ _ _ us hl => match us, hl with | [_, _], _ => rfl) fun f cdv A outer s H E hr =>
    es_cons (es_if (et_cmp (op_gt) od_cmp (ev_sub ix_seq od_ix (ev_var (pv 0)) (ev_int) (fun _ _ => rfl)) (ev_int) (nomark _)) (es_cons (es_set (i := 2) sc__law_draw.nd rfl (.inl rfl) (ev_bin op_mod od_mod (ev_callTy call_int1 cd_int (by rfl) z.b_int (by decide +kernel) (ea_cons (ev_sub ix_seq od_ix (ev_var (pv 0)) (ev_int) (fun _ _ => rfl)) (ea_nil))) (ev_var (pv 1)))) (es_cons (es_setIx (pv 0) (ev_int) (ev_bin op_fdivW od_div (ev_sub ix_seq od_ix (ev_var (pv 0)) (ev_int) (fun _ _ => rfl)) (ev_var (pv 1)))) (es_one (es_ret (ev_var (pv 2)))))) (es_nil)) (es_cons (es_setIx (pv 0) (ev_int) (ev_bin op_addA od_add (ev_sub ix_seq od_ix (ev_var (pv 0)) (ev_int) (fun _ _ => rfl)) (ev_int))) (es_cons (es_set (i := 3) sc__law_draw.nd rfl (.inl rfl) (ev_bin op_mod od_mod (ev_bin op_powA od_pow (ev_callTy call_int1 cd_int (by rfl) z.b_int (by decide +kernel) (ea_cons (ev_bin op_addA od_add (ev_sub ix_seq od_ix (ev_var (pv 0)) (ev_int) (fun _ _ => rfl)) (ev_bin op_mulA od_mul (ev_int) (ev_sub ix_seq od_ix (ev_var (pv 0)) (ev_int) (fun _ _ => rfl)))) (ea_nil))) (ev_int)) (ev_bin op_addA od_add (ev_bin op_powA od_pow (ev_int) (ev_int)) (ev_int)))) (es_cons (es_set (i := 3) sc__law_draw.nd rfl (.inl rfl) (ev_bin op_mod od_mod (ev_bin op_powA od_pow (ev_callTy call_int1 cd_int (by rfl) z.b_int (by decide +kernel) (ea_cons (ev_bin op_addA od_add (ev_var (pv 3)) (ev_bin op_mulA od_mul (ev_int) (ev_sub ix_seq od_ix (ev_var (pv 0)) (ev_int) (fun _ _ => rfl)))) (ea_nil))) (ev_int)) (ev_bin op_addA od_add (ev_bin op_powA od_pow (ev_int) (ev_int)) (ev_int)))) (es_one (es_ret (ev_bin op_mod od_mod (ev_callTy call_int1 cd_int (by rfl) z.b_int (by decide +kernel) (ea_cons (ev_bin op_fdivW od_div (ev_var (pv 3)) (ev_int)) (ea_nil))) (ev_var (pv 1))))))))
abbrev s__law_same : Stmt := top 79
abbrev N__law_same : List Str := ["found", "due", "k"]
theorem sc__law_same : FnScope N__law_same ["found", "due"] (defScope s__law_same) := ⟨rfl, rfl, rfl, by decide +kernel, rfl, by decide +kernel, by decide +kernel⟩
def m__law_same_0 : Sl → Option Fl := fun _ => none
theorem c__law_same_0 (z : Z K mg) : Cal P w K mg base 2 "_law_same" ["found", "due"] 2 3 m__law_same_0 :=
  cal_mk z.f__law_same sc__law_same rfl rfl (fun _ _ _ _ _ _ us hl => match us, hl with | [_, _], _ => rfl) fun f cdv A outer s H E hr =>
    ess_never
def m__law_same_1 : Sl → Option Fl := mSeq (mIf (mTOr (mB (mIsi "bool" (mVar 0))) (mB (mIsi "bool" (mVar 1)))) (mRet (mAndV (mIsi "bool" (mVar 0)) (mAndV (mIsi "bool" (mVar 1)) (m2 eqD (mVar 0) (mVar 1))))) (mNext)) (mSeq (mIf (mB (m2 neD (mIsi "list" (mVar 0)) (mIsi "list" (mVar 1)))) (mRet (mC (.bool false))) (mNext)) (mSeq (mIf (mTAnd (mB (mIsi2 "list" "tuple" (mVar 0))) (mB (mIsi2 "list" "tuple" (mVar 1)))) (mSeq (mIf (mB (m2 neD (mCall lenD (mCons (mVar 0) (mNil))) (mCall lenD (mCons (mVar 1) (mNil))))) (mRet (mC (.bool false))) (mNext)) (mRet (m2 eqD (mLc [2] (mRng1 true (mCons (mCall lenD (mCons (mVar 1) (mNil))) (mNil))) (gNm 2) (mTNot (mB (mFn' 2 3 m__law_same_0 [false, false] [] (mCons (m2 ixD (mVar 0) (mVar 2)) (mCons (m2 ixD (mVar 1) (mVar 2)) (mNil)))))) (mVar 2)) (mLst (mNil))))) (mNext)) (mRet (mAndV (m2 eqD (mVar 0) (mVar 1)) (m2 eqD (mIsi "int" (mVar 0)) (mIsi "int" (mVar 1)))))))
theorem c__law_same_1 (z : Z K mg) : Cal P w K mg base 3 "_law_same" ["found", "due"] 2 3 m__law_same_1 :=
  cal_mk z.f__law_same sc__law_same rfl rfl (fun _ _ _ _ _ _ us hl => match us, hl with | [_, _], _ => rfl) fun f cdv A outer s H E hr =>
    es_cons (es_if ((ew_or (et_val (ev_isi (Ts := "bool") (by rfl) z.b_isinstance (by rfl) z.b_bool (by decide +kernel) (ev_var (pv 0)))) (ew_or1 (et_val (ev_isi (Ts := "bool") (by rfl) z.b_isinstance (by rfl) z.b_bool (by decide +kernel) (ev_var (pv 1)))))).t) (es_one (es_ret (ev_andV (ev_isi (Ts := "bool") (by rfl) z.b_isinstance (by rfl) z.b_bool (by decide +kernel) (ev_var (pv 0))) (ev_andV (ev_isi (Ts := "bool") (by rfl) z.b_isinstance (by rfl) z.b_bool (by decide +kernel) (ev_var (pv 1))) (ev_one (ev_cmp (op_eqD (hu64 hr)) od_eq (ev_var (pv 0)) (ev_var (pv 1)) (nomark _))))))) (es_nil)) (es_cons (es_if (et_cmp (op_neD (hu64 hr)) od_ne (ev_isi (Ts := "list") (by rfl) z.b_isinstance (by rfl) z.b_list (by decide +kernel) (ev_var (pv 0))) (ev_isi (Ts := "list") (by rfl) z.b_isinstance (by rfl) z.b_list (by decide +kernel) (ev_var (pv 1))) (nomark _)) (es_one (es_ret (ev_bl))) (es_nil)) (es_cons (es_if ((ew_and (et_val (ev_isi2 (by rfl) z.b_isinstance (by rfl) z.b_list (by decide +kernel) (by rfl) z.b_tuple (by decide +kernel) (ev_var (pv 0)))) (ew_and1 (et_val (ev_isi2 (by rfl) z.b_isinstance (by rfl) z.b_list (by decide +kernel) (by rfl) z.b_tuple (by decide +kernel) (ev_var (pv 1)))))).t) (es_cons (es_if (et_cmp (op_neD (hu64 hr)) od_ne (ev_callB call_lenA cd_len (by rfl) z.b_len PySem.boot_len (ea_cons (ev_var (pv 0)) (ea_nil))) (ev_callB call_lenA cd_len (by rfl) z.b_len PySem.boot_len (ea_cons (ev_var (pv 1)) (ea_nil))) (nomark _)) (es_one (es_ret (ev_bl))) (es_nil)) (es_one (es_ret (ev_cmp (op_eqD (hu64 hr)) od_eq (ev_lc (own := [("k", 2)]) rfl sc__law_same.nd (ei_range1 (by rfl) z.b_range (ea_cons (ev_callB call_lenA cd_len (by rfl) z.b_len PySem.boot_len (ea_cons (ev_var (pv 1)) (ea_nil))) (ea_nil))) (blkOk_by (N := N__law_same) (sc := defScope s__law_same) (by decide +kernel)) (by decide) (fun _ _ _ _ _ => eg_nm (pg_name (i := 2) sc__law_same.nd rfl (.inl rfl))) (fun _ _ _ _ _ => ets_one (et_not (et_val (ev_call [false, false] (c__law_same_0 z) (hr.mono (by decide)) (by rfl) (ea_cons (ev_sub ix_seq od_ix (ev_var (pv 0)) (ev_var (pv 2)) (fun _ _ => rfl)) (ea_cons (ev_sub ix_seq od_ix (ev_var (pv 1)) (ev_var (pv 2)) (fun _ _ => rfl)) (ea_nil))))))) (fun _ _ _ _ _ => ev_var (pv 2))) (ev_lst (ea_nil)) (nomark _))))) (es_nil)) (es_one (es_ret (ev_andV (ev_cmp (op_eqD (hu64 hr)) od_eq (ev_var (pv 0)) (ev_var (pv 1)) (nomark _)) (ev_one (ev_cmp (op_eqD (hu64 hr)) od_eq (ev_isi (Ts := "int") (by rfl) z.b_isinstance (by rfl) z.b_int (by decide +kernel) (ev_var (pv 0))) (ev_isi (Ts := "int") (by rfl) z.b_isinstance (by rfl) z.b_int (by decide +kernel) (ev_var (pv 1))) (nomark _))))))))
def m__law_same_2 : Sl → Option Fl := mSeq (mIf (mTOr (mB (mIsi "bool" (mVar 0))) (mB (mIsi "bool" (mVar 1)))) (mRet (mAndV (mIsi "bool" (mVar 0)) (mAndV (mIsi "bool" (mVar 1)) (m2 eqD (mVar 0) (mVar 1))))) (mNext)) (mSeq (mIf (mB (m2 neD (mIsi "list" (mVar 0)) (mIsi "list" (mVar 1)))) (mRet (mC (.bool false))) (mNext)) (mSeq (mIf (mTAnd (mB (mIsi2 "list" "tuple" (mVar 0))) (mB (mIsi2 "list" "tuple" (mVar 1)))) (mSeq (mIf (mB (m2 neD (mCall lenD (mCons (mVar 0) (mNil))) (mCall lenD (mCons (mVar 1) (mNil))))) (mRet (mC (.bool false))) (mNext)) (mRet (m2 eqD (mLc [2] (mRng1 true (mCons (mCall lenD (mCons (mVar 1) (mNil))) (mNil))) (gNm 2) (mTNot (mB (mFn' 2 3 m__law_same_1 [false, false] [] (mCons (m2 ixD (mVar 0) (mVar 2)) (mCons (m2 ixD (mVar 1) (mVar 2)) (mNil)))))) (mVar 2)) (mLst (mNil))))) (mNext)) (mRet (mAndV (m2 eqD (mVar 0) (mVar 1)) (m2 eqD (mIsi "int" (mVar 0)) (mIsi "int" (mVar 1)))))))
theorem c__law_same_2 (z : Z K mg) : Cal P w K mg base 4 "_law_same" ["found", "due"] 2 3 m__law_same_2 :=
  cal_mk z.f__law_same sc__law_same rfl rfl (fun _ _ _ _ _ _ us hl => match us, hl with | [_, _], _ => rfl) fun f cdv A outer s H E hr =>
    es_cons (es_if ((ew_or (et_val (ev_isi (Ts := "bool") (by rfl) z.b_isinstance (by rfl) z.b_bool (by decide +kernel) (ev_var (pv 0)))) (ew_or1 (et_val (ev_isi (Ts := "bool") (by rfl) z.b_isinstance (by rfl) z.b_bool (by decide +kernel) (ev_var (pv 1)))))).t) (es_one (es_ret (ev_andV (ev_isi (Ts := "bool") (by rfl) z.b_isinstance (by rfl) z.b_bool (by decide +kernel) (ev_var (pv 0))) (ev_andV (ev_isi (Ts := "bool") (by rfl) z.b_isinstance (by rfl) z.b_bool (by decide +kernel) (ev_var (pv 1))) (ev_one (ev_cmp (op_eqD (hu64 hr)) od_eq (ev_var (pv 0)) (ev_var (pv 1)) (nomark _))))))) (es_nil)) (es_cons (es_if (et_cmp (op_neD (hu64 hr)) od_ne (ev_isi (Ts := "list") (by rfl) z.b_isinstance (by rfl) z.b_list (by decide +kernel) (ev_var (pv 0))) (ev_isi (Ts := "list") (by rfl) z.b_isinstance (by rfl) z.b_list (by decide +kernel) (ev_var (pv 1))) (nomark _)) (es_one (es_ret (ev_bl))) (es_nil)) (es_cons (es_if ((ew_and (et_val (ev_isi2 (by rfl) z.b_isinstance (by rfl) z.b_list (by decide +kernel) (by rfl) z.b_tuple (by decide +kernel) (ev_var (pv 0)))) (ew_and1 (et_val (ev_isi2 (by rfl) z.b_isinstance (by rfl) z.b_list (by decide +kernel) (by rfl) z.b_tuple (by decide +kernel) (ev_var (pv 1)))))).t) (es_cons (es_if (et_cmp (op_neD (hu64 hr)) od_ne (ev_callB call_lenA cd_len (by rfl) z.b_len PySem.boot_len (ea_cons (ev_var (pv 0)) (ea_nil))) (ev_callB call_lenA cd_len (by rfl) z.b_len PySem.boot_len (ea_cons (ev_var (pv 1)) (ea_nil))) (nomark _)) (es_one (es_ret (ev_bl))) (es_nil)) (es_one (es_ret (ev_cmp (op_eqD (hu64 hr)) od_eq (ev_lc (own := [("k", 2)]) rfl sc__law_same.nd (ei_range1 (by rfl) z.b_range (ea_cons (ev_callB call_lenA cd_len (by rfl) z.b_len PySem.boot_len (ea_cons (ev_var (pv 1)) (ea_nil))) (ea_nil))) (blkOk_by (N := N__law_same) (sc := defScope s__law_same) (by decide +kernel)) (by decide) (fun _ _ _ _ _ => eg_nm (pg_name (i := 2) sc__law_same.nd rfl (.inl rfl))) (fun _ _ _ _ _ => ets_one (et_not (et_val (ev_call [false, false] (c__law_same_1 z) (hr.mono (by decide)) (by rfl) (ea_cons (ev_sub ix_seq od_ix (ev_var (pv 0)) (ev_var (pv 2)) (fun _ _ => rfl)) (ea_cons (ev_sub ix_seq od_ix (ev_var (pv 1)) (ev_var (pv 2)) (fun _ _ => rfl)) (ea_nil))))))) (fun _ _ _ _ _ => ev_var (pv 2))) (ev_lst (ea_nil)) (nomark _))))) (es_nil)) (es_one (es_ret (ev_andV (ev_cmp (op_eqD (hu64 hr)) od_eq (ev_var (pv 0)) (ev_var (pv 1)) (nomark _)) (ev_one (ev_cmp (op_eqD (hu64 hr)) od_eq (ev_isi (Ts := "int") (by rfl) z.b_isinstance (by rfl) z.b_int (by decide +kernel) (ev_var (pv 0))) (ev_isi (Ts := "int") (by rfl) z.b_isinstance (by rfl) z.b_int (by decide +kernel) (ev_var (pv 1))) (nomark _))))))))
def m__law_same_3 : Sl → Option Fl := mSeq (mIf (mTOr (mB (mIsi "bool" (mVar 0))) (mB (mIsi "bool" (mVar 1)))) (mRet (mAndV (mIsi "bool" (mVar 0)) (mAndV (mIsi "bool" (mVar 1)) (m2 eqD (mVar 0) (mVar 1))))) (mNext)) (mSeq (mIf (mB (m2 neD (mIsi "list" (mVar 0)) (mIsi "list" (mVar 1)))) (mRet (mC (.bool false))) (mNext)) (mSeq (mIf (mTAnd (mB (mIsi2 "list" "tuple" (mVar 0))) (mB (mIsi2 "list" "tuple" (mVar 1)))) (mSeq (mIf (mB (m2 neD (mCall lenD (mCons (mVar 0) (mNil))) (mCall lenD (mCons (mVar 1) (mNil))))) (mRet (mC (.bool false))) (mNext)) (mRet (m2 eqD (mLc [2] (mRng1 true (mCons (mCall lenD (mCons (mVar 1) (mNil))) (mNil))) (gNm 2) (mTNot (mB (mFn' 2 3 m__law_same_2 [false, false] [] (mCons (m2 ixD (mVar 0) (mVar 2)) (mCons (m2 ixD (mVar 1) (mVar 2)) (mNil)))))) (mVar 2)) (mLst (mNil))))) (mNext)) (mRet (mAndV (m2 eqD (mVar 0) (mVar 1)) (m2 eqD (mIsi "int" (mVar 0)) (mIsi "int" (mVar 1)))))))
theorem c__law_same_3 (z : Z K mg) : Cal P w K mg base 5 "_law_same" ["found", "due"] 2 3 m__law_same_3 :=
  cal_mk z.f__law_same sc__law_same rfl rfl (fun _ _ _ _ _ _ us hl => match us, hl with | [_, _], _ => rfl) fun f cdv A outer s H E hr =>
    es_cons (es_if ((ew_or (et_val (ev_isi (Ts := "bool") (by rfl) z.b_isinstance (by rfl) z.b_bool (by decide +kernel) (ev_var (pv 0)))) (ew_or1 (et_val (ev_isi (Ts := "bool") (by rfl) z.b_isinstance (by rfl) z.b_bool (by decide +kernel) (ev_var (pv 1)))))).t) (es_one (es_ret (ev_andV (ev_isi (Ts := "bool") (by rfl) z.b_isinstance (by rfl) z.b_bool (by decide +kernel) (ev_var (pv 0))) (ev_andV (ev_isi (Ts := "bool") (by rfl) z.b_isinstance (by rfl) z.b_bool (by decide +kernel) (ev_var (pv 1))) (ev_one (ev_cmp (op_eqD (hu64 hr)) od_eq (ev_var (pv 0)) (ev_var (pv 1)) (nomark _))))))) (es_nil)) (es_cons (es_if (et_cmp (op_neD (hu64 hr)) od_ne (ev_isi (Ts := "list") (by rfl) z.b_isinstance (by rfl) z.b_list (by decide +kernel) (ev_var (pv 0))) (ev_isi (Ts := "list") (by rfl) z.b_isinstance (by rfl) z.b_list (by decide +kernel) (ev_var (pv 1))) (nomark _)) (es_one (es_ret (ev_bl))) (es_nil)) (es_cons (es_if ((ew_and (et_val (ev_isi2 (by rfl) z.b_isinstance (by rfl) z.b_list (by decide +kernel) (by rfl) z.b_tuple (by decide +kernel) (ev_var (pv 0)))) (ew_and1 (et_val (ev_isi2 (by rfl) z.b_isinstance (by rfl) z.b_list (by decide +kernel) (by rfl) z.b_tuple (by decide +kernel) (ev_var (pv 1)))))).t) (es_cons (es_if (et_cmp (op_neD (hu64 hr)) od_ne (ev_callB call_lenA cd_len (by rfl) z.b_len PySem.boot_len (ea_cons (ev_var (pv 0)) (ea_nil))) (ev_callB call_lenA cd_len (by rfl) z.b_len PySem.boot_len (ea_cons (ev_var (pv 1)) (ea_nil))) (nomark _)) (es_one (es_ret (ev_bl))) (es_nil)) (es_one (es_ret (ev_cmp (op_eqD (hu64 hr)) od_eq (ev_lc (own := [("k", 2)]) rfl sc__law_same.nd (ei_range1 (by rfl) z.b_range (ea_cons (ev_callB call_lenA cd_len (by rfl) z.b_len PySem.boot_len (ea_cons (ev_var (pv 1)) (ea_nil))) (ea_nil))) (blkOk_by (N := N__law_same) (sc := defScope s__law_same) (by decide +kernel)) (by decide) (fun _ _ _ _ _ => eg_nm (pg_name (i := 2) sc__law_same.nd rfl (.inl rfl))) (fun _ _ _ _ _ => ets_one (et_not (et_val (ev_call [false, false] (c__law_same_2 z) (hr.mono (by decide)) (by rfl) (ea_cons (ev_sub ix_seq od_ix (ev_var (pv 0)) (ev_var (pv 2)) (fun _ _ => rfl)) (ea_cons (ev_sub ix_seq od_ix (ev_var (pv 1)) (ev_var (pv 2)) (fun _ _ => rfl)) (ea_nil))))))) (fun _ _ _ _ _ => ev_var (pv 2))) (ev_lst (ea_nil)) (nomark _))))) (es_nil)) (es_one (es_ret (ev_andV (ev_cmp (op_eqD (hu64 hr)) od_eq (ev_var (pv 0)) (ev_var (pv 1)) (nomark _)) (ev_one (ev_cmp (op_eqD (hu64 hr)) od_eq (ev_isi (Ts := "int") (by rfl) z.b_isinstance (by rfl) z.b_int (by decide +kernel) (ev_var (pv 0))) (ev_isi (Ts := "int") (by rfl) z.b_isinstance (by rfl) z.b_int (by decide +kernel) (ev_var (pv 1))) (nomark _))))))))
def m__law_same_4 : Sl → Option Fl := mSeq (mIf (mTOr (mB (mIsi "bool" (mVar 0))) (mB (mIsi "bool" (mVar 1)))) (mRet (mAndV (mIsi "bool" (mVar 0)) (mAndV (mIsi "bool" (mVar 1)) (m2 eqD (mVar 0) (mVar 1))))) (mNext)) (mSeq (mIf (mB (m2 neD (mIsi "list" (mVar 0)) (mIsi "list" (mVar 1)))) (mRet (mC (.bool false))) (mNext)) (mSeq (mIf (mTAnd (mB (mIsi2 "list" "tuple" (mVar 0))) (mB (mIsi2 "list" "tuple" (mVar 1)))) (mSeq (mIf (mB (m2 neD (mCall lenD (mCons (mVar 0) (mNil))) (mCall lenD (mCons (mVar 1) (mNil))))) (mRet (mC (.bool false))) (mNext)) (mRet (m2 eqD (mLc [2] (mRng1 true (mCons (mCall lenD (mCons (mVar 1) (mNil))) (mNil))) (gNm 2) (mTNot (mB (mFn' 2 3 m__law_same_3 [false, false] [] (mCons (m2 ixD (mVar 0) (mVar 2)) (mCons (m2 ixD (mVar 1) (mVar 2)) (mNil)))))) (mVar 2)) (mLst (mNil))))) (mNext)) (mRet (mAndV (m2 eqD (mVar 0) (mVar 1)) (m2 eqD (mIsi "int" (mVar 0)) (mIsi "int" (mVar 1)))))))
theorem c__law_same_4 (z : Z K mg) : Cal P w K mg base 6 "_law_same" ["found", "due"] 2 3 m__law_same_4 :=
  cal_mk z.f__law_same sc__law_same rfl rfl (fun _ _ _ _ _ _ us hl => match us, hl with | [_, _], _ => rfl) fun f cdv A outer s H E hr =>
    es_cons (es_if ((ew_or (et_val (ev_isi (Ts := "bool") (by rfl) z.b_isinstance (by rfl) z.b_bool (by decide +kernel) (ev_var (pv 0)))) (ew_or1 (et_val (ev_isi (Ts := "bool") (by rfl) z.b_isinstance (by rfl) z.b_bool (by decide +kernel) (ev_var (pv 1)))))).t) (es_one (es_ret (ev_andV (ev_isi (Ts := "bool") (by rfl) z.b_isinstance (by rfl) z.b_bool (by decide +kernel) (ev_var (pv 0))) (ev_andV (ev_isi (Ts := "bool") (by rfl) z.b_isinstance (by rfl) z.b_bool (by decide +kernel) (ev_var (pv 1))) (ev_one (ev_cmp (op_eqD (hu64 hr)) od_eq (ev_var (pv 0)) (ev_var (pv 1)) (nomark _))))))) (es_nil)) (es_cons (es_if (et_cmp (op_neD (hu64 hr)) od_ne (ev_isi (Ts := "list") (by rfl) z.b_isinstance (by rfl) z.b_list (by decide +kernel) (ev_var (pv 0))) (ev_isi (Ts := "list") (by rfl) z.b_isinstance (by rfl) z.b_list (by decide +kernel) (ev_var (pv 1))) (nomark _)) (es_one (es_ret (ev_bl))) (es_nil)) (es_cons (es_if ((ew_and (et_val (ev_isi2 (by rfl) z.b_isinstance (by rfl) z.b_list (by decide +kernel) (by rfl) z.b_tuple (by decide +kernel) (ev_var (pv 0)))) (ew_and1 (et_val (ev_isi2 (by rfl) z.b_isinstance (by rfl) z.b_list (by decide +kernel) (by rfl) z.b_tuple (by decide +kernel) (ev_var (pv 1)))))).t) (es_cons (es_if (et_cmp (op_neD (hu64 hr)) od_ne (ev_callB call_lenA cd_len (by rfl) z.b_len PySem.boot_len (ea_cons (ev_var (pv 0)) (ea_nil))) (ev_callB call_lenA cd_len (by rfl) z.b_len PySem.boot_len (ea_cons (ev_var (pv 1)) (ea_nil))) (nomark _)) (es_one (es_ret (ev_bl))) (es_nil)) (es_one (es_ret (ev_cmp (op_eqD (hu64 hr)) od_eq (ev_lc (own := [("k", 2)]) rfl sc__law_same.nd (ei_range1 (by rfl) z.b_range (ea_cons (ev_callB call_lenA cd_len (by rfl) z.b_len PySem.boot_len (ea_cons (ev_var (pv 1)) (ea_nil))) (ea_nil))) (blkOk_by (N := N__law_same) (sc := defScope s__law_same) (by decide +kernel)) (by decide) (fun _ _ _ _ _ => eg_nm (pg_name (i := 2) sc__law_same.nd rfl (.inl rfl))) (fun _ _ _ _ _ => ets_one (et_not (et_val (ev_call [false, false] (c__law_same_3 z) (hr.mono (by decide)) (by rfl) (ea_cons (ev_sub ix_seq od_ix (ev_var (pv 0)) (ev_var (pv 2)) (fun _ _ => rfl)) (ea_cons (ev_sub ix_seq od_ix (ev_var (pv 1)) (ev_var (pv 2)) (fun _ _ => rfl)) (ea_nil))))))) (fun _ _ _ _ _ => ev_var (pv 2))) (ev_lst (ea_nil)) (nomark _))))) (es_nil)) (es_one (es_ret (ev_andV (ev_cmp (op_eqD (hu64 hr)) od_eq (ev_var (pv 0)) (ev_var (pv 1)) (nomark _)) (ev_one (ev_cmp (op_eqD (hu64 hr)) od_eq (ev_isi (Ts := "int") (by rfl) z.b_isinstance (by rfl) z.b_int (by decide +kernel) (ev_var (pv 0))) (ev_isi (Ts := "int") (by rfl) z.b_isinstance (by rfl) z.b_int (by decide +kernel) (ev_var (pv 1))) (nomark _))))))))
def m__law_same_5 : Sl → Option Fl := mSeq (mIf (mTOr (mB (mIsi "bool" (mVar 0))) (mB (mIsi "bool" (mVar 1)))) (mRet (mAndV (mIsi "bool" (mVar 0)) (mAndV (mIsi "bool" (mVar 1)) (m2 eqD (mVar 0) (mVar 1))))) (mNext)) (mSeq (mIf (mB (m2 neD (mIsi "list" (mVar 0)) (mIsi "list" (mVar 1)))) (mRet (mC (.bool false))) (mNext)) (mSeq (mIf (mTAnd (mB (mIsi2 "list" "tuple" (mVar 0))) (mB (mIsi2 "list" "tuple" (mVar 1)))) (mSeq (mIf (mB (m2 neD (mCall lenD (mCons (mVar 0) (mNil))) (mCall lenD (mCons (mVar 1) (mNil))))) (mRet (mC (.bool false))) (mNext)) (mRet (m2 eqD (mLc [2] (mRng1 true (mCons (mCall lenD (mCons (mVar 1) (mNil))) (mNil))) (gNm 2) (mTNot (mB (mFn' 2 3 m__law_same_4 [false, false] [] (mCons (m2 ixD (mVar 0) (mVar 2)) (mCons (m2 ixD (mVar 1) (mVar 2)) (mNil)))))) (mVar 2)) (mLst (mNil))))) (mNext)) (mRet (mAndV (m2 eqD (mVar 0) (mVar 1)) (m2 eqD (mIsi "int" (mVar 0)) (mIsi "int" (mVar 1)))))))
theorem c__law_same_5 (z : Z K mg) : Cal P w K mg base 7 "_law_same" ["found", "due"] 2 3 m__law_same_5 :=
  cal_mk z.f__law_same sc__law_same rfl rfl (fun _ _ _ _ _ _ us hl => match us, hl with | [_, _], _ => rfl) fun f cdv A outer s H E hr =>
    es_cons (es_if ((ew_or (et_val (ev_isi (Ts := "bool") (by rfl) z.b_isinstance (by rfl) z.b_bool (by decide +kernel) (ev_var (pv 0)))) (ew_or1 (et_val (ev_isi (Ts := "bool") (by rfl) z.b_isinstance (by rfl) z.b_bool (by decide +kernel) (ev_var (pv 1)))))).t) (es_one (es_ret (ev_andV (ev_isi (Ts := "bool") (by rfl) z.b_isinstance (by rfl) z.b_bool (by decide +kernel) (ev_var (pv 0))) (ev_andV (ev_isi (Ts := "bool") (by rfl) z.b_isinstance (by rfl) z.b_bool (by decide +kernel) (ev_var (pv 1))) (ev_one (ev_cmp (op_eqD (hu64 hr)) od_eq (ev_var (pv 0)) (ev_var (pv 1)) (nomark _))))))) (es_nil)) (es_cons (es_if (et_cmp (op_neD (hu64 hr)) od_ne (ev_isi (Ts := "list") (by rfl) z.b_isinstance (by rfl) z.b_list (by decide +kernel) (ev_var (pv 0))) (ev_isi (Ts := "list") (by rfl) z.b_isinstance (by rfl) z.b_list (by decide +kernel) (ev_var (pv 1))) (nomark _)) (es_one (es_ret (ev_bl))) (es_nil)) (es_cons (es_if ((ew_and (et_val (ev_isi2 (by rfl) z.b_isinstance (by rfl) z.b_list (by decide +kernel) (by rfl) z.b_tuple (by decide +kernel) (ev_var (pv 0)))) (ew_and1 (et_val (ev_isi2 (by rfl) z.b_isinstance (by rfl) z.b_list (by decide +kernel) (by rfl) z.b_tuple (by decide +kernel) (ev_var (pv 1)))))).t) (es_cons (es_if (et_cmp (op_neD (hu64 hr)) od_ne (ev_callB call_lenA cd_len (by rfl) z.b_len PySem.boot_len (ea_cons (ev_var (pv 0)) (ea_nil))) (ev_callB call_lenA cd_len (by rfl) z.b_len PySem.boot_len (ea_cons (ev_var (pv 1)) (ea_nil))) (nomark _)) (es_one (es_ret (ev_bl))) (es_nil)) (es_one (es_ret (ev_cmp (op_eqD (hu64 hr)) od_eq (ev_lc (own := [("k", 2)]) rfl sc__law_same.nd (ei_range1 (by rfl) z.b_range (ea_cons (ev_callB call_lenA cd_len (by rfl) z.b_len PySem.boot_len (ea_cons (ev_var (pv 1)) (ea_nil))) (ea_nil))) (blkOk_by (N := N__law_same) (sc := defScope s__law_same) (by decide +kernel)) (by decide) (fun _ _ _ _ _ => eg_nm (pg_name (i := 2) sc__law_same.nd rfl (.inl rfl))) (fun _ _ _ _ _ => ets_one (et_not (et_val (ev_call [false, false] (c__law_same_4 z) (hr.mono (by decide)) (by rfl) (ea_cons (ev_sub ix_seq od_ix (ev_var (pv 0)) (ev_var (pv 2)) (fun _ _ => rfl)) (ea_cons (ev_sub ix_seq od_ix (ev_var (pv 1)) (ev_var (pv 2)) (fun _ _ => rfl)) (ea_nil))))))) (fun _ _ _ _ _ => ev_var (pv 2))) (ev_lst (ea_nil)) (nomark _))))) (es_nil)) (es_one (es_ret (ev_andV (ev_cmp (op_eqD (hu64 hr)) od_eq (ev_var (pv 0)) (ev_var (pv 1)) (nomark _)) (ev_one (ev_cmp (op_eqD (hu64 hr)) od_eq (ev_isi (Ts := "int") (by rfl) z.b_isinstance (by rfl) z.b_int (by decide +kernel) (ev_var (pv 0))) (ev_isi (Ts := "int") (by rfl) z.b_isinstance (by rfl) z.b_int (by decide +kernel) (ev_var (pv 1))) (nomark _))))))))
def m__law_same_6 : Sl → Option Fl := mSeq (mIf (mTOr (mB (mIsi "bool" (mVar 0))) (mB (mIsi "bool" (mVar 1)))) (mRet (mAndV (mIsi "bool" (mVar 0)) (mAndV (mIsi "bool" (mVar 1)) (m2 eqD (mVar 0) (mVar 1))))) (mNext)) (mSeq (mIf (mB (m2 neD (mIsi "list" (mVar 0)) (mIsi "list" (mVar 1)))) (mRet (mC (.bool false))) (mNext)) (mSeq (mIf (mTAnd (mB (mIsi2 "list" "tuple" (mVar 0))) (mB (mIsi2 "list" "tuple" (mVar 1)))) (mSeq (mIf (mB (m2 neD (mCall lenD (mCons (mVar 0) (mNil))) (mCall lenD (mCons (mVar 1) (mNil))))) (mRet (mC (.bool false))) (mNext)) (mRet (m2 eqD (mLc [2] (mRng1 true (mCons (mCall lenD (mCons (mVar 1) (mNil))) (mNil))) (gNm 2) (mTNot (mB (mFn' 2 3 m__law_same_5 [false, false] [] (mCons (m2 ixD (mVar 0) (mVar 2)) (mCons (m2 ixD (mVar 1) (mVar 2)) (mNil)))))) (mVar 2)) (mLst (mNil))))) (mNext)) (mRet (mAndV (m2 eqD (mVar 0) (mVar 1)) (m2 eqD (mIsi "int" (mVar 0)) (mIsi "int" (mVar 1)))))))
theorem c__law_same_6 (z : Z K mg) : Cal P w K mg base 8 "_law_same" ["found", "due"] 2 3 m__law_same_6 :=
  cal_mk z.f__law_same sc__law_same rfl rfl (fun _ _ _ _ _ _ us hl => match us, hl with | [_, _], _ => rfl) fun f cdv A outer s H E hr =>
    es_cons (es_if ((ew_or (et_val (ev_isi (Ts := "bool") (by rfl) z.b_isinstance (by rfl) z.b_bool (by decide +kernel) (ev_var (pv 0)))) (ew_or1 (et_val (ev_isi (Ts := "bool") (by rfl) z.b_isinstance (by rfl) z.b_bool (by decide +kernel) (ev_var (pv 1)))))).t) (es_one (es_ret (ev_andV (ev_isi (Ts := "bool") (by rfl) z.b_isinstance (by rfl) z.b_bool (by decide +kernel) (ev_var (pv 0))) (ev_andV (ev_isi (Ts := "bool") (by rfl) z.b_isinstance (by rfl) z.b_bool (by decide +kernel) (ev_var (pv 1))) (ev_one (ev_cmp (op_eqD (hu64 hr)) od_eq (ev_var (pv 0)) (ev_var (pv 1)) (nomark _))))))) (es_nil)) (es_cons (es_if (et_cmp (op_neD (hu64 hr)) od_ne (ev_isi (Ts := "list") (by rfl) z.b_isinstance (by rfl) z.b_list (by decide +kernel) (ev_var (pv 0))) (ev_isi (Ts := "list") (by rfl) z.b_isinstance (by rfl) z.b_list (by decide +kernel) (ev_var (pv 1))) (nomark _)) (es_one (es_ret (ev_bl))) (es_nil)) (es_cons (es_if ((ew_and (et_val (ev_isi2 (by rfl) z.b_isinstance (by rfl) z.b_list (by decide +kernel) (by rfl) z.b_tuple (by decide +kernel) (ev_var (pv 0)))) (ew_and1 (et_val (ev_isi2 (by rfl) z.b_isinstance (by rfl) z.b_list (by decide +kernel) (by rfl) z.b_tuple (by decide +kernel) (ev_var (pv 1)))))).t) (es_cons (es_if (et_cmp (op_neD (hu64 hr)) od_ne (ev_callB call_lenA cd_len (by rfl) z.b_len PySem.boot_len (ea_cons (ev_var (pv 0)) (ea_nil))) (ev_callB call_lenA cd_len (by rfl) z.b_len PySem.boot_len (ea_cons (ev_var (pv 1)) (ea_nil))) (nomark _)) (es_one (es_ret (ev_bl))) (es_nil)) (es_one (es_ret (ev_cmp (op_eqD (hu64 hr)) od_eq (ev_lc (own := [("k", 2)]) rfl sc__law_same.nd (ei_range1 (by rfl) z.b_range (ea_cons (ev_callB call_lenA cd_len (by rfl) z.b_len PySem.boot_len (ea_cons (ev_var (pv 1)) (ea_nil))) (ea_nil))) (blkOk_by (N := N__law_same) (sc := defScope s__law_same) (by decide +kernel)) (by decide) (fun _ _ _ _ _ => eg_nm (pg_name (i := 2) sc__law_same.nd rfl (.inl rfl))) (fun _ _ _ _ _ => ets_one (et_not (et_val (ev_call [false, false] (c__law_same_5 z) (hr.mono (by decide)) (by rfl) (ea_cons (ev_sub ix_seq od_ix (ev_var (pv 0)) (ev_var (pv 2)) (fun _ _ => rfl)) (ea_cons (ev_sub ix_seq od_ix (ev_var (pv 1)) (ev_var (pv 2)) (fun _ _ => rfl)) (ea_nil))))))) (fun _ _ _ _ _ => ev_var (pv 2))) (ev_lst (ea_nil)) (nomark _))))) (es_nil)) (es_one (es_ret (ev_andV (ev_cmp (op_eqD (hu64 hr)) od_eq (ev_var (pv 0)) (ev_var (pv 1)) (nomark _)) (ev_one (ev_cmp (op_eqD (hu64 hr)) od_eq (ev_isi (Ts := "int") (by rfl) z.b_isinstance (by rfl) z.b_int (by decide +kernel) (ev_var (pv 0))) (ev_isi (Ts := "int") (by rfl) z.b_isinstance (by rfl) z.b_int (by decide +kernel) (ev_var (pv 1))) (nomark _))))))))
def m__law_same_7 : Sl → Option Fl := mSeq (mIf (mTOr (mB (mIsi "bool" (mVar 0))) (mB (mIsi "bool" (mVar 1)))) (mRet (mAndV (mIsi "bool" (mVar 0)) (mAndV (mIsi "bool" (mVar 1)) (m2 eqD (mVar 0) (mVar 1))))) (mNext)) (mSeq (mIf (mB (m2 neD (mIsi "list" (mVar 0)) (mIsi "list" (mVar 1)))) (mRet (mC (.bool false))) (mNext)) (mSeq (mIf (mTAnd (mB (mIsi2 "list" "tuple" (mVar 0))) (mB (mIsi2 "list" "tuple" (mVar 1)))) (mSeq (mIf (mB (m2 neD (mCall lenD (mCons (mVar 0) (mNil))) (mCall lenD (mCons (mVar 1) (mNil))))) (mRet (mC (.bool false))) (mNext)) (mRet (m2 eqD (mLc [2] (mRng1 true (mCons (mCall lenD (mCons (mVar 1) (mNil))) (mNil))) (gNm 2) (mTNot (mB (mFn' 2 3 m__law_same_6 [false, false] [] (mCons (m2 ixD (mVar 0) (mVar 2)) (mCons (m2 ixD (mVar 1) (mVar 2)) (mNil)))))) (mVar 2)) (mLst (mNil))))) (mNext)) (mRet (mAndV (m2 eqD (mVar 0) (mVar 1)) (m2 eqD (mIsi "int" (mVar 0)) (mIsi "int" (mVar 1)))))))
theorem c__law_same_7 (z : Z K mg) : Cal P w K mg base 9 "_law_same" ["found", "due"] 2 3 m__law_same_7 :=
  cal_mk z.f__law_same sc__law_same rfl rfl (fun _ _ _ _ _ _ us hl => match us, hl with | [_, _], _ => rfl) fun f cdv A outer s H E hr =>
    es_cons (es_if ((ew_or (et_val (ev_isi (Ts := "bool") (by rfl) z.b_isinstance (by rfl) z.b_bool (by decide +kernel) (ev_var (pv 0)))) (ew_or1 (et_val (ev_isi (Ts := "bool") (by rfl) z.b_isinstance (by rfl) z.b_bool (by decide +kernel) (ev_var (pv 1)))))).t) (es_one (es_ret (ev_andV (ev_isi (Ts := "bool") (by rfl) z.b_isinstance (by rfl) z.b_bool (by decide +kernel) (ev_var (pv 0))) (ev_andV (ev_isi (Ts := "bool") (by rfl) z.b_isinstance (by rfl) z.b_bool (by decide +kernel) (ev_var (pv 1))) (ev_one (ev_cmp (op_eqD (hu64 hr)) od_eq (ev_var (pv 0)) (ev_var (pv 1)) (nomark _))))))) (es_nil)) (es_cons (es_if (et_cmp (op_neD (hu64 hr)) od_ne (ev_isi (Ts := "list") (by rfl) z.b_isinstance (by rfl) z.b_list (by decide +kernel) (ev_var (pv 0))) (ev_isi (Ts := "list") (by rfl) z.b_isinstance (by rfl) z.b_list (by decide +kernel) (ev_var (pv 1))) (nomark _)) (es_one (es_ret (ev_bl))) (es_nil)) (es_cons (es_if ((ew_and (et_val (ev_isi2 (by rfl) z.b_isinstance (by rfl) z.b_list (by decide +kernel) (by rfl) z.b_tuple (by decide +kernel) (ev_var (pv 0)))) (ew_and1 (et_val (ev_isi2 (by rfl) z.b_isinstance (by rfl) z.b_list (by decide +kernel) (by rfl) z.b_tuple (by decide +kernel) (ev_var (pv 1)))))).t) (es_cons (es_if (et_cmp (op_neD (hu64 hr)) od_ne (ev_callB call_lenA cd_len (by rfl) z.b_len PySem.boot_len (ea_cons (ev_var (pv 0)) (ea_nil))) (ev_callB call_lenA cd_len (by rfl) z.b_len PySem.boot_len (ea_cons (ev_var (pv 1)) (ea_nil))) (nomark _)) (es_one (es_ret (ev_bl))) (es_nil)) (es_one (es_ret (ev_cmp (op_eqD (hu64 hr)) od_eq (ev_lc (own := [("k", 2)]) rfl sc__law_same.nd (ei_range1 (by rfl) z.b_range (ea_cons (ev_callB call_lenA cd_len (by rfl) z.b_len PySem.boot_len (ea_cons (ev_var (pv 1)) (ea_nil))) (ea_nil))) (blkOk_by (N := N__law_same) (sc := defScope s__law_same) (by decide +kernel)) (by decide) (fun _ _ _ _ _ => eg_nm (pg_name (i := 2) sc__law_same.nd rfl (.inl rfl))) (fun _ _ _ _ _ => ets_one (et_not (et_val (ev_call [false, false] (c__law_same_6 z) (hr.mono (by decide)) (by rfl) (ea_cons (ev_sub ix_seq od_ix (ev_var (pv 0)) (ev_var (pv 2)) (fun _ _ => rfl)) (ea_cons (ev_sub ix_seq od_ix (ev_var (pv 1)) (ev_var (pv 2)) (fun _ _ => rfl)) (ea_nil))))))) (fun _ _ _ _ _ => ev_var (pv 2))) (ev_lst (ea_nil)) (nomark _))))) (es_nil)) (es_one (es_ret (ev_andV (ev_cmp (op_eqD (hu64 hr)) od_eq (ev_var (pv 0)) (ev_var (pv 1)) (nomark _)) (ev_one (ev_cmp (op_eqD (hu64 hr)) od_eq (ev_isi (Ts := "int") (by rfl) z.b_isinstance (by rfl) z.b_int (by decide +kernel) (ev_var (pv 0))) (ev_isi (Ts := "int") (by rfl) z.b_isinstance (by rfl) z.b_int (by decide +kernel) (ev_var (pv 1))) (nomark _))))))))
def m__law_same : Sl → Option Fl := mSeq (mIf (mTOr (mB (mIsi "bool" (mVar 0))) (mB (mIsi "bool" (mVar 1)))) (mRet (mAndV (mIsi "bool" (mVar 0)) (mAndV (mIsi "bool" (mVar 1)) (m2 eqD (mVar 0) (mVar 1))))) (mNext)) (mSeq (mIf (mB (m2 neD (mIsi "list" (mVar 0)) (mIsi "list" (mVar 1)))) (mRet (mC (.bool false))) (mNext)) (mSeq (mIf (mTAnd (mB (mIsi2 "list" "tuple" (mVar 0))) (mB (mIsi2 "list" "tuple" (mVar 1)))) (mSeq (mIf (mB (m2 neD (mCall lenD (mCons (mVar 0) (mNil))) (mCall lenD (mCons (mVar 1) (mNil))))) (mRet (mC (.bool false))) (mNext)) (mRet (m2 eqD (mLc [2] (mRng1 true (mCons (mCall lenD (mCons (mVar 1) (mNil))) (mNil))) (gNm 2) (mTNot (mB (mFn' 2 3 m__law_same_7 [false, false] [] (mCons (m2 ixD (mVar 0) (mVar 2)) (mCons (m2 ixD (mVar 1) (mVar 2)) (mNil)))))) (mVar 2)) (mLst (mNil))))) (mNext)) (mRet (mAndV (m2 eqD (mVar 0) (mVar 1)) (m2 eqD (mIsi "int" (mVar 0)) (mIsi "int" (mVar 1)))))))
theorem c__law_same (z : Z K mg) : Cal P w K mg base 10 "_law_same" ["found", "due"] 2 3 m__law_same :=
  cal_mk z.f__law_same sc__law_same rfl rfl (fun _ _ _ _ _ _ us hl => match us, hl with | [_, _], _ => rfl) fun f cdv A outer s H E hr =>
    es_cons (es_if ((ew_or (et_val (ev_isi (Ts := "bool") (by rfl) z.b_isinstance (by rfl) z.b_bool (by decide +kernel) (ev_var (pv 0)))) (ew_or1 (et_val (ev_isi (Ts := "bool") (by rfl) z.b_isinstance (by rfl) z.b_bool (by decide +kernel) (ev_var (pv 1)))))).t) (es_one (es_ret (ev_andV (ev_isi (Ts := "bool") (by rfl) z.b_isinstance (by rfl) z.b_bool (by decide +kernel) (ev_var (pv 0))) (ev_andV (ev_isi (Ts := "bool") (by rfl) z.b_isinstance (by rfl) z.b_bool (by decide +kernel) (ev_var (pv 1))) (ev_one (ev_cmp (op_eqD (hu64 hr)) od_eq (ev_var (pv 0)) (ev_var (pv 1)) (nomark _))))))) (es_nil)) (es_cons (es_if (et_cmp (op_neD (hu64 hr)) od_ne (ev_isi (Ts := "list") (by rfl) z.b_isinstance (by rfl) z.b_list (by decide +kernel) (ev_var (pv 0))) (ev_isi (Ts := "list") (by rfl) z.b_isinstance (by rfl) z.b_list (by decide +kernel) (ev_var (pv 1))) (nomark _)) (es_one (es_ret (ev_bl))) (es_nil)) (es_cons (es_if ((ew_and (et_val (ev_isi2 (by rfl) z.b_isinstance (by rfl) z.b_list (by decide +kernel) (by rfl) z.b_tuple (by decide +kernel) (ev_var (pv 0)))) (ew_and1 (et_val (ev_isi2 (by rfl) z.b_isinstance (by rfl) z.b_list (by decide +kernel) (by rfl) z.b_tuple (by decide +kernel) (ev_var (pv 1)))))).t) (es_cons (es_if (et_cmp (op_neD (hu64 hr)) od_ne (ev_callB call_lenA cd_len (by rfl) z.b_len PySem.boot_len (ea_cons (ev_var (pv 0)) (ea_nil))) (ev_callB call_lenA cd_len (by rfl) z.b_len PySem.boot_len (ea_cons (ev_var (pv 1)) (ea_nil))) (nomark _)) (es_one (es_ret (ev_bl))) (es_nil)) (es_one (es_ret (ev_cmp (op_eqD (hu64 hr)) od_eq (ev_lc (own := [("k", 2)]) rfl sc__law_same.nd (ei_range1 (by rfl) z.b_range (ea_cons (ev_callB call_lenA cd_len (by rfl) z.b_len PySem.boot_len (ea_cons (ev_var (pv 1)) (ea_nil))) (ea_nil))) (blkOk_by (N := N__law_same) (sc := defScope s__law_same) (by decide +kernel)) (by decide) (fun _ _ _ _ _ => eg_nm (pg_name (i := 2) sc__law_same.nd rfl (.inl rfl))) (fun _ _ _ _ _ => ets_one (et_not (et_val (ev_call [false, false] (c__law_same_7 z) (hr.mono (by decide)) (by rfl) (ea_cons (ev_sub ix_seq od_ix (ev_var (pv 0)) (ev_var (pv 2)) (fun _ _ => rfl)) (ea_cons (ev_sub ix_seq od_ix (ev_var (pv 1)) (ev_var (pv 2)) (fun _ _ => rfl)) (ea_nil))))))) (fun _ _ _ _ _ => ev_var (pv 2))) (ev_lst (ea_nil)) (nomark _))))) (es_nil)) (es_one (es_ret (ev_andV (ev_cmp (op_eqD (hu64 hr)) od_eq (ev_var (pv 0)) (ev_var (pv 1)) (nomark _)) (ev_one (ev_cmp (op_eqD (hu64 hr)) od_eq (ev_isi (Ts := "int") (by rfl) z.b_isinstance (by rfl) z.b_int (by decide +kernel) (ev_var (pv 0))) (ev_isi (Ts := "int") (by rfl) z.b_isinstance (by rfl) z.b_int (by decide +kernel) (ev_var (pv 1))) (nomark _))))))))
abbrev s__law_drawn : Stmt := top 80
abbrev N__law_drawn : List Str := ["well", "menu", "line", "k"]
theorem sc__law_drawn : FnScope N__law_drawn ["well", "menu"] (defScope s__law_drawn) := ⟨rfl, rfl, rfl, by decide +kernel, rfl, by decide +kernel, by decide +kernel⟩
def m__law_drawn : Sl → Option Fl := mSeq (mIf (mB (m2 gtD (mFn' 2 4 m__law_draw [true, false] [] (mCons (mVar 0) (mCons (mC (.int 5)) (mNil)))) (mC (.int 0)))) (mRet (m2 ixD (mVar 1) (mFn' 2 4 m__law_draw [true, false] [] (mCons (mVar 0) (mCons (mCall lenD (mCons (mVar 1) (mNil))) (mNil)))))) (mNext)) (mSeq (mSet 2 (mC (.str ""))) (mSeq (mFor (mRng1 false (mCons (m2 addD (mC (.int 1)) (mFn' 2 4 m__law_draw [true, false] [] (mCons (mVar 0) (mCons (mC (.int 12)) (mNil))))) (mNil))) (gNm 3) (mSet 2 (m2 addD (mVar 2) (m2 ixD (mC (.str "abcdefghijklmnopqrstuvwxyz")) (mFn' 2 4 m__law_draw [true, false] [] (mCons (mVar 0) (mCons (mC (.int 26)) (mNil)))))))) (mRet (mVar 2))))
theorem c__law_drawn (z : Z K mg) : Cal P w K mg base 3 "_law_drawn" ["well", "menu"] 2 4 m__law_drawn :=
  cal_mk z.f__law_drawn sc__law_drawn rfl rfl (fun _ _ _ _ _ _ us hl => match us, hl with | [_, _], _ => rfl) fun f cdv A outer s H E hr =>
    es_cons (es_if (et_cmp (op_gt) od_cmp (ev_call [true, false] (c__law_draw z) (hr.mono (by decide)) (by rfl) (ea_cons (ev_var (pv 0)) (ea_cons (ev_int) (ea_nil)))) (ev_int) (nomark _)) (es_one (es_ret (ev_sub ix_seq od_ix (ev_var (pv 1)) (ev_call [true, false] (c__law_draw z) (hr.mono (by decide)) (by rfl) (ea_cons (ev_var (pv 0)) (ea_cons (ev_callB call_lenA cd_len (by rfl) z.b_len PySem.boot_len (ea_cons (ev_var (pv 1)) (ea_nil))) (ea_nil)))) (fun _ _ => rfl)))) (es_nil)) (es_cons (es_set (i := 2) sc__law_drawn.nd rfl (.inl rfl) (ev_str)) (es_cons (es_for (bd := false) PassesOwn.never rfl (ei_range1 (by rfl) z.b_range (ea_cons (ev_bin op_addA od_add (ev_int) (ev_call [true, false] (c__law_draw z) (hr.mono (by decide)) (by rfl) (ea_cons (ev_var (pv 0)) (ea_cons (ev_int) (ea_nil))))) (ea_nil))) (eg_nm (pg_name (i := 3) sc__law_drawn.nd rfl (.inl rfl))) (es_one (es_set (i := 2) sc__law_drawn.nd rfl (.inl rfl) (ev_bin op_addA od_add (ev_var (pv 2)) (ev_sub ix_seq od_ix (ev_str) (ev_call [true, false] (c__law_draw z) (hr.mono (by decide)) (by rfl) (ea_cons (ev_var (pv 0)) (ea_cons (ev_int) (ea_nil)))) (fun _ _ => rfl)))))) (es_one (es_ret (ev_var (pv 2))))))
abbrev s__law_person : Stmt := top 81
abbrev N__law_person : List Str := ["well", "family"]
theorem sc__law_person : FnScope N__law_person ["well"] (defScope s__law_person) := ⟨rfl, rfl, rfl, by decide +kernel, rfl, by decide +kernel, by decide +kernel⟩
def m__law_person : Sl → Option Fl := mSeq (mSet 1 (mFn' 2 4 m__law_drawn [true, false] [] (mCons (mVar 0) (mCons (mLst (mCons (mC (.str "smith")) (mCons (mC (.str "smit")) (mCons (mC (.str "a")) (mCons (mC (.str "ab")) (mCons (mC (.str "lee")) (mCons (mC (.str "abcdefghijkl")) (mNil)))))))) (mNil))))) (mRet (mTup (mCons (mVar 1) (mCons (mFn' 2 4 m__law_drawn [true, false] [] (mCons (mVar 0) (mCons (mLst (mCons (mC (.str "jo")) (mCons (mC (.str "j")) (mCons (mC (.str "john")) (mCons (mC (.str "ann")) (mCons (mC (.str "a")) (mCons (mC (.str "joe")) (mCons (mC (.str "bo")) (mNil))))))))) (mNil)))) (mNil)))))
theorem c__law_person (z : Z K mg) : Cal P w K mg base 4 "_law_person" ["well"] 1 2 m__law_person :=
  cal_mk z.f__law_person sc__law_person rfl rfl (fun _ _ _ _ _ _ us hl => match us, hl with | [_], _ => rfl) fun f cdv A outer s H E hr =>
    es_cons (es_set (i := 1) sc__law_person.nd rfl (.inl rfl) (ev_call [true, false] (c__law_drawn z) (hr.mono (by decide)) (by rfl) (ea_cons (ev_var (pv 0)) (ea_cons (ev_lst (ea_cons (ev_str) (ea_cons (ev_str) (ea_cons (ev_str) (ea_cons (ev_str) (ea_cons (ev_str) (ea_cons (ev_str) (ea_nil)))))))) (ea_nil))))) (es_one (es_ret (ev_tup (ea_cons (ev_var (pv 1)) (ea_cons (ev_call [true, false] (c__law_drawn z) (hr.mono (by decide)) (by rfl) (ea_cons (ev_var (pv 0)) (ea_cons (ev_lst (ea_cons (ev_str) (ea_cons (ev_str) (ea_cons (ev_str) (ea_cons (ev_str) (ea_cons (ev_str) (ea_cons (ev_str) (ea_cons (ev_str) (ea_nil))))))))) (ea_nil)))) (ea_nil))))))
abbrev s__law_source : Stmt := top 82
abbrev N__law_source : List Str := ["well", "greatest", "crowd", "year", "lines", "k"]
theorem sc__law_source : FnScope N__law_source ["well", "greatest"] (defScope s__law_source) := ⟨rfl, rfl, rfl, by decide +kernel, rfl, by decide +kernel, by decide +kernel⟩
def m__law_source : Sl → Option Fl := mSeq (mSet 2 (mCall tupD1 (mCons (mLc [5] (mRng1 true (mCons (m2 addD (mC (.int 1)) (mFn' 2 4 m__law_draw [true, false] [] (mCons (mVar 0) (mCons (mVar 1) (mNil))))) (mNil))) (gNm 5) (mYes) (mFn' 1 2 m__law_person [true] [] (mCons (mVar 0) (mNil)))) (mNil)))) (mSeq (mSet 3 (m2 ixD (mLst (mCons (mC (.int 2020)) (mCons (mC (.int 2020)) (mCons (mC (.int 2021)) (mCons (mC (.int 0)) (mCons (m2 powD (mC (.int 10)) (mC (.int 39))) (mCons (mFn' 2 4 m__law_draw [true, false] [] (mCons (mVar 0) (mCons (m2 powD (mC (.int 10)) (mC (.int 39))) (mNil)))) (mNil)))))))) (mFn' 2 4 m__law_draw [true, false] [] (mCons (mVar 0) (mCons (mC (.int 6)) (mNil)))))) (mSeq (mIf (mB (m2 gtD (mFn' 2 4 m__law_draw [true, false] [] (mCons (mVar 0) (mCons (mC (.int 5)) (mNil)))) (mC (.int 0)))) (mRet (mTup (mCons (mVar 2) (mCons (mVar 3) (mCons (m2 ixD (mLst (mCons (mC (.str "a")) (mCons (mC (.str "a b")) (mCons (mC (.str "on tides")) (mCons (mC (.str "on tide")) (mCons (m2 mulB (mC (.str "b")) (mC (.int 40))) (mNil))))))) (mFn' 2 4 m__law_draw [true, false] [] (mCons (mVar 0) (mCons (mC (.int 5)) (mNil))))) (mNil)))))) (mNext)) (mSeq (mSet 4 (mLc [5] (mRng1 true (mCons (m2 addD (mC (.int 1)) (mFn' 2 4 m__law_draw [true, false] [] (mCons (mVar 0) (mCons (mC (.int 3)) (mNil))))) (mNil))) (gNm 5) (mYes) (mFn' 2 4 m__law_drawn [true, false] [] (mCons (mVar 0) (mCons (mLst (mCons (mC (.str "on")) (mCons (mC (.str "a")) (mCons (mC (.str "abcdefghijkl")) (mNil))))) (mNil)))))) (mRet (mTup (mCons (mVar 2) (mCons (mVar 3) (mCons (mMeth "str" joinD (mC (.str " ")) (mCons (mVar 4) (mNil))) (mNil)))))))))
theorem c__law_source (z : Z K mg) : Cal P w K mg base 5 "_law_source" ["well", "greatest"] 2 6 m__law_source :=
  cal_mk z.f__law_source sc__law_source rfl rfl (fun _ _ _ _ _ _ us hl => match us, hl with | [_, _], _ => rfl) fun f cdv A outer s H E hr =>
    es_cons (es_set (i := 2) sc__law_source.nd rfl (.inl rfl) (ev_callTy call_tuple_of cd_tup (by rfl) z.b_tuple (by decide +kernel) (ea_cons (ev_lc (own := [("k", 5)]) rfl sc__law_source.nd (ei_range1 (by rfl) z.b_range (ea_cons (ev_bin op_addA od_add (ev_int) (ev_call [true, false] (c__law_draw z) (hr.mono (by decide)) (by rfl) (ea_cons (ev_var (pv 0)) (ea_cons (ev_var (pv 1)) (ea_nil))))) (ea_nil))) (blkOk_by (N := N__law_source) (sc := defScope s__law_source) (by decide +kernel)) (by decide) (fun _ _ _ _ _ => eg_nm (pg_name (i := 5) sc__law_source.nd rfl (.inl rfl))) (fun _ _ _ _ _ => ets_nil) (fun _ _ _ _ _ => ev_call [true] (c__law_person z) (hr.mono (by decide)) (by rfl) (ea_cons (ev_var (pv 0)) (ea_nil)))) (ea_nil)))) (es_cons (es_set (i := 3) sc__law_source.nd rfl (.inl rfl) (ev_sub ix_seq od_ix (ev_lst (ea_cons (ev_int) (ea_cons (ev_int) (ea_cons (ev_int) (ea_cons (ev_int) (ea_cons (ev_bin op_powA od_pow (ev_int) (ev_int)) (ea_cons (ev_call [true, false] (c__law_draw z) (hr.mono (by decide)) (by rfl) (ea_cons (ev_var (pv 0)) (ea_cons (ev_bin op_powA od_pow (ev_int) (ev_int)) (ea_nil)))) (ea_nil)))))))) (ev_call [true, false] (c__law_draw z) (hr.mono (by decide)) (by rfl) (ea_cons (ev_var (pv 0)) (ea_cons (ev_int) (ea_nil)))) (fun _ _ => rfl))) (es_cons (es_if (et_cmp (op_gt) od_cmp (ev_call [true, false] (c__law_draw z) (hr.mono (by decide)) (by rfl) (ea_cons (ev_var (pv 0)) (ea_cons (ev_int) (ea_nil)))) (ev_int) (nomark _)) (es_one (es_ret (ev_tup (ea_cons (ev_var (pv 2)) (ea_cons (ev_var (pv 3)) (ea_cons (ev_sub ix_seq od_ix (ev_lst (ea_cons (ev_str) (ea_cons (ev_str) (ea_cons (ev_str) (ea_cons (ev_str) (ea_cons (ev_bin op_mulB od_mulB (ev_str) (ev_int)) (ea_nil))))))) (ev_call [true, false] (c__law_draw z) (hr.mono (by decide)) (by rfl) (ea_cons (ev_var (pv 0)) (ea_cons (ev_int) (ea_nil)))) (fun _ _ => rfl)) (ea_nil))))))) (es_nil)) (es_cons (es_setLc (i := 4) (own := [("k", 5)]) rfl sc__law_source.nd rfl rfl (sw_true rfl rfl rfl (by decide +kernel)) (ei_range1 (by rfl) z.b_range (ea_cons (ev_bin op_addA od_add (ev_int) (ev_call [true, false] (c__law_draw z) (hr.mono (by decide)) (by rfl) (ea_cons (ev_var (pv 0)) (ea_cons (ev_int) (ea_nil))))) (ea_nil))) (blkOk_by (N := N__law_source) (sc := defScope s__law_source) (by decide +kernel)) (by decide) (fun _ _ _ _ _ => eg_nm (pg_name (i := 5) sc__law_source.nd rfl (.inl rfl))) (fun _ _ _ _ _ => ets_nil) (fun _ _ _ _ _ => ev_call [true, false] (c__law_drawn z) (hr.mono (by decide)) (by rfl) (ea_cons (ev_var (pv 0)) (ea_cons (ev_lst (ea_cons (ev_str) (ea_cons (ev_str) (ea_cons (ev_str) (ea_nil))))) (ea_nil))))) (es_one (es_ret (ev_tup (ea_cons (ev_var (pv 2)) (ea_cons (ev_var (pv 3)) (ea_cons (ev_meth PySem.F.plainAttrs_str PySem.F.slot_str_join PySem.F.type_str_join mt_join md_join (ev_str) (ea_cons (ev_var (pv 4)) (ea_nil))) (ea_nil))))))))))
abbrev s__law_rules : Stmt := top 83
abbrev N__law_rules : List Str := ["well", "greatest", "top", "words", "chosen", "k"]
theorem sc__law_rules : FnScope N__law_rules ["well", "greatest"] (defScope s__law_rules) := ⟨rfl, rfl, rfl, by decide +kernel, rfl, by decide +kernel, by decide +kernel⟩
def m__law_rules : Sl → Option Fl := mSeq (mSet 2 (m2 addD (mC (.int 1)) (mFn' 2 4 m__law_draw [true, false] [] (mCons (mVar 0) (mCons (mVar 1) (mNil)))))) (mSeq (mSet 3 (mLst (mCons (mC (.str "names")) (mCons (mC (.str "all")) (mCons (mC (.str "first initial")) (mCons (mC (.str "initials")) (mCons (mC (.str "first given")) (mCons (mC (.str "given")) (mCons (mC (.str "title")) (mNil)))))))))) (mSeq (mSet 4 (mLst (mNil))) (mSeq (mFor (mRng1 false (mCons (mFn' 2 4 m__law_draw [true, false] [] (mCons (mVar 0) (mCons (mC (.int 8)) (mNil)))) (mNil))) (gNm 5) (mDrop (mOwnL 4 appD (mCons (mOwnL 3 popAtD (mCons (mFn' 2 4 m__law_draw [true, false] [] (mCons (mVar 0) (mCons (mCall lenD (mCons (mVar 3) (mNil))) (mNil)))) (mNil))) (mNil))))) (mRet (mTup (mCons (mVar 2) (mCons (m2 addD (mC (.int 1)) (mFn' 2 4 m__law_draw [true, false] [] (mCons (mVar 0) (mCons (mVar 2) (mNil))))) (mCons (mCall tupD1 (mCons (mVar 4) (mNil))) (mNil)))))))))
theorem c__law_rules (z : Z K mg) : Cal P w K mg base 3 "_law_rules" ["well", "greatest"] 2 6 m__law_rules :=
  cal_mk z.f__law_rules sc__law_rules rfl rfl (fun _ _ _ _ _ _ us hl => match us, hl with | [_, _], _ => rfl) fun f cdv A outer s H E hr =>
    es_cons (es_set (i := 2) sc__law_rules.nd rfl (.inl rfl) (ev_bin op_addA od_add (ev_int) (ev_call [true, false] (c__law_draw z) (hr.mono (by decide)) (by rfl) (ea_cons (ev_var (pv 0)) (ea_cons (ev_var (pv 1)) (ea_nil)))))) (es_cons (es_set (i := 3) sc__law_rules.nd rfl (.inl rfl) (ev_lst (ea_cons (ev_str) (ea_cons (ev_str) (ea_cons (ev_str) (ea_cons (ev_str) (ea_cons (ev_str) (ea_cons (ev_str) (ea_cons (ev_str) (ea_nil)))))))))) (es_cons (es_set (i := 4) sc__law_rules.nd rfl (.inl rfl) (ev_lst (ea_nil))) (es_cons (es_for (bd := false) PassesOwn.never rfl (ei_range1 (by rfl) z.b_range (ea_cons (ev_call [true, false] (c__law_draw z) (hr.mono (by decide)) (by rfl) (ea_cons (ev_var (pv 0)) (ea_cons (ev_int) (ea_nil)))) (ea_nil))) (eg_nm (pg_name (i := 5) sc__law_rules.nd rfl (.inl rfl))) (es_one (es_expr (ev_own PySem.F.slot_list_append PySem.F.type_list_append mt_append ow_app (pv 4) (ea_cons (ev_own PySem.F.slot_list_pop PySem.F.type_list_pop mt_popAt ow_popAt (pv 3) (ea_cons (ev_call [true, false] (c__law_draw z) (hr.mono (by decide)) (by rfl) (ea_cons (ev_var (pv 0)) (ea_cons (ev_callB call_lenA cd_len (by rfl) z.b_len PySem.boot_len (ea_cons (ev_var (pv 3)) (ea_nil))) (ea_nil)))) (ea_nil))) (ea_nil)))))) (es_one (es_ret (ev_tup (ea_cons (ev_var (pv 2)) (ea_cons (ev_bin op_addA od_add (ev_int) (ev_call [true, false] (c__law_draw z) (hr.mono (by decide)) (by rfl) (ea_cons (ev_var (pv 0)) (ea_cons (ev_var (pv 2)) (ea_nil))))) (ea_cons (ev_callTy call_tuple_of cd_tup (by rfl) z.b_tuple (by decide +kernel) (ea_cons (ev_var (pv 4)) (ea_nil))) (ea_nil))))))))))
abbrev s__law_fits : Stmt := top 84
abbrev N__law_fits : List Str := ["mark", "one", "shown", "more", "year", "name", "tail", "crowd", "k", "family", "part", "given"]
theorem sc__law_fits : FnScope N__law_fits ["mark", "one"] (defScope s__law_fits) := ⟨rfl, rfl, rfl, by decide +kernel, rfl, by decide +kernel, by decide +kernel⟩
def m__law_fits : Sl → Option Fl := mSeq (mUnp (gTp 5 (gsCons (gNm 2) (gsCons (gNm 3) (gsCons (gNm 4) (gsCons (gNm 5) (gsCons (gNm 6) (gsNil))))))) (mVar 0)) (mSeq (mSet 7 (m2 ixD (mVar 1) (mC (.int 0)))) (mSeq (mIf (mTOr (mB (m2 neD (mVar 4) (m2 ixD (mVar 1) (mC (.int 1))))) (mTAnd (mB (mIsN true (mVar 5))) (mB (m2 neD (mVar 5) (m2 ixD (mVar 1) (mC (.int 2))))))) (mRet (mC (.bool false))) (mNext)) (mSeq (mIf (mTOr (mTAnd (mB (mVar 3)) (mB (m2 leD (mCall lenD (mCons (mVar 7) (mNil))) (mCall lenD (mCons (mVar 2) (mNil)))))) (mTAnd (mTNot (mB (mVar 3))) (mB (m2 neD (mCall lenD (mCons (mVar 7) (mNil))) (mCall lenD (mCons (mVar 2) (mNil))))))) (mRet (mC (.bool false))) (mNext)) (mSeq (mFor (mRng1 false (mCons (mCall lenD (mCons (mVar 2) (mNil))) (mNil))) (gNm 8) (mSeq (mUnp (gTp 2 (gsCons (gNm 9) (gsCons (gNm 10) (gsNil)))) (m2 ixD (mVar 2) (mVar 8))) (mSeq (mSet 11 (m2 ixD (m2 ixD (mVar 7) (mVar 8)) (mC (.int 1)))) (mIf (mTOr (mB (m2 neD (mVar 9) (m2 ixD (m2 ixD (mVar 7) (mVar 8)) (mC (.int 0))))) (mB (m2 (inA true) (mVar 10) (mTup (mCons (mC (.str "")) (mCons (mVar 11) (mCons (m2 addD (m2 ixD (mVar 11) (mC (.int 0))) (mC (.str "."))) (mNil)))))))) (mRet (mC (.bool false))) (mNext))))) (mRet (mC (.bool true)))))))
theorem c__law_fits (z : Z K mg) : Cal P w K mg base 2 "_law_fits" ["mark", "one"] 2 12 m__law_fits :=
  cal_mk z.f__law_fits sc__law_fits rfl rfl (fun _ _ _ _ _ _ us hl => match us, hl with | [_, _], _ => rfl) fun f cdv A outer s H E hr =>
    es_cons (es_unp (ev_var (pv 0)) (eg_tp rfl (egs_cons (eg_nm (pg_name (i := 2) sc__law_fits.nd rfl (.inl rfl))) (egs_cons (eg_nm (pg_name (i := 3) sc__law_fits.nd rfl (.inl rfl))) (egs_cons (eg_nm (pg_name (i := 4) sc__law_fits.nd rfl (.inl rfl))) (egs_cons (eg_nm (pg_name (i := 5) sc__law_fits.nd rfl (.inl rfl))) (egs_cons (eg_nm (pg_name (i := 6) sc__law_fits.nd rfl (.inl rfl))) (egs_nil)))))))) (es_cons (es_set (i := 7) sc__law_fits.nd rfl (.inl rfl) (ev_sub ix_seq od_ix (ev_var (pv 1)) (ev_int) (fun _ _ => rfl))) (es_cons (es_if ((ew_or (et_cmp (op_neD (hu64 hr)) od_ne (ev_var (pv 4)) (ev_sub ix_seq od_ix (ev_var (pv 1)) (ev_int) (fun _ _ => rfl)) (nomark _)) (ew_or1 ((ew_and (et_notN (ev_var (pv 5))) (ew_and1 (et_cmp (op_neD (hu64 hr)) od_ne (ev_var (pv 5)) (ev_sub ix_seq od_ix (ev_var (pv 1)) (ev_int) (fun _ _ => rfl)) (nomark _)))).t))).t) (es_one (es_ret (ev_bl))) (es_nil)) (es_cons (es_if ((ew_or ((ew_and (et_val (ev_var (pv 3))) (ew_and1 (et_cmp (op_le) od_cmp (ev_callB call_lenA cd_len (by rfl) z.b_len PySem.boot_len (ea_cons (ev_var (pv 7)) (ea_nil))) (ev_callB call_lenA cd_len (by rfl) z.b_len PySem.boot_len (ea_cons (ev_var (pv 2)) (ea_nil))) (nomark _)))).t) (ew_or1 ((ew_and (et_not (et_val (ev_var (pv 3)))) (ew_and1 (et_cmp (op_neD (hu64 hr)) od_ne (ev_callB call_lenA cd_len (by rfl) z.b_len PySem.boot_len (ea_cons (ev_var (pv 7)) (ea_nil))) (ev_callB call_lenA cd_len (by rfl) z.b_len PySem.boot_len (ea_cons (ev_var (pv 2)) (ea_nil))) (nomark _)))).t))).t) (es_one (es_ret (ev_bl))) (es_nil)) (es_cons (es_for (bd := false) PassesOwn.never rfl (ei_range1 (by rfl) z.b_range (ea_cons (ev_callB call_lenA cd_len (by rfl) z.b_len PySem.boot_len (ea_cons (ev_var (pv 2)) (ea_nil))) (ea_nil))) (eg_nm (pg_name (i := 8) sc__law_fits.nd rfl (.inl rfl))) (es_cons (es_unp (ev_sub ix_seq od_ix (ev_var (pv 2)) (ev_var (pv 8)) (fun _ _ => rfl)) (eg_tp rfl (egs_cons (eg_nm (pg_name (i := 9) sc__law_fits.nd rfl (.inl rfl))) (egs_cons (eg_nm (pg_name (i := 10) sc__law_fits.nd rfl (.inl rfl))) (egs_nil))))) (es_cons (es_set (i := 11) sc__law_fits.nd rfl (.inl rfl) (ev_sub ix_seq od_ix (ev_sub ix_seq od_ix (ev_var (pv 7)) (ev_var (pv 8)) (fun _ _ => rfl)) (ev_int) (fun _ _ => rfl))) (es_one (es_if ((ew_or (et_cmp (op_neD (hu64 hr)) od_ne (ev_var (pv 9)) (ev_sub ix_seq od_ix (ev_sub ix_seq od_ix (ev_var (pv 7)) (ev_var (pv 8)) (fun _ _ => rfl)) (ev_int) (fun _ _ => rfl)) (nomark _)) (ew_or1 (et_cmp (op_notInA (hu65 hr)) od_in (ev_var (pv 10)) (ev_tup (ea_cons (ev_str) (ea_cons (ev_var (pv 11)) (ea_cons (ev_bin op_addA od_add (ev_sub ix_seq od_ix (ev_var (pv 11)) (ev_int) (fun _ _ => rfl)) (ev_str)) (ea_nil))))) (by with_unfolding_all rfl)))).t) (es_one (es_ret (ev_bl))) (es_nil)))))) (es_one (es_ret (ev_bl)))))))
abbrev s__law_forced : Stmt := top 85
abbrev N__law_forced : List Str := ["rules", "one", "mate", "row", "k", "at", "books"]
theorem sc__law_forced : FnScope N__law_forced ["rules", "one", "mate", "row", "k"] (defScope s__law_forced) := ⟨rfl, rfl, rfl, by decide +kernel, rfl, by decide +kernel, by decide +kernel⟩
def m__law_forced : Sl → Option Fl := mSeq (mIf (mTNot (mB (mFn' 2 3 m__law_same [false, false] [] (mCons (mFn' 3 3 m_need [false, false, false] [] (mCons (mVar 0) (mCons (mVar 1) (mCons (mVar 2) (mNil))))) (mCons (mVar 4) (mNil)))))) (mRet (mC (.bool false))) (mNext)) (mSeq (mFor (mRng1 false (mCons (mC (.int 2)) (mNil))) (gNm 5) (mSeq (mSet 6 (mIfE (mB (m2 eqD (mVar 5) (mC (.int 0)))) (mTup (mCons (mVar 1) (mCons (mVar 2) (mNil)))) (mTup (mCons (mVar 2) (mCons (mVar 1) (mNil)))))) (mSeq (mIf (mTNot (mB (mFn' 2 3 m__law_same [false, false] [] (mCons (mLst (mCons (mFn' 3 3 m_place_of [false, false, false] [] (mCons (mVar 0) (mCons (mVar 6) (mCons (mVar 5) (mNil))))) (mCons (mFn' 3 5 m_reason [false, false, false] [] (mCons (mVar 0) (mCons (mVar 6) (mCons (mVar 5) (mNil))))) (mNil)))) (mCons (mLst (mCons (mVar 4) (mCons (m2 subD (mC (.int 1)) (mVar 5)) (mNil)))) (mNil)))))) (mRet (mC (.bool false))) (mNext)) (mIf (mTNot (mB (mFn' 2 3 m__law_same [false, false] [] (mCons (mFn' 3 3 m_label_of [false, false, false] [] (mCons (mVar 0) (mCons (mVar 6) (mCons (mVar 5) (mNil))))) (mCons (m2 ixD (mVar 3) (mVar 4)) (mNil)))))) (mRet (mC (.bool false))) (mNext))))) (mRet (mC (.bool true))))
theorem c__law_forced (z : Z K mg) : Cal P w K mg base 11 "_law_forced" ["rules", "one", "mate", "row", "k"] 5 7 m__law_forced :=
  cal_mk z.f__law_forced sc__law_forced rfl rfl (fun _ _ _ _ _ _ us hl => match us, hl with | [_, _, _, _, _], _ => rfl) fun f cdv A outer s H E hr =>
    es_cons (es_if (et_not (et_val (ev_call [false, false] (c__law_same z) (hr.mono (by decide)) (by rfl) (ea_cons (ev_call [false, false, false] (c_need z) (hr.mono (by decide)) (by rfl) (ea_cons (ev_var (pv 0)) (ea_cons (ev_var (pv 1)) (ea_cons (ev_var (pv 2)) (ea_nil))))) (ea_cons (ev_var (pv 4)) (ea_nil)))))) (es_one (es_ret (ev_bl))) (es_nil)) (es_cons (es_for (bd := false) PassesOwn.never rfl (ei_range1 (by rfl) z.b_range (ea_cons (ev_int) (ea_nil))) (eg_nm (pg_name (i := 5) sc__law_forced.nd rfl (.inl rfl))) (es_cons (es_set (i := 6) sc__law_forced.nd rfl (.inl rfl) (ev_ifE (et_cmp (op_eqD (hu64 hr)) od_eq (ev_var (pv 5)) (ev_int) (nomark _)) (ev_tup (ea_cons (ev_var (pv 1)) (ea_cons (ev_var (pv 2)) (ea_nil)))) (ev_tup (ea_cons (ev_var (pv 2)) (ea_cons (ev_var (pv 1)) (ea_nil)))))) (es_cons (es_if (et_not (et_val (ev_call [false, false] (c__law_same z) (hr.mono (by decide)) (by rfl) (ea_cons (ev_lst (ea_cons (ev_call [false, false, false] (c_place_of z) (hr.mono (by decide)) (by rfl) (ea_cons (ev_var (pv 0)) (ea_cons (ev_var (pv 6)) (ea_cons (ev_var (pv 5)) (ea_nil))))) (ea_cons (ev_call [false, false, false] (c_reason z) (hr.mono (by decide)) (by rfl) (ea_cons (ev_var (pv 0)) (ea_cons (ev_var (pv 6)) (ea_cons (ev_var (pv 5)) (ea_nil))))) (ea_nil)))) (ea_cons (ev_lst (ea_cons (ev_var (pv 4)) (ea_cons (ev_bin op_sub od_sub (ev_int) (ev_var (pv 5))) (ea_nil)))) (ea_nil)))))) (es_one (es_ret (ev_bl))) (es_nil)) (es_one (es_if (et_not (et_val (ev_call [false, false] (c__law_same z) (hr.mono (by decide)) (by rfl) (ea_cons (ev_call [false, false, false] (c_label_of z) (hr.mono (by decide)) (by rfl) (ea_cons (ev_var (pv 0)) (ea_cons (ev_var (pv 6)) (ea_cons (ev_var (pv 5)) (ea_nil))))) (ea_cons (ev_sub ix_seq od_ix (ev_var (pv 3)) (ev_var (pv 4)) (fun _ _ => rfl)) (ea_nil)))))) (es_one (es_ret (ev_bl))) (es_nil)))))) (es_one (es_ret (ev_bl))))
abbrev s__law_lettered : Stmt := top 86
abbrev N__law_lettered : List Str := ["rules", "one", "mate", "row", "at", "books", "found", "mark", "twin", "tail"]
theorem sc__law_lettered : FnScope N__law_lettered ["rules", "one", "mate", "row"] (defScope s__law_lettered) := ⟨rfl, rfl, rfl, by decide +kernel, rfl, by decide +kernel, by decide +kernel⟩
def m__law_lettered : Sl → Option Fl := mSeq (mIf (mTOr (mB (mIsN true (mFn' 3 3 m_need [false, false, false] [] (mCons (mVar 0) (mCons (mVar 1) (mCons (mVar 2) (mNil))))))) (mTNot (mB (mFn' 2 12 m__law_fits [false, false] [] (mCons (m2 ixD (mVar 3) (m1 negD (mC (.int 1)))) (mCons (mVar 2) (mNil))))))) (mRet (mC (.bool false))) (mNext)) (mSeq (mFor (mRng1 false (mCons (mC (.int 2)) (mNil))) (gNm 4) (mSeq (mSet 5 (mIfE (mB (m2 eqD (mVar 4) (mC (.int 0)))) (mTup (mCons (mVar 1) (mCons (mVar 2) (mNil)))) (mTup (mCons (mVar 2) (mCons (mVar 1) (mNil)))))) (mSeq (mIf (mTOr (mB (mIsN true (mFn' 3 3 m_place_of [false, false, false] [] (mCons (mVar 0) (mCons (mVar 5) (mCons (mVar 4) (mNil))))))) (mB (m2 neD (mFn' 3 5 m_reason [false, false, false] [] (mCons (mVar 0) (mCons (mVar 5) (mCons (mVar 4) (mNil))))) (m2 subD (mC (.int 1)) (mVar 4))))) (mRet (mC (.bool false))) (mNext)) (mSeq (mSet 6 (mFn' 2 2 m_labels [false, false] [] (mCons (mVar 0) (mCons (mVar 5) (mNil))))) (mSeq (mPar2 7 8 (m2 ixD (mVar 6) (mVar 4)) (m2 ixD (mVar 6) (m2 subD (mC (.int 1)) (mVar 4)))) (mSeq (mSet 9 (mC (.str "a"))) (mSeq (mIf (mTAnd (mB (m2 eqD (mSl (mVar 8) (mNoPart) (mPart (mC (.int 4)))) (mSl (mVar 7) (mNoPart) (mPart (mC (.int 4)))))) (mB (m2 ltB (mVar 2) (mVar 1)))) (mSet 9 (mC (.str "b"))) (mNext)) (mIf (mTOr (mTNot (mB (mFn' 2 3 m__law_same [false, false] [] (mCons (mVar 7) (mCons (m2 addD (mSl (m2 ixD (mVar 3) (m1 negD (mC (.int 1)))) (mNoPart) (mPart (mC (.int 4)))) (mTup (mCons (mVar 9) (mNil)))) (mNil)))))) (mB (m2 eqD (mVar 7) (mVar 8)))) (mRet (mC (.bool false))) (mNext))))))))) (mRet (mC (.bool true))))
theorem c__law_lettered (z : Z K mg) : Cal P w K mg base 11 "_law_lettered" ["rules", "one", "mate", "row"] 4 10 m__law_lettered :=
  cal_mk z.f__law_lettered sc__law_lettered rfl rfl (fun _ _ _ _ _ _ us hl => match us, hl with | [_, _, _, _], _ => rfl) fun f cdv A outer s H E hr =>
    es_cons (es_if ((ew_or (et_notN (ev_call [false, false, false] (c_need z) (hr.mono (by decide)) (by rfl) (ea_cons (ev_var (pv 0)) (ea_cons (ev_var (pv 1)) (ea_cons (ev_var (pv 2)) (ea_nil)))))) (ew_or1 (et_not (et_val (ev_call [false, false] (c__law_fits z) (hr.mono (by decide)) (by rfl) (ea_cons (ev_sub ix_seq od_ix (ev_var (pv 3)) (ev_un un_neg ud_neg (ev_int)) (fun _ _ => rfl)) (ea_cons (ev_var (pv 2)) (ea_nil)))))))).t) (es_one (es_ret (ev_bl))) (es_nil)) (es_cons (es_for (bd := false) PassesOwn.never rfl (ei_range1 (by rfl) z.b_range (ea_cons (ev_int) (ea_nil))) (eg_nm (pg_name (i := 4) sc__law_lettered.nd rfl (.inl rfl))) (es_cons (es_set (i := 5) sc__law_lettered.nd rfl (.inl rfl) (ev_ifE (et_cmp (op_eqD (hu64 hr)) od_eq (ev_var (pv 4)) (ev_int) (nomark _)) (ev_tup (ea_cons (ev_var (pv 1)) (ea_cons (ev_var (pv 2)) (ea_nil)))) (ev_tup (ea_cons (ev_var (pv 2)) (ea_cons (ev_var (pv 1)) (ea_nil)))))) (es_cons (es_if ((ew_or (et_notN (ev_call [false, false, false] (c_place_of z) (hr.mono (by decide)) (by rfl) (ea_cons (ev_var (pv 0)) (ea_cons (ev_var (pv 5)) (ea_cons (ev_var (pv 4)) (ea_nil)))))) (ew_or1 (et_cmp (op_neD (hu64 hr)) od_ne (ev_call [false, false, false] (c_reason z) (hr.mono (by decide)) (by rfl) (ea_cons (ev_var (pv 0)) (ea_cons (ev_var (pv 5)) (ea_cons (ev_var (pv 4)) (ea_nil))))) (ev_bin op_sub od_sub (ev_int) (ev_var (pv 4))) (nomark _)))).t) (es_one (es_ret (ev_bl))) (es_nil)) (es_cons (es_set (i := 6) sc__law_lettered.nd rfl (.inl rfl) (ev_call [false, false] (c_labels z) (hr.mono (by decide)) (by rfl) (ea_cons (ev_var (pv 0)) (ea_cons (ev_var (pv 5)) (ea_nil))))) (es_cons (es_par2 rfl sc__law_lettered.nd rfl rfl (by decide) rfl rfl (ev_sub ix_seq od_ix (ev_var (pv 6)) (ev_var (pv 4)) (fun _ _ => rfl)) (ev_sub ix_seq od_ix (ev_var (pv 6)) (ev_bin op_sub od_sub (ev_int) (ev_var (pv 4))) (fun _ _ => rfl)) rfl rfl (by with_unfolding_all rfl)) (es_cons (es_set (i := 9) sc__law_lettered.nd rfl (.inl rfl) (ev_str)) (es_cons (es_if ((ew_and (et_cmp (op_eqD (hu64 hr)) od_eq (ev_slice (ev_var (pv 8)) (eo_none) (eo_some (ev_int))) (ev_slice (ev_var (pv 7)) (eo_none) (eo_some (ev_int))) (nomark _)) (ew_and1 (et_cmp (op_ltB (hu65 hr)) od_ltB (ev_var (pv 2)) (ev_var (pv 1)) (nomark _)))).t) (es_one (es_set (i := 9) sc__law_lettered.nd rfl (.inl rfl) (ev_str))) (es_nil)) (es_one (es_if ((ew_or (et_not (et_val (ev_call [false, false] (c__law_same z) (hr.mono (by decide)) (by rfl) (ea_cons (ev_var (pv 7)) (ea_cons (ev_bin op_addA od_add (ev_slice (ev_sub ix_seq od_ix (ev_var (pv 3)) (ev_un un_neg ud_neg (ev_int)) (fun _ _ => rfl)) (eo_none) (eo_some (ev_int))) (ev_tup (ea_cons (ev_var (pv 9)) (ea_nil)))) (ea_nil)))))) (ew_or1 (et_cmp (op_eqD (hu64 hr)) od_eq (ev_var (pv 7)) (ev_var (pv 8)) (nomark _)))).t) (es_one (es_ret (ev_bl))) (es_nil)))))))))) (es_one (es_ret (ev_bl))))
abbrev s__law_several : Stmt := top 87
abbrev N__law_several : List Str := ["well", "rules", "one", "row", "mates", "books", "places", "k", "mate", "spot", "at", "due"]
theorem sc__law_several : FnScope N__law_several ["well", "rules", "one", "row", "mates"] (defScope s__law_several) := ⟨rfl, rfl, rfl, by decide +kernel, rfl, by decide +kernel, by decide +kernel⟩
def m__law_several : Sl → Option Fl := mSeq (mPar2 5 6 (mLst (mCons (mVar 2) (mNil))) (mLst (mCons (mC (.int 0)) (mNil)))) (mSeq (mFor (mItA (mVar 4)) (gTp 2 (gsCons (gNm 7) (gsCons (gNm 8) (gsNil)))) (mIf (mB (m2 eqD (mFn' 2 4 m__law_draw [true, false] [] (mCons (mVar 0) (mCons (mC (.int 2)) (mNil)))) (mC (.int 0)))) (mSeq (mSet 9 (mFn' 2 4 m__law_draw [true, false] [] (mCons (mVar 0) (mCons (m2 addD (mCall lenD (mCons (mVar 5) (mNil))) (mC (.int 1))) (mNil))))) (mSeq (mSet 5 (m2 addD (m2 addD (mSl (mVar 5) (mNoPart) (mPart (mVar 9))) (mLst (mCons (mVar 8) (mNil)))) (mSl (mVar 5) (mPart (mVar 9)) (mNoPart)))) (mDrop (mOwnL 6 appD (mCons (mVar 7) (mNil)))))) (mNext))) (mSeq (mSet 10 (mMeth "list" indexD (mVar 5) (mCons (mVar 2) (mNil)))) (mSeq (mSet 5 (mCall tupD1 (mCons (mVar 5) (mNil)))) (mSeq (mSet 11 (mCall maxD (mCons (mVar 6) (mNil)))) (mSeq (mIf (mB (m2 eqD (mVar 11) (mCall lenD (mCons (mVar 3) (mNil))))) (mRet (mIsN false (mFn' 3 3 m_place_of [false, false, false] [] (mCons (mVar 1) (mCons (mVar 5) (mCons (mVar 10) (mNil))))))) (mNext)) (mRet (mFn' 2 3 m__law_same [false, false] [] (mCons (mLst (mCons (mFn' 3 3 m_place_of [false, false, false] [] (mCons (mVar 1) (mCons (mVar 5) (mCons (mVar 10) (mNil))))) (mCons (mFn' 3 3 m_label_of [false, false, false] [] (mCons (mVar 1) (mCons (mVar 5) (mCons (mVar 10) (mNil))))) (mNil)))) (mCons (mLst (mCons (mVar 11) (mCons (m2 ixD (mVar 3) (mVar 11)) (mNil)))) (mNil))))))))))
theorem c__law_several (z : Z K mg) : Cal P w K mg base 11 "_law_several" ["well", "rules", "one", "row", "mates"] 5 12 m__law_several :=
  cal_mk z.f__law_several sc__law_several rfl rfl (fun _ _ _ _ _ _ us hl => match us, hl with | [_, _, _, _, _], _ => rfl) fun f cdv A outer s H E hr =>
    es_cons (es_par2 rfl sc__law_several.nd rfl rfl (by decide) rfl rfl (ev_lst (ea_cons (ev_var (pv 2)) (ea_nil))) (ev_lst (ea_cons (ev_int) (ea_nil))) rfl rfl (by with_unfolding_all rfl)) (es_cons (es_for (bd := false) PassesOwn.never rfl (ei_any (ev_var (pv 4))) (eg_tp rfl (egs_cons (eg_nm (pg_name (i := 7) sc__law_several.nd rfl (.inl rfl))) (egs_cons (eg_nm (pg_name (i := 8) sc__law_several.nd rfl (.inl rfl))) (egs_nil)))) (es_one (es_if (et_cmp (op_eqD (hu64 hr)) od_eq (ev_call [true, false] (c__law_draw z) (hr.mono (by decide)) (by rfl) (ea_cons (ev_var (pv 0)) (ea_cons (ev_int) (ea_nil)))) (ev_int) (nomark _)) (es_cons (es_set (i := 9) sc__law_several.nd rfl (.inl rfl) (ev_call [true, false] (c__law_draw z) (hr.mono (by decide)) (by rfl) (ea_cons (ev_var (pv 0)) (ea_cons (ev_bin op_addA od_add (ev_callB call_lenA cd_len (by rfl) z.b_len PySem.boot_len (ea_cons (ev_var (pv 5)) (ea_nil))) (ev_int)) (ea_nil))))) (es_cons (es_set (i := 5) sc__law_several.nd rfl (.inl rfl) (ev_bin op_addA od_add (ev_bin op_addA od_add (ev_slice (ev_var (pv 5)) (eo_none) (eo_some (ev_var (pv 9)))) (ev_lst (ea_cons (ev_var (pv 8)) (ea_nil)))) (ev_slice (ev_var (pv 5)) (eo_some (ev_var (pv 9))) (eo_none)))) (es_one (es_expr (ev_own PySem.F.slot_list_append PySem.F.type_list_append mt_append ow_app (pv 6) (ea_cons (ev_var (pv 7)) (ea_nil))))))) (es_nil)))) (es_cons (es_set (i := 10) sc__law_several.nd rfl (.inl rfl) (ev_meth PySem.F.plainAttrs_list PySem.F.slot_list_index PySem.F.type_list_index (mt_indexD (hu65 hr)) md_index (ev_var (pv 5)) (ea_cons (ev_var (pv 2)) (ea_nil)))) (es_cons (es_set (i := 5) sc__law_several.nd rfl (.inl rfl) (ev_callTy call_tuple_of cd_tup (by rfl) z.b_tuple (by decide +kernel) (ea_cons (ev_var (pv 5)) (ea_nil)))) (es_cons (es_set (i := 11) sc__law_several.nd rfl (.inl rfl) (ev_callB (call_maxA rfl) cd_max (by rfl) z.b_max (by decide +kernel) (ea_cons (ev_var (pv 6)) (ea_nil)))) (es_cons (es_if (et_cmp (op_eqD (hu64 hr)) od_eq (ev_var (pv 11)) (ev_callB call_lenA cd_len (by rfl) z.b_len PySem.boot_len (ea_cons (ev_var (pv 3)) (ea_nil))) (nomark _)) (es_one (es_ret (ev_isN (ev_call [false, false, false] (c_place_of z) (hr.mono (by decide)) (by rfl) (ea_cons (ev_var (pv 1)) (ea_cons (ev_var (pv 5)) (ea_cons (ev_var (pv 10)) (ea_nil)))))))) (es_nil)) (es_one (es_ret (ev_call [false, false] (c__law_same z) (hr.mono (by decide)) (by rfl) (ea_cons (ev_lst (ea_cons (ev_call [false, false, false] (c_place_of z) (hr.mono (by decide)) (by rfl) (ea_cons (ev_var (pv 1)) (ea_cons (ev_var (pv 5)) (ea_cons (ev_var (pv 10)) (ea_nil))))) (ea_cons (ev_call [false, false, false] (c_label_of z) (hr.mono (by decide)) (by rfl) (ea_cons (ev_var (pv 1)) (ea_cons (ev_var (pv 5)) (ea_cons (ev_var (pv 10)) (ea_nil))))) (ea_nil)))) (ea_cons (ev_lst (ea_cons (ev_var (pv 11)) (ea_cons (ev_sub ix_seq od_ix (ev_var (pv 3)) (ev_var (pv 11)) (fun _ _ => rfl)) (ea_nil)))) (ea_nil)))))))))))
abbrev s__law_right : Stmt := top 88
abbrev N__law_right : List Str := ["well", "rules", "one", "row", "mates", "k", "mate", "every"]
theorem sc__law_right : FnScope N__law_right ["well", "rules", "one"] (defScope s__law_right) := ⟨rfl, rfl, rfl, by decide +kernel, rfl, by decide +kernel, by decide +kernel⟩
def m__law_right : Sl → Option Fl := mSeq (mSet 3 (mFn' 2 2 m_path [false, false] [] (mCons (mVar 1) (mCons (mVar 2) (mNil))))) (mSeq (mIf (mTOr (mTNot (mB (mIsi "list" (mVar 3)))) (mB (m2 eqD (mVar 3) (mLst (mNil))))) (mRet (mC (.bool false))) (mNext)) (mSeq (mIf (mTNot (mB (mFn' 2 3 m__law_same [false, false] [] (mCons (mLst (mCons (mFn' 3 3 m_place_of [false, false, false] [] (mCons (mVar 1) (mCons (mTup (mCons (mVar 2) (mNil))) (mCons (mC (.int 0)) (mNil))))) (mCons (mFn' 3 5 m_reason [false, false, false] [] (mCons (mVar 1) (mCons (mTup (mCons (mVar 2) (mNil))) (mCons (mC (.int 0)) (mNil))))) (mNil)))) (mCons (mLst (mCons (mC (.int 0)) (mCons (mC .none) (mNil)))) (mNil)))))) (mRet (mC (.bool false))) (mNext)) (mSeq (mSet 4 (mLst (mNil))) (mSeq (mFor (mRng2 false (mCons (mC (.int 1)) (mCons (mCall lenD (mCons (mVar 3) (mNil))) (mNil)))) (gNm 5) (mSeq (mSet 6 (mFn' 2 2 m_outside [false, false] [] (mCons (m2 ixD (mVar 3) (m2 subD (mVar 5) (mC (.int 1)))) (mCons (m2 ixD (mVar 3) (mVar 5)) (mNil))))) (mSeq (mIf (mTOr (mB (mIsN false (mVar 6))) (mTOr (mTNot (mB (mFn' 2 12 m__law_fits [false, false] [] (mCons (m2 ixD (mVar 3) (m2 subD (mVar 5) (mC (.int 1)))) (mCons (mVar 6) (mNil)))))) (mB (mFn' 2 12 m__law_fits [false, false] [] (mCons (m2 ixD (mVar 3) (mVar 5)) (mCons (mVar 6) (mNil))))))) (mRet (mC (.bool false))) (mNext)) (mSeq (mIf (mTNot (mB (mFn' 5 7 m__law_forced [false, false, false, false, false] [] (mCons (mVar 1) (mCons (mVar 2) (mCons (mVar 6) (mCons (mVar 3) (mCons (mVar 5) (mNil))))))))) (mRet (mC (.bool false))) (mNext)) (mDrop (mOwnL 4 appD (mCons (mTup (mCons (mVar 5) (mCons (mVar 6) (mNil)))) (mNil)))))))) (mSeq (mSet 7 (mTup (mCons (m2 ixD (mVar 2) (mC (.int 0))) (mCons (mC (.bool false)) (mCons (m2 ixD (mVar 2) (mC (.int 1))) (mCons (m2 ixD (mVar 2) (mC (.int 2))) (mCons (mC (.str "")) (mNil)))))))) (mSeq (mSet 6 (mFn' 2 2 m_outside [false, false] [] (mCons (m2 ixD (mVar 3) (m1 negD (mC (.int 1)))) (mCons (mVar 7) (mNil))))) (mSeq (mIf (mB (m2 neD (mIsN false (mVar 6)) (m2 eqD (m2 ixD (mVar 3) (m1 negD (mC (.int 1)))) (mVar 7)))) (mRet (mC (.bool false))) (mNext)) (mSeq (mIf (mB (mIsN true (mVar 6))) (mSeq (mIf (mTNot (mB (mFn' 4 10 m__law_lettered [false, false, false, false] [] (mCons (mVar 1) (mCons (mVar 2) (mCons (mVar 6) (mCons (mVar 3) (mNil)))))))) (mRet (mC (.bool false))) (mNext)) (mDrop (mOwnL 4 appD (mCons (mTup (mCons (mCall lenD (mCons (mVar 3) (mNil))) (mCons (mVar 6) (mNil)))) (mNil))))) (mNext)) (mRet (mAndV (mFn' 5 12 m__law_several [true, false, false, false, false] [] (mCons (mVar 0) (mCons (mVar 1) (mCons (mVar 2) (mCons (mVar 3) (mCons (mVar 4) (mNil))))))) (mFn' 5 12 m__law_several [true, false, false, false, false] [] (mCons (mVar 0) (mCons (mVar 1) (mCons (mVar 2) (mCons (mVar 3) (mCons (mVar 4) (mNil)))))))))))))))))
theorem c__law_right (z : Z K mg) : Cal P w K mg base 12 "_law_right" ["well", "rules", "one"] 3 8 m__law_right :=
  cal_mk z.f__law_right sc__law_right rfl rfl (fun _ _ _ _ _ _ us hl => match us, hl with | [_, _, _], _ => rfl) fun f cdv A outer s H E hr =>
    es_cons (es_set (i := 3) sc__law_right.nd rfl (.inl rfl) (ev_call [false, false] (c_path z) (hr.mono (by decide)) (by rfl) (ea_cons (ev_var (pv 1)) (ea_cons (ev_var (pv 2)) (ea_nil))))) (es_cons (es_if ((ew_or (et_not (et_val (ev_isi (Ts := "list") (by rfl) z.b_isinstance (by rfl) z.b_list (by decide +kernel) (ev_var (pv 3))))) (ew_or1 (et_cmp (op_eqD (hu64 hr)) od_eq (ev_var (pv 3)) (ev_lst (ea_nil)) (nomark _)))).t) (es_one (es_ret (ev_bl))) (es_nil)) (es_cons (es_if (et_not (et_val (ev_call [false, false] (c__law_same z) (hr.mono (by decide)) (by rfl) (ea_cons (ev_lst (ea_cons (ev_call [false, false, false] (c_place_of z) (hr.mono (by decide)) (by rfl) (ea_cons (ev_var (pv 1)) (ea_cons (ev_tup (ea_cons (ev_var (pv 2)) (ea_nil))) (ea_cons (ev_int) (ea_nil))))) (ea_cons (ev_call [false, false, false] (c_reason z) (hr.mono (by decide)) (by rfl) (ea_cons (ev_var (pv 1)) (ea_cons (ev_tup (ea_cons (ev_var (pv 2)) (ea_nil))) (ea_cons (ev_int) (ea_nil))))) (ea_nil)))) (ea_cons (ev_lst (ea_cons (ev_int) (ea_cons (ev_non) (ea_nil)))) (ea_nil)))))) (es_one (es_ret (ev_bl))) (es_nil)) (es_cons (es_set (i := 4) sc__law_right.nd rfl (.inl rfl) (ev_lst (ea_nil))) (es_cons (es_for (bd := false) PassesOwn.never rfl (ei_range2 (by rfl) z.b_range (ea_cons (ev_int) (ea_cons (ev_callB call_lenA cd_len (by rfl) z.b_len PySem.boot_len (ea_cons (ev_var (pv 3)) (ea_nil))) (ea_nil)))) (eg_nm (pg_name (i := 5) sc__law_right.nd rfl (.inl rfl))) (es_cons (es_set (i := 6) sc__law_right.nd rfl (.inl rfl) (ev_call [false, false] (c_outside z) (hr.mono (by decide)) (by rfl) (ea_cons (ev_sub ix_seq od_ix (ev_var (pv 3)) (ev_bin op_sub od_sub (ev_var (pv 5)) (ev_int)) (fun _ _ => rfl)) (ea_cons (ev_sub ix_seq od_ix (ev_var (pv 3)) (ev_var (pv 5)) (fun _ _ => rfl)) (ea_nil))))) (es_cons (es_if ((ew_or (et_isN (ev_var (pv 6))) (ew_or (et_not (et_val (ev_call [false, false] (c__law_fits z) (hr.mono (by decide)) (by rfl) (ea_cons (ev_sub ix_seq od_ix (ev_var (pv 3)) (ev_bin op_sub od_sub (ev_var (pv 5)) (ev_int)) (fun _ _ => rfl)) (ea_cons (ev_var (pv 6)) (ea_nil)))))) (ew_or1 (et_val (ev_call [false, false] (c__law_fits z) (hr.mono (by decide)) (by rfl) (ea_cons (ev_sub ix_seq od_ix (ev_var (pv 3)) (ev_var (pv 5)) (fun _ _ => rfl)) (ea_cons (ev_var (pv 6)) (ea_nil)))))))).t) (es_one (es_ret (ev_bl))) (es_nil)) (es_cons (es_if (et_not (et_val (ev_call [false, false, false, false, false] (c__law_forced z) (hr.mono (by decide)) (by rfl) (ea_cons (ev_var (pv 1)) (ea_cons (ev_var (pv 2)) (ea_cons (ev_var (pv 6)) (ea_cons (ev_var (pv 3)) (ea_cons (ev_var (pv 5)) (ea_nil))))))))) (es_one (es_ret (ev_bl))) (es_nil)) (es_one (es_expr (ev_own PySem.F.slot_list_append PySem.F.type_list_append mt_append ow_app (pv 4) (ea_cons (ev_tup (ea_cons (ev_var (pv 5)) (ea_cons (ev_var (pv 6)) (ea_nil)))) (ea_nil))))))))) (es_cons (es_set (i := 7) sc__law_right.nd rfl (.inl rfl) (ev_tup (ea_cons (ev_sub ix_seq od_ix (ev_var (pv 2)) (ev_int) (fun _ _ => rfl)) (ea_cons (ev_bl) (ea_cons (ev_sub ix_seq od_ix (ev_var (pv 2)) (ev_int) (fun _ _ => rfl)) (ea_cons (ev_sub ix_seq od_ix (ev_var (pv 2)) (ev_int) (fun _ _ => rfl)) (ea_cons (ev_str) (ea_nil)))))))) (es_cons (es_set (i := 6) sc__law_right.nd rfl (.inl rfl) (ev_call [false, false] (c_outside z) (hr.mono (by decide)) (by rfl) (ea_cons (ev_sub ix_seq od_ix (ev_var (pv 3)) (ev_un un_neg ud_neg (ev_int)) (fun _ _ => rfl)) (ea_cons (ev_var (pv 7)) (ea_nil))))) (es_cons (es_if (et_cmp (op_neD (hu64 hr)) od_ne (ev_isN (ev_var (pv 6))) (ev_cmp (op_eqD (hu64 hr)) od_eq (ev_sub ix_seq od_ix (ev_var (pv 3)) (ev_un un_neg ud_neg (ev_int)) (fun _ _ => rfl)) (ev_var (pv 7)) (nomark _)) (nomark _)) (es_one (es_ret (ev_bl))) (es_nil)) (es_cons (es_if (et_notN (ev_var (pv 6))) (es_cons (es_if (et_not (et_val (ev_call [false, false, false, false] (c__law_lettered z) (hr.mono (by decide)) (by rfl) (ea_cons (ev_var (pv 1)) (ea_cons (ev_var (pv 2)) (ea_cons (ev_var (pv 6)) (ea_cons (ev_var (pv 3)) (ea_nil)))))))) (es_one (es_ret (ev_bl))) (es_nil)) (es_one (es_expr (ev_own PySem.F.slot_list_append PySem.F.type_list_append mt_append ow_app (pv 4) (ea_cons (ev_tup (ea_cons (ev_callB call_lenA cd_len (by rfl) z.b_len PySem.boot_len (ea_cons (ev_var (pv 3)) (ea_nil))) (ea_cons (ev_var (pv 6)) (ea_nil)))) (ea_nil)))))) (es_nil)) (es_one (es_ret (ev_andV (ev_call [true, false, false, false, false] (c__law_several z) (hr.mono (by decide)) (by rfl) (ea_cons (ev_var (pv 0)) (ea_cons (ev_var (pv 1)) (ea_cons (ev_var (pv 2)) (ea_cons (ev_var (pv 3)) (ea_cons (ev_var (pv 4)) (ea_nil))))))) (ev_one (ev_call [true, false, false, false, false] (c__law_several z) (hr.mono (by decide)) (by rfl) (ea_cons (ev_var (pv 0)) (ea_cons (ev_var (pv 1)) (ea_cons (ev_var (pv 2)) (ea_cons (ev_var (pv 3)) (ea_cons (ev_var (pv 4)) (ea_nil)))))))))))))))))))
abbrev s_law : Stmt := top 89
abbrev N_law : List Str := ["script", "at", "well", "turn"]
theorem sc_law : FnScope N_law ["script"] (defScope s_law) := ⟨rfl, rfl, rfl, by decide +kernel, rfl, by decide +kernel, by decide +kernel⟩
def m_law : Sl → Option Fl := mSeq (mFor (mRng1 false (mCons (mCall maxD (mCons (mC (.int 1)) (mCons (mCall minD (mCons (mC (.int 5)) (mCons (mCall lenD (mCons (mVar 0) (mNil))) (mNil)))) (mNil)))) (mNil))) (gNm 1) (mSeq (mSet 2 (mFn' 2 3 m__law_well [false, false] [] (mCons (mVar 0) (mCons (mVar 1) (mNil))))) (mFor (mRng1 false (mCons (mC (.int 3)) (mNil))) (gNm 3) (mIf (mTNot (mB (mFn' 3 8 m__law_right [true, false, false] [] (mCons (mVar 2) (mCons (mFn' 2 6 m__law_rules [true, false] [] (mCons (mVar 2) (mCons (mC (.int 4)) (mNil)))) (mCons (mFn' 2 6 m__law_source [true, false] [] (mCons (mVar 2) (mCons (mC (.int 6)) (mNil)))) (mNil))))))) (mRet (mC (.bool false))) (mNext))))) (mRet (mC (.bool true)))
theorem b_law (z : Z K mg) : BodyOk P w K mg base N_law 13 "law" s_law m_law := fun f cdv A outer s H E hr =>
    es_cons (es_for (bd := false) PassesOwn.never rfl (ei_range1 (by rfl) z.b_range (ea_cons (ev_callB (call_maxA rfl) cd_max (by rfl) z.b_max (by decide +kernel) (ea_cons (ev_int) (ea_cons (ev_callB (call_minA rfl) cd_min (by rfl) z.b_min (by decide +kernel) (ea_cons (ev_int) (ea_cons (ev_callB call_lenA cd_len (by rfl) z.b_len PySem.boot_len (ea_cons (ev_var (pv 0)) (ea_nil))) (ea_nil)))) (ea_nil)))) (ea_nil))) (eg_nm (pg_name (i := 1) sc_law.nd rfl (.inl rfl))) (es_cons (es_set (i := 2) sc_law.nd rfl (.inl rfl) (ev_call [false, false] (c__law_well z) (hr.mono (by decide)) (by rfl) (ea_cons (ev_var (pv 0)) (ea_cons (ev_var (pv 1)) (ea_nil))))) (es_one (es_for (bd := false) PassesOwn.never rfl (ei_range1 (by rfl) z.b_range (ea_cons (ev_int) (ea_nil))) (eg_nm (pg_name (i := 3) sc_law.nd rfl (.inl rfl))) (es_one (es_if (et_not (et_val (ev_call [true, false, false] (c__law_right z) (hr.mono (by decide)) (by rfl) (ea_cons (ev_var (pv 2)) (ea_cons (ev_call [true, false] (c__law_rules z) (hr.mono (by decide)) (by rfl) (ea_cons (ev_var (pv 2)) (ea_cons (ev_int) (ea_nil)))) (ea_cons (ev_call [true, false] (c__law_source z) (hr.mono (by decide)) (by rfl) (ea_cons (ev_var (pv 2)) (ea_cons (ev_int) (ea_nil)))) (ea_nil))))))) (es_one (es_ret (ev_bl))) (es_nil))))))) (es_one (es_ret (ev_bl)))
end
end
set_option Elab.async false
set_option linter.all false
set_option maxRecDepth 100000
set_option maxHeartbeats 2000000
open PySem PySem.Spec PyProof.Rows L2
/-! ### texts -/
def lowC (c : Nat) : Bool := decide (97 ≤ c) && decide (c ≤ 122)
def lowS (x : Str) : Prop := ∀ c ∈ x.cps.toList, lowC c = true
structure NameOk (x : Str) : Prop where
  low : lowS x
  lo : 1 ≤ x.cps.size
  hi : x.cps.size ≤ 12
def LET : Str := "abcdefghijklmnopqrstuvwxyz"
theorem let_mem (c : Nat) : decide (c ∈ LET.cps.toList) = lowC c := by
  have e : LET.cps.toList = (List.range 26).map (97 + ·) := by decide +kernel
  rw [e]
  unfold lowC
  rw [Bool.eq_iff_iff]
  simp only [decide_eq_true_eq, Bool.and_eq_true, List.mem_map, List.mem_range]
  constructor
  · rintro ⟨a, h1, rfl⟩; omega
  · intro h; exact ⟨c - 97, by omega, by omega⟩
theorem ev_is_integer (v lo hi : Int) : callV 3 m_is_integer [.int v, .int lo, .int hi] = some (.val (.bool (decide (lo ≤ v) && decide (v ≤ hi)))) := by
  unfold callV m_is_integer
  simp_arith []
  cases h1 : decide (lo ≤ v) <;> cases h2 : decide (v ≤ hi) <;> simp_arith [h2]
theorem ev_is_integer' (v lo : Int) : callV 3 m_is_integer [.int v, .int lo, .none] = some (.val (.bool (decide (lo ≤ v)))) := by
  unfold callV m_is_integer
  simp_arith []
  cases h1 : decide (lo ≤ v) <;> simp_arith []
theorem ev_are_letters (x : Str) (h : x.cps.size ≤ 4096) : callV 2 m_are_letters [.str x] = some (.val (.bool (x.cps.toList.all lowC))) := by
  unfold callV m_are_letters
  simp_arith []
  rw [lc_all (xs := x.cps.toList) (enc := fun c => .str ⟨#[c]⟩) (ρ1 := [.val (.str x), .un]) (f := fun c => .bool (lowC c))]
  · simp_arith [allD_fun]
  · simp_arith [mItA, itemsD]
    rw [if_pos h]
    rfl
  · intro c hc
    refine ⟨[.val (.str x), .val (.str ⟨#[c]⟩)], rfl, rfl, .val (.bool (lowC c)), ?_, rfl⟩
    simp_arith [inA]
    rw [← let_mem]
    rfl
theorem name_letters {x : Str} (h : NameOk x) : callV 2 m_are_letters [.str x] = some (.val (.bool true)) := by
  rw [ev_are_letters x (by have := h.hi; omega)]
  congr 3
  exact List.all_eq_true.mpr h.low
theorem ev_is_name {x : Str} (h : NameOk x) : callV 1 m_is_name [.str x] = some (.val (.bool true)) := by
  unfold callV m_is_name
  have h1 : (1 : Int) ≤ (x.cps.size : Int) := by have := h.lo; omega
  have h2 : (x.cps.size : Int) ≤ 12 := by have := h.hi; omega
  simp_arith [name_letters h, lenD_str (show x.cps.size ≤ 4096 by have := h.hi; omega), decide_eq_true h1, decide_eq_true h2]

/-! ### people, sources -/
theorem lowS.ok {x : Str} (h : lowS x) : PyData.strOk x = true := by
  unfold PyData.strOk
  rw [← Array.all_toList, List.all_eq_true]
  intro c hc
  have := h c hc
  unfold lowC at this
  simp only [Bool.and_eq_true, decide_eq_true_eq] at this ⊢
  omega
abbrev Pr := Str × Str
def eP (p : Pr) : D := .tuple [.str p.1, .str p.2]
def PrOk (p : Pr) : Prop := NameOk p.1 ∧ NameOk p.2
structure Bk where
  ppl : List Pr
  yr : Int
  ttl : Str
deriving DecidableEq
def eS (s : Bk) : D := .tuple [.tuple (s.ppl.map eP), .int s.yr, .str s.ttl]
structure TitleOk (t : Str) : Prop where
  lo : 1 ≤ t.cps.size
  hi : t.cps.size ≤ 40
  ws : ∀ x ∈ Txt.split t " ", lowS x ∧ 1 ≤ x.cps.size ∧ x.cps.size ≤ 40
  ok : PyData.strOk t = true
structure BkOk (s : Bk) : Prop where
  ne : s.ppl ≠ []
  ppl : ∀ p ∈ s.ppl, PrOk p
  yr : 0 ≤ s.yr
  ttl : TitleOk s.ttl
theorem ev_is_person {p : Pr} (h : PrOk p) : callV 1 m_is_person [eP p] = some (.val (.bool true)) := by
  unfold callV m_is_person eP
  simp_arith [eq_int, ix0, ix1, ev_is_name h.1, ev_is_name h.2]
theorem ev_are_people {ps : List Pr} (hn : ps ≠ []) (h : ∀ p ∈ ps, PrOk p) : callV 2 m_are_people [.tuple (ps.map eP)] = some (.val (.bool true)) := by
  unfold callV m_are_people
  have ne : neD (.tuple (ps.map eP)) (.tuple []) = some (.val (.bool true)) := by
    unfold neD
    have o : okD (.tuple (ps.map eP)) = true := okD_of (n := 2) (Ok.tuple fun d hd => by
      obtain ⟨p, hp, rfl⟩ := List.mem_map.mp hd
      obtain ⟨h1, h2⟩ := h p hp
      exact Ok.tuple fun d hd => by
        simp only [List.mem_cons, List.not_mem_nil, or_false] at hd
        rcases hd with rfl | rfl
        · exact Ok.str h1.low.ok
        · exact Ok.str h2.low.ok)
    rw [o]
    cases ps with
    | nil => exact absurd rfl hn
    | cons p ps => rfl
  simp_arith [ne, show (0 : Nat) ≤ sizeLine from Nat.zero_le _]
  rw [lc_all (xs := ps) (enc := eP) (ρ1 := [.val (.tuple (ps.map eP)), .un]) (f := fun _ => .bool true)]
  · simp_arith [allD_fun]
    simp
  · simp_arith [mItA, itemsD]
  · intro p hp
    exact ⟨[.val (.tuple (ps.map eP)), .val (eP p)], rfl, rfl, .val (.bool true), by simp_arith [ev_is_person (h p hp)], rfl⟩
theorem ev_is_title {t : Str} (h : TitleOk t) : callV 2 m_is_title [.str t] = some (.val (.bool true)) := by
  unfold callV m_is_title
  have h1 : (1 : Int) ≤ (t.cps.size : Int) := by have := h.lo; omega
  have h2 : (t.cps.size : Int) ≤ 40 := by have := h.hi; omega
  simp_arith [lenD_str (show t.cps.size ≤ 4096 by have := h.hi; omega), decide_eq_true h1, decide_eq_true h2]
  rw [lc_all (xs := Txt.split t " ") (enc := .str) (ρ1 := [.val (.str t), .un]) (f := fun _ => .bool true)]
  · simp_arith [allD_fun]
    simp
  · have e : splitD (.str t) [.str " "] = some (.tmp (.lst ((Txt.split t " ").map .str))) := by
      unfold splitD
      dsimp only
      rw [if_pos ⟨by decide, by show t.cps.size + 2 ≤ sizeLine; rw [sizeLine_eq]; have := h.hi; omega⟩]
    simp_arith [mItA, mMeth, isTy, itemsD, e]
  · intro x hx
    obtain ⟨a, b, c⟩ := h.ws x hx
    have e1 : neD (.str x) (.str "") = some (.val (.bool true)) := by
      rw [ne_str a.ok (by decide +kernel), decide_eq_false]
      · rfl
      · rintro rfl
        exact absurd b (by decide)
    have e2 : callV 2 m_are_letters [.str x] = some (.val (.bool true)) := by
      rw [ev_are_letters x (by omega)]
      congr 3
      exact List.all_eq_true.mpr a
    exact ⟨[.val (.str t), .val (.str x)], rfl, rfl, .val (.bool true), by simp_arith [e1, e2], rfl⟩
theorem ev_is_source {s : Bk} (h : BkOk s) : callV 1 m_is_source [eS s] = some (.val (.bool true)) := by
  unfold callV m_is_source eS
  simp_arith [ne_int, ix0, ix1, ix2, ev_are_people h.ne h.ppl, ev_is_integer', decide_eq_true h.yr, ev_is_title h.ttl]
set_option Elab.async false
set_option linter.all false
set_option maxRecDepth 100000
set_option maxHeartbeats 2000000
open PySem PySem.Spec PyProof.Rows L2
/-! ### labels and what they fit -/
def ini (g : Str) : Str := (⟨#[g.cps.getD 0 0]⟩ : Str) ++ ("." : Str)
def partFits (part given : Str) : Bool := decide (part = "") || (decide (part = given) || decide (part = ini given))
def sok (x : Str) : Prop := PyData.strOk x = true
structure Lab where
  prs : List Pr
  more : Bool
  yr : Int
  ttl : Option Str
  lt : Str
deriving DecidableEq
def eO : Option Str → D
  | none => .none
  | some t => .str t
def eL (l : Lab) : D := .tuple [.tuple (l.prs.map eP), .bool l.more, .int l.yr, eO l.ttl, .str l.lt]
structure LabOk (l : Lab) : Prop where
  prs : ∀ p ∈ l.prs, sok p.1 ∧ sok p.2
  ttl : ∀ t, l.ttl = some t → sok t
def ttlFits (t : Option Str) (u : Str) : Bool := match t with
  | none => true
  | some t => decide (t = u)
def fits (l : Lab) (s : Bk) : Bool :=
  decide (l.yr = s.yr) && (ttlFits l.ttl s.ttl && (decide (l.prs.length ≤ s.ppl.length) && ((decide (l.prs.length < s.ppl.length) == l.more) && (l.prs.zip s.ppl).all fun q => decide (q.1.1 = q.2.1) && partFits q.1.2 q.2.2)))
theorem sok_append {x y : Str} (h1 : sok x) (h2 : sok y) : sok (x ++ y) := by
  unfold sok PyData.strOk at *
  have e : (x ++ y).cps = x.cps ++ y.cps := rfl
  rw [e, Array.all_append, h1, h2]
  rfl
theorem ix_str0 {g : Str} (h : NameOk g) : ixD (.str g) (.int 0) = some (.val (.str ⟨#[g.cps.getD 0 0]⟩)) := by
  unfold ixD
  dsimp only
  have hlo := h.lo
  have hhi := h.hi
  rw [if_pos (by show g.cps.size ≤ sizeLine; rw [sizeLine_eq]; omega), show (0 : Int) = ((0 : Nat) : Int) from rfl, atI_nat (x := g.cps.getD 0 0)]
  · rfl
  · rw [Array.getElem?_toList, Array.getElem?_eq_getElem (by omega), Array.getD_eq_getD_getElem?, Array.getElem?_eq_getElem (by omega)]
    rfl
theorem ini_sok {g : Str} (h : NameOk g) : sok (ini g) := by
  refine sok_append ?_ (show PyData.strOk "." = true by decide +kernel)
  have hlo := h.lo
  have m : g.cps.getD 0 0 ∈ g.cps.toList := by
    rw [Array.getD_eq_getD_getElem?, Array.getElem?_eq_getElem (by omega)]
    simp
  have := h.low _ m
  unfold lowC at this
  unfold sok PyData.strOk
  simp only [Bool.and_eq_true, decide_eq_true_eq] at this
  show (#[g.cps.getD 0 0].all fun c => decide (c < 0x110000)) = true
  generalize g.cps.getD 0 0 = c at this
  rw [← Array.all_toList]
  simp only [List.all_cons, List.all_nil, Bool.and_true, decide_eq_true_eq]
  omega
theorem add_str {a b : Str} (h : a.cps.size + b.cps.size ≤ 4096) : addD (.str a) (.str b) = some (.val (.str (a ++ b))) := by
  unfold addD
  dsimp only
  rw [if_pos (by show a.cps.size + b.cps.size ≤ sizeLine; rw [sizeLine_eq]; omega)]
theorem mem3 {p a b c : Str} (hp : sok p) (ha : sok a) (hb : sok b) (hc : sok c) : inA false (.str p) (.tuple [.str a, .str b, .str c]) = some (.val (.bool (decide (p = a) || (decide (p = b) || decide (p = c))))) := by
  unfold inA
  dsimp only
  rw [okD_of (n := 0) (Ok.str hp), okD_of (n := 1) (Ok.list fun d hd => by
    simp only [List.mem_cons, List.not_mem_nil, or_false] at hd
    rcases hd with rfl | rfl | rfl
    · exact Ok.str ha
    · exact Ok.str hb
    · exact Ok.str hc)]
  unfold memD
  simp only [List.any_cons, List.any_nil, Bool.or_false, PyData.eqv, Bool.and_self, if_true, Bool.false_eq_true, if_false]
  congr 3
  have e : ∀ x y : Str, (x == y) = decide (y = x) := fun x y => by
    rw [Bool.eq_iff_iff, beq_iff_eq, decide_eq_true_eq]
    exact eq_comm
  rw [e, e, e]
theorem ev_part_fits {p g : Str} (hp : sok p) (hg : NameOk g) : callV 2 m_part_fits [.str p, .str g] = some (.val (.bool (partFits p g))) := by
  unfold callV m_part_fits
  have e := add_str (a := ⟨#[g.cps.getD 0 0]⟩) (b := ".") (by
    have : (Str.ofString ".").cps.size = 1 := by decide +kernel
    rw [this]
    exact (by decide : 1 + 1 ≤ 4096))
  simp_arith [ix_str0 hg, e]
  have m := mem3 (p := p) (a := "") (b := g) (c := ini g) hp (by unfold sok; decide +kernel) hg.low.ok (ini_sok hg)
  unfold ini at m
  simp_arith [show (1 + 1 + 1 : Nat) ≤ sizeLine from by decide, m]
  rfl

theorem ttl_notin {o : Option Str} {t : Str} (ho : ∀ x, o = some x → sok x) (ht : sok t) : inA true (eO o) (.tuple [.none, .str t]) = some (.val (.bool (!ttlFits o t))) := by
  unfold inA
  have ok1 : okD (eO o) = true := by
    cases o with
    | none => rfl
    | some x => exact okD_of (n := 0) (Ok.str (ho x rfl))
  dsimp only
  rw [ok1, okD_of (n := 1) (Ok.list fun d hd => by
    simp only [List.mem_cons, List.not_mem_nil, or_false] at hd
    rcases hd with rfl | rfl
    · exact Ok.none
    · exact Ok.str ht)]
  unfold memD ttlFits
  cases o with
  | none => rfl
  | some x =>
    simp only [eO, List.any_cons, List.any_nil, Bool.or_false, PyData.eqv, Bool.and_self, if_true, Bool.false_or]
    congr 4
    rw [Bool.eq_iff_iff, beq_iff_eq, decide_eq_true_eq]
    exact eq_comm
theorem ixP0 {p : Pr} : ixD (eP p) (.int 0) = some (.val (.str p.1)) := ix0
theorem ixP1 {p : Pr} : ixD (eP p) (.int 1) = some (.val (.str p.2)) := ix1
theorem ev_fits_source {l : Lab} {s : Bk} (hl : LabOk l) (hs : BkOk s) : callV 9 m_fits_source [eL l, eS s] = some (.val (.bool (fits l s))) := by
  unfold callV m_fits_source eL eS
  have tn := ttl_notin hl.ttl hs.ttl.ok
  simp_arith [tn]
  unfold fits
  cases h1 : decide (l.yr = s.yr) with
  | false => simp_arith [tn]
  | true =>
    simp_arith [tn]
    cases h2 : ttlFits l.ttl s.ttl with
    | false => simp_arith [tn, h2]
    | true =>
      simp_arith []
      have c1 : decide (s.ppl.length < l.prs.length) = !decide (l.prs.length ≤ s.ppl.length) := by
        rw [Bool.eq_iff_iff]
        simp
      rw [c1]
      cases h3 : decide (l.prs.length ≤ s.ppl.length) with
      | false => simp_arith [tn, h2]
      | true =>
        simp_arith []
        cases h4 : decide (l.prs.length < s.ppl.length) == l.more with
        | false => simp_arith [tn, h2]
        | true =>
          simp_arith []
          generalize hρ : ([SV.val (PyData.tuple [PyData.tuple (List.map eP l.prs), PyData.bool l.more, PyData.int l.yr, eO l.ttl, PyData.str l.lt]), SV.val (PyData.tuple [PyData.tuple (List.map eP s.ppl), PyData.int s.yr, PyData.str s.ttl]),
            SV.val (PyData.tuple (List.map eP l.prs)), SV.val (PyData.bool l.more), SV.val (PyData.int l.yr), SV.val (eO l.ttl), SV.val (PyData.tuple (List.map eP s.ppl)), SV.un, SV.un] : Sl) = ρ
          have e := lc_all (vs := [7, 8]) (mi := mZip (mCons (mVar 2) (mCons (mVar 6) mNil))) (g := gTp 2 (gsCons (gNm 7) (gsCons (gNm 8) gsNil)))
            (e := mAndV (m2 eqD (m2 ixD (mVar 7) (mC (.int 0))) (m2 ixD (mVar 8) (mC (.int 0)))) (mFn' 2 2 m_part_fits [false, false] [] (mCons (m2 ixD (mVar 7) (mC (.int 1))) (mCons (m2 ixD (mVar 8) (mC (.int 1))) mNil))))
            (ρ := ρ) (ρ1 := ρ) (xs := l.prs.zip s.ppl) (enc := fun q => .tuple [eP q.1, eP q.2]) (by subst hρ; simp_arith [mZip, zipD_map]) (fun q => .bool (decide (q.1.1 = q.2.1) && partFits q.1.2 q.2.2)) (by
              intro q hq
              have o1 := hl.prs q.1 (List.of_mem_zip hq).1
              have o2 := hs.ppl q.2 (List.of_mem_zip hq).2
              subst hρ
              refine ⟨_, rfl, rfl, .val (.bool (decide (q.1.1 = q.2.1) && partFits q.1.2 q.2.2)), ?_, rfl⟩
              simp_arith [ixP0, ixP1, eq_str o1.1 o2.1.low.ok, ev_part_fits o1.2 o2.2]
              cases decide (q.1.1 = q.2.1) <;> simp_arith [ixP0, ixP1, ev_part_fits o1.2 o2.2])
          rw [e]
          subst hρ
          simp_arith [allD_fun]
set_option Elab.async false
set_option linter.all false
set_option maxRecDepth 100000
set_option maxHeartbeats 2000000
open PySem PySem.Spec PyProof.Rows L2
/-! ### styles -/
inductive Wd where
  | nm | al | fi | ii | fg | gv | tt
deriving DecidableEq
def Wd.s : Wd → Str
  | .nm => "names"
  | .al => "all"
  | .fi => "first initial"
  | .ii => "initials"
  | .fg => "first given"
  | .gv => "given"
  | .tt => "title"
theorem Wd.ok (a : Wd) : sok a.s := by cases a <;> (unfold sok; decide +kernel)
theorem Wd.inj (a b : Wd) : a.s = b.s ↔ a = b := by
  constructor
  · intro h
    cases a <;> cases b <;> first | rfl | exact absurd h (by decide +kernel)
  · rintro rfl; rfl
theorem eqW (a b : Wd) : eqD (.str a.s) (.str b.s) = some (.val (.bool (decide (a = b)))) := by
  rw [eq_str a.ok b.ok]
  congr 3
  rw [Bool.eq_iff_iff, decide_eq_true_eq, decide_eq_true_eq]
  exact Wd.inj a b
theorem eqW_nm (a : Wd) : eqD (.str a.s) (.str "names") = some (.val (.bool (decide (a = .nm)))) := eqW a .nm
theorem eqW_al (a : Wd) : eqD (.str a.s) (.str "all") = some (.val (.bool (decide (a = .al)))) := eqW a .al
theorem eqW_fi (a : Wd) : eqD (.str a.s) (.str "first initial") = some (.val (.bool (decide (a = .fi)))) := eqW a .fi
theorem eqW_ii (a : Wd) : eqD (.str a.s) (.str "initials") = some (.val (.bool (decide (a = .ii)))) := eqW a .ii
theorem eqW_fg (a : Wd) : eqD (.str a.s) (.str "first given") = some (.val (.bool (decide (a = .fg)))) := eqW a .fg
theorem eqW_gv (a : Wd) : eqD (.str a.s) (.str "given") = some (.val (.bool (decide (a = .gv)))) := eqW a .gv
theorem eqW_tt (a : Wd) : eqD (.str a.s) (.str "title") = some (.val (.bool (decide (a = .tt)))) := eqW a .tt
structure Sty where
  most : Nat
  kept : Nat
  steps : List Wd
def eW (a : Wd) : D := .str a.s
def eY (y : Sty) : D := .tuple [.int y.most, .int y.kept, .tuple (y.steps.map eW)]
structure StyOk (y : Sty) : Prop where
  lo : 1 ≤ y.kept
  hi : y.kept ≤ y.most
  nd : y.steps.Nodup
structure Stat where
  many : Nat
  first : Nat
  rest : Nat
  ttl : Bool
deriving DecidableEq
def eT (t : Stat) : D := .tuple [.int t.many, .int t.first, .int t.rest, .bool t.ttl]
def firstState (y : Sty) (people : Nat) : Stat := ⟨if people ≤ y.most then people else y.kept, 0, 0, false⟩
def nxtS (t : Stat) (a : Wd) (people : Nat) : List Stat := match a with
  | .nm => (List.range (people - t.many)).map fun i => { t with many := t.many + 1 + i }
  | .al => [{ t with many := people }]
  | .tt => [{ t with ttl := true }]
  | .fi => [{ t with first := max t.first 1 }]
  | .ii => [{ t with first := max t.first 1, rest := max t.rest 1 }]
  | .fg => [{ t with first := 2 }]
  | .gv => [{ t with first := 2, rest := 2 }]
theorem ev_first_state (y : Sty) (people : Nat) : callV 3 m_first_state [.int y.most, .int y.kept, .int people] = some (.val (eT (firstState y people))) := by
  unfold callV m_first_state firstState eT
  simp_arith []
  by_cases h : people ≤ y.most
  · simp_arith [h]
  · simp_arith [h]
theorem max_nat {a b : Nat} : maxD [.int a, .int b] = some (.val (.int ((max a b : Nat) : Int))) := by
  unfold maxD
  dsimp only
  congr 3
  split <;> omega
theorem max_one {a : Nat} : maxD [.int a, .int 1] = some (.val (.int ((max a 1 : Nat) : Int))) := max_nat (b := 1)
theorem ev_sb_al (t : Stat) (people : Nat) : callV 8 m_states_behind [eT t, .str Wd.al.s, .int people] = some (.tmp (.lst ((nxtS t .al people).map eT))) := by
  simp only [callV, m_states_behind, eT]
  simp_arith [eqW_nm, eqW_al, reduceCtorEq]
  rfl
theorem ev_sb_tt (t : Stat) (people : Nat) : callV 8 m_states_behind [eT t, .str Wd.tt.s, .int people] = some (.tmp (.lst ((nxtS t .tt people).map eT))) := by
  simp only [callV, m_states_behind, eT]
  simp_arith [eqW_nm, eqW_al, eqW_tt, reduceCtorEq]
  rfl
theorem ev_sb_fi (t : Stat) (people : Nat) : callV 8 m_states_behind [eT t, .str Wd.fi.s, .int people] = some (.tmp (.lst ((nxtS t .fi people).map eT))) := by
  simp only [callV, m_states_behind, eT]
  simp_arith [eqW_nm, eqW_al, eqW_tt, eqW_fi, max_one, reduceCtorEq]
  rfl
theorem ev_sb_ii (t : Stat) (people : Nat) : callV 8 m_states_behind [eT t, .str Wd.ii.s, .int people] = some (.tmp (.lst ((nxtS t .ii people).map eT))) := by
  simp only [callV, m_states_behind, eT]
  simp_arith [eqW_nm, eqW_al, eqW_tt, eqW_fi, eqW_ii, max_one, reduceCtorEq]
  rfl
theorem ev_sb_fg (t : Stat) (people : Nat) : callV 8 m_states_behind [eT t, .str Wd.fg.s, .int people] = some (.tmp (.lst ((nxtS t .fg people).map eT))) := by
  simp only [callV, m_states_behind, eT]
  simp_arith [eqW_nm, eqW_al, eqW_tt, eqW_fi, eqW_ii, eqW_fg, reduceCtorEq]
  rfl
theorem ev_sb_gv (t : Stat) (people : Nat) : callV 8 m_states_behind [eT t, .str Wd.gv.s, .int people] = some (.tmp (.lst ((nxtS t .gv people).map eT))) := by
  simp only [callV, m_states_behind, eT]
  simp_arith [eqW_nm, eqW_al, eqW_tt, eqW_fi, eqW_ii, eqW_fg, reduceCtorEq]
  rfl
theorem ev_sb_nm (t : Stat) (people : Nat) (hm : t.many ≤ 4000) (hp : people ≤ 4000) : callV 8 m_states_behind [eT t, .str Wd.nm.s, .int people] = some (.tmp (.lst ((nxtS t .nm people).map eT))) := by
  simp only [callV, m_states_behind, eT]
  simp_arith [eqW_nm]
  generalize hρ : ([.val (.tuple [.int t.many, .int t.first, .int t.rest, .bool t.ttl]), .val (.str Wd.nm.s), .val (.int people), .val (.int t.many), .val (.int t.first), .val (.int t.rest), .val (.bool t.ttl), .un] : Sl) = ρ
  have hr := rng2_ok (bd := true) (ma := mCons (m2 addD (mVar 3) (mC (.int 1))) (mCons (m2 addD (mVar 2) (mC (.int 1))) mNil)) (ρ := ρ) (ρ1 := ρ) (lo := (t.many : Int) + 1) (hi := (people : Int) + 1) (by subst hρ; simp_arith []) (by omega) (by omega) (by omega) (by omega)
  have e0 : (((people : Int) + 1) - ((t.many : Int) + 1)).toNat = people - t.many := by omega
  rw [e0, rangeD_map] at hr
  have hl := lc_all (vs := [7]) (g := gNm 7) (e := mTup (mCons (mVar 7) (mCons (mVar 4) (mCons (mVar 5) (mCons (mVar 6) mNil))))) hr (fun (i : Nat) => .tuple [.int ((t.many : Int) + 1 + i), .int t.first, .int t.rest, .bool t.ttl]) (by
    intro i _
    subst hρ
    refine ⟨_, rfl, rfl, .val (.tuple [.int ((t.many : Int) + 1 + i), .int t.first, .int t.rest, .bool t.ttl]), ?_, rfl⟩
    simp_arith [])
  rw [hl]
  subst hρ
  simp_arith []
  unfold nxtS
  simp only [List.map_map]
  rfl
theorem ev_states_behind (t : Stat) (a : Wd) (people : Nat) (hm : t.many ≤ 4000) (hp : people ≤ 4000) : callV 8 m_states_behind [eT t, .str a.s, .int people] = some (.tmp (.lst ((nxtS t a people).map eT))) := by
  cases a with
  | nm => exact ev_sb_nm t people hm hp
  | al => exact ev_sb_al t people
  | fi => exact ev_sb_fi t people
  | ii => exact ev_sb_ii t people
  | fg => exact ev_sb_fg t people
  | gv => exact ev_sb_gv t people
  | tt => exact ev_sb_tt t people
set_option Elab.async false
set_option linter.all false
set_option maxRecDepth 100000
set_option maxHeartbeats 2000000
open PySem PySem.Spec PyProof.Rows L2
def shownS (t : Stat) : Stat := { t with rest := if 1 < t.many then t.rest else 0 }
theorem ev_shown_state (t : Stat) : callV 5 m_shown_state [eT t] = some (.val (eT (shownS t))) := by
  unfold callV m_shown_state eT shownS
  simp_arith []
  have e : decide ((1 : Int) < (t.many : Int)) = decide (1 < t.many) := by
    rw [Bool.eq_iff_iff]; simp; omega
  by_cases h : 1 < t.many
  · have h' : decide ((1 : Int) < (t.many : Int)) = true := by rw [e]; exact decide_eq_true h
    simp_arith [h', if_pos h]
  · have h' : decide ((1 : Int) < (t.many : Int)) = false := by rw [e]; exact decide_eq_false h
    simp_arith [h', if_neg h]
def partBy (g : Str) (lvl : Nat) : Str := match lvl with
  | 0 => ""
  | 1 => ini g
  | _ => g
theorem ev_part_by {g : Str} {lvl : Nat} (hg : NameOk g) (hl : lvl ≤ 2) : callV 2 m_part_by [.str g, .int lvl] = some (.val (.str (partBy g lvl))) := by
  unfold callV m_part_by
  have e := add_str (a := ⟨#[g.cps.getD 0 0]⟩) (b := ".") (by
    have : (Str.ofString ".").cps.size = 1 := by decide +kernel
    rw [this]
    exact (by decide : 1 + 1 ≤ 4096))
  simp_arith [ix_str0 hg, e]
  have h3 : lvl = 0 ∨ lvl = 1 ∨ lvl = 2 := by omega
  rcases h3 with rfl | rfl | rfl
  · rfl
  · rfl
  · rfl
def labPairs (s : Bk) (t : Stat) : List Pr := (s.ppl.zipIdx.map fun q => (q.1.1, partBy q.1.2 (if 0 < q.2 then t.rest else t.first))).take t.many
def labelBy (s : Bk) (t : Stat) : Lab := ⟨labPairs s t, decide (t.many < s.ppl.length), s.yr, if t.ttl = true then some s.ttl else none, ""⟩
theorem take_cut (xs : List D) (n : Nat) : cutD xs none (some (n : Int)) = xs.take n := by
  unfold cutD
  have h0 : HT.sIx xs.length 0 none = 0 := rfl
  have h1 : HT.sIx xs.length xs.length (some (n : Int)) = min n xs.length := HT.sIx_nat _ _ _
  rw [h0, h1, List.drop_zero, Nat.sub_zero]
  rcases Nat.le_total n xs.length with h | h
  · rw [Nat.min_eq_left h]
  · rw [Nat.min_eq_right h, List.take_of_length_le (Nat.le_refl _), List.take_of_length_le h]
theorem enumD_map {α : Type} (f : α → D) (xs : List α) : enumD (xs.map f) = xs.zipIdx.map fun q => .tuple [.int (q.2 : Nat), f q.1] := by
  unfold enumD
  rw [List.zipIdx_map, List.map_map]
  rfl
theorem tup_list (ds : List D) : tupD1 [.list ds] = some (.val (.tuple ds)) := rfl
theorem ev_label_by {s : Bk} {t : Stat} (hs : BkOk s) (h1 : t.first ≤ 2) (h2 : t.rest ≤ 2) : callV 13 m_label_by [eS s, eT t] = some (.val (eL (labelBy s t))) := by
  unfold callV m_label_by eS eT
  simp_arith []
  generalize hρ : ([.val (.tuple [.tuple (s.ppl.map eP), .int s.yr, .str s.ttl]), .val (.tuple [.int t.many, .int t.first, .int t.rest, .bool t.ttl]), .val (.tuple (s.ppl.map eP)), .val (.int s.yr), .val (.str s.ttl), .val (.int t.many), .val (.int t.first), .val (.int t.rest), .val (.bool t.ttl), .un, .un, .un, .un] : Sl) = ρ
  have hl := lc_all (vs := [10, 11, 12]) (mi := mEnum (mCons (mVar 2) mNil)) (g := gTp 2 (gsCons (gNm 10) (gsCons (gTp 2 (gsCons (gNm 11) (gsCons (gNm 12) gsNil))) gsNil)))
    (e := mTup (mCons (mVar 11) (mCons (mFn' 2 2 m_part_by [false, false] [] (mCons (mVar 12) (mCons (mIfE (mB (m2 gtD (mVar 10) (mC (.int 0)))) (mVar 7) (mVar 6)) mNil))) mNil)))
    (ρ := ρ) (ρ1 := ρ) (xs := s.ppl.zipIdx) (enc := fun q => .tuple [.int (q.2 : Nat), eP q.1]) (by subst hρ; simp_arith [mEnum, enumD_map]) (fun q => eP (q.1.1, partBy q.1.2 (if 0 < q.2 then t.rest else t.first))) (by
      intro q hq
      have hp := hs.ppl q.1 (by
        have := List.mem_zipIdx hq
        rw [this.2.2]
        exact List.getElem_mem _)
      subst hρ
      refine ⟨_, rfl, rfl, .val (eP (q.1.1, partBy q.1.2 (if 0 < q.2 then t.rest else t.first))), ?_, rfl⟩
      by_cases h : 0 < q.2
      · have h' : decide ((0 : Int) < ((q.2 : Nat) : Int)) = true := decide_eq_true (by omega)
        rw [if_pos h]
        simp_arith [h', ev_part_by hp.2 h2]
        rfl
      · have h' : decide ((0 : Int) < ((q.2 : Nat) : Int)) = false := decide_eq_false (by omega)
        rw [if_neg h]
        simp_arith [h', ev_part_by hp.2 h1]
        rfl)
  rw [hl]
  subst hρ
  simp_arith [slD, take_cut, tup_list]
  unfold labelBy labPairs eL
  cases t.ttl with
  | true =>
    simp_arith [eO]
    simp only [List.map_take, List.map_map]
    rfl
  | false =>
    simp_arith [eO]
    simp only [List.map_take, List.map_map]
    rfl
set_option Elab.async false
set_option linter.all false
set_option maxRecDepth 100000
set_option maxHeartbeats 2000000
open PySem PySem.Spec PyProof.Rows L2
def statesFrom (t : Stat) : List Wd → Nat → List Stat
  | [], _ => []
  | a :: ws, people => nxtS t a people ++ statesFrom ((nxtS t a people).getLastD t) ws people
def statesOf (y : Sty) (people : Nat) : List Stat := firstState y people :: statesFrom (firstState y people) y.steps people
theorem ix_last {ds : List D} {d : D} : ixD (.list (ds ++ [d])) (.int (-1)) = some (.val d) := by
  show (atI (ds ++ [d]) (-1)).map _ = _
  unfold atI ixN
  rw [if_neg (by omega), if_pos (by rw [List.length_append, List.length_singleton]; omega)]
  have e : ((-1 : Int) + ((ds ++ [d]).length : Nat)).toNat = ds.length := by rw [List.length_append, List.length_singleton]; omega
  simp only [Option.bind_some, e]
  rw [List.getElem?_append_right (Nat.le_refl _)]
  simp
theorem nxtS_many {t : Stat} {a : Wd} {people : Nat} (hm : t.many ≤ 100) (hp : people ≤ 100) : (∀ u ∈ nxtS t a people, u.many ≤ 100) ∧ (nxtS t a people).length ≤ 101 := by
  cases a <;> simp only [nxtS, List.mem_singleton, List.length_singleton, List.mem_map, List.mem_range, List.length_map, List.length_range] <;> refine ⟨?_, by omega⟩
  · rintro u ⟨i, hi, rfl⟩
    show t.many + 1 + i ≤ 100
    omega
  all_goals (rintro u rfl; first | exact hm | exact hp)
theorem getLastD_eq {α : Type} (n : List α) (t : α) (h : n ≠ []) : n.getLastD t = n.getLast h := by
  have e : n = n.dropLast ++ [n.getLast h] := (List.dropLast_concat_getLast h).symm
  generalize n.getLast h = x at e
  rw [e]
  simp
theorem last_split {l : List Stat} {t : Stat} : ∀ (n : List Stat), ∃ l', l ++ [t] ++ n = l' ++ [n.getLastD t]
  | [] => ⟨l, by simp⟩
  | a :: n => by
    have h : a :: n ≠ [] := by simp
    refine ⟨l ++ [t] ++ (a :: n).dropLast, ?_⟩
    rw [getLastD_eq _ t h, List.append_assoc (l ++ [t]), List.dropLast_concat_getLast h]
theorem getLastD_mem {n : List Stat} {t : Stat} : n.getLastD t = t ∨ n.getLastD t ∈ n := by
  cases n with
  | nil => exact .inl rfl
  | cons a n =>
    right
    rw [getLastD_eq _ t (by simp)]
    exact List.getLast_mem _
theorem ext_ok {ds es : List D} (h : ds.length + es.length ≤ 4096) : extD ds [.list es] = some (.none, ds ++ es) := by
  unfold extD
  dsimp only
  rw [if_pos (by rw [sizeLine_eq]; omega)]
theorem ev_states_of {y : Sty} {people : Nat} (hy : StyOk y) (hk : y.kept ≤ 100) (hn : y.steps.length ≤ 7) (hp : people ≤ 100) : callV 7 m_states_of [eY y, .int people] = some (.tmp (.lst ((statesOf y people).map eT))) := by
  unfold callV m_states_of eY
  simp_arith [ev_first_state]
  have loop : ∀ (ws : List Wd) (l : List Stat) (t : Stat) (s6 : SV), t.many ≤ 100 → (l ++ [t]).length + ws.length * 101 ≤ 2000 →
      ∃ s6', forL (gNm 6) (mDrop (mOwnL 5 extD (mCons (mFn' 3 8 m_states_behind [false, false, false] [] (mCons (m2 ixD (mVar 5) (m1 negD (mC (.int 1)))) (mCons (mVar 6) (mCons (mVar 1) mNil)))) mNil))) (ws.map eW)
        [.val (eY y), .val (.int people), .val (.int y.most), .val (.int y.kept), .val (.tuple (y.steps.map eW)), .own none (.lst ((l ++ [t]).map eT)), s6]
      = some (.nx [.val (eY y), .val (.int people), .val (.int y.most), .val (.int y.kept), .val (.tuple (y.steps.map eW)), .own none (.lst ((l ++ [t] ++ statesFrom t ws people).map eT)), s6']) := by
    intro ws
    induction ws with
    | nil => intro l t s6 _ _; exact ⟨s6, by simp [forL, statesFrom]⟩
    | cons a ws ih =>
      intro l t s6 hm hl
      obtain ⟨hm2, hl2⟩ := nxtS_many (t := t) (a := a) hm hp
      rw [List.map_cons]
      unfold forL
      have st : (mDrop (mOwnL 5 extD (mCons (mFn' 3 8 m_states_behind [false, false, false] [] (mCons (m2 ixD (mVar 5) (m1 negD (mC (.int 1)))) (mCons (mVar 6) (mCons (mVar 1) mNil)))) mNil)))
          [.val (eY y), .val (.int people), .val (.int y.most), .val (.int y.kept), .val (.tuple (y.steps.map eW)), .own none (.lst ((l ++ [t]).map eT)), .val (eW a)]
          = some (.nx [.val (eY y), .val (.int people), .val (.int y.most), .val (.int y.kept), .val (.tuple (y.steps.map eW)), .own none (.lst ((l ++ [t] ++ nxtS t a people).map eT)), .val (eW a)]) := by
        have il : ixD (.list ((l ++ [t]).map eT)) (.int (-1)) = some (.val (eT t)) := by
          rw [List.map_append]
          exact ix_last
        have sb := ev_states_behind t a people (by omega) (by omega)
        have ex := ext_ok (ds := (l ++ [t]).map eT) (es := (nxtS t a people).map eT) (by rw [List.length_map, List.length_map, List.length_append, List.length_singleton]; simp at hl; omega)
        unfold eW
        simp_arith [mOwnL, il, sb, ex, ← List.map_append]
      obtain ⟨l', el⟩ := last_split (l := l) (t := t) (nxtS t a people)
      have hm3 : ((nxtS t a people).getLastD t).many ≤ 100 := by
        rcases getLastD_mem (n := nxtS t a people) (t := t) with e | e
        · rw [e]; exact hm
        · exact hm2 _ e
      obtain ⟨s6', e⟩ := ih l' ((nxtS t a people).getLastD t) (.val (eW a)) hm3 (by
        rw [← el]
        simp at hl ⊢
        omega)
      refine ⟨s6', ?_⟩
      rw [← el] at e
      show (match (mDrop (mOwnL 5 extD (mCons (mFn' 3 8 m_states_behind [false, false, false] [] (mCons (m2 ixD (mVar 5) (m1 negD (mC (.int 1)))) (mCons (mVar 6) (mCons (mVar 1) mNil)))) mNil)))
          [.val (eY y), .val (.int people), .val (.int y.most), .val (.int y.kept), .val (.tuple (y.steps.map eW)), .own none (.lst ((l ++ [t]).map eT)), .val (eW a)] with
        | none => none
        | some (.nx ρ2) => forL (gNm 6) (mDrop (mOwnL 5 extD (mCons (mFn' 3 8 m_states_behind [false, false, false] [] (mCons (m2 ixD (mVar 5) (m1 negD (mC (.int 1)))) (mCons (mVar 6) (mCons (mVar 1) mNil)))) mNil))) (ws.map eW) ρ2
        | some (.ct ρ2) => forL (gNm 6) (mDrop (mOwnL 5 extD (mCons (mFn' 3 8 m_states_behind [false, false, false] [] (mCons (m2 ixD (mVar 5) (m1 negD (mC (.int 1)))) (mCons (mVar 6) (mCons (mVar 1) mNil)))) mNil))) (ws.map eW) ρ2
        | some (.bk ρ2) => some (.nx ρ2)
        | some (.rt r ρ2) => some (.rt r ρ2)) = _
      rw [st]
      dsimp only
      rw [e]
      simp only [statesFrom, List.append_assoc]
  have hf : (firstState y people).many ≤ 100 := by
    unfold firstState
    dsimp only
    split <;> omega
  obtain ⟨s6', e⟩ := loop y.steps [] (firstState y people) .un hf (by simp; omega)
  unfold eY at e
  simp only [List.nil_append, List.map_cons, List.map_nil] at e
  simp_arith [mFor, mItA, itemsD, e]
  rfl
set_option Elab.async false
set_option linter.all false
set_option maxRecDepth 100000
set_option maxHeartbeats 2000000
open PySem PySem.Spec PyProof.Rows L2
/-- behind the others, unless it is the last one -/
def pushN {α : Type} [DecidableEq α] (acc : List α) (x : α) : List α := if acc.getLast? = some x then acc else acc ++ [x]
def noRep {α : Type} [DecidableEq α] (xs : List α) : List α := xs.foldl pushN []
def seenOf (y : Sty) (people : Nat) : List Stat := noRep ((statesOf y people).map shownS)
theorem okT (t : Stat) : Ok 1 (eT t) := Ok.tuple fun d hd => by
  simp only [List.mem_cons, List.not_mem_nil, or_false] at hd
  rcases hd with rfl | rfl | rfl | rfl
  · exact Ok.int
  · exact Ok.int
  · exact Ok.int
  · exact Ok.bool
theorem eqvT (a b : Stat) : PyData.eqv (eT a) (eT b) = decide (a = b) := by
  obtain ⟨a1, a2, a3, a4⟩ := a
  obtain ⟨b1, b2, b3, b4⟩ := b
  unfold eT
  simp only [PyData.eqv, PyData.eqvAll, Bool.and_true, Stat.mk.injEq]
  rw [Bool.eq_iff_iff]
  simp only [Bool.and_eq_true, beq_iff_eq, decide_eq_true_eq, Int.natCast_inj]
theorem neT (a b : Stat) : neD (eT a) (eT b) = some (.val (.bool (!decide (a = b)))) := by
  unfold neD
  rw [okD_of (okT a), okD_of (okT b), eqvT]
  rfl
theorem eq_nil {n : Nat} {ds : List D} (h : ∀ d ∈ ds, Ok n d) (hn : n + 1 ≤ 64) : eqD (.list ds) (.list []) = some (.val (.bool ds.isEmpty)) := by
  unfold eqD
  rw [okD_of (Ok.list h) hn, okD_of (n := 1) (Ok.list (n := 0) (ds := []) fun d h => by cases h)]
  cases ds <;> rfl
theorem app_ok {ds : List D} {d : D} (h : ds.length ≤ 4096) : appD ds [d] = some (.none, ds ++ [d]) := by
  unfold appD
  dsimp only
  rw [if_pos (by rw [sizeLine_eq]; omega)]
theorem pushN_len {α : Type} [DecidableEq α] (acc : List α) (x : α) : (pushN acc x).length ≤ acc.length + 1 := by
  unfold pushN
  split
  · omega
  · simp
theorem statesFrom_len : ∀ (ws : List Wd) (t : Stat) (people : Nat), t.many ≤ 100 → people ≤ 100 → (statesFrom t ws people).length ≤ ws.length * 101 ∧ ∀ u ∈ statesFrom t ws people, u.many ≤ 100
  | [], _, _, _, _ => ⟨Nat.zero_le _, fun _ h => nomatch h⟩
  | a :: ws, t, people, hm, hp => by
    obtain ⟨h1, h2⟩ := nxtS_many (t := t) (a := a) hm hp
    have hm3 : ((nxtS t a people).getLastD t).many ≤ 100 := by
      rcases getLastD_mem (n := nxtS t a people) (t := t) with e | e
      · rw [e]; exact hm
      · exact h1 _ e
    obtain ⟨h3, h4⟩ := statesFrom_len ws _ people hm3 hp
    unfold statesFrom
    refine ⟨by rw [List.length_append, List.length_cons]; omega, fun u hu => ?_⟩
    rcases List.mem_append.mp hu with q | q
    · exact h1 u q
    · exact h4 u q
theorem ev_seen_states {y : Sty} {people : Nat} (hy : StyOk y) (hk : y.kept ≤ 100) (hn : y.steps.length ≤ 7) (hp : people ≤ 100) : callV 5 m_seen_states [eY y, .int people] = some (.tmp (.lst ((seenOf y people).map eT))) := by
  have lenS : (statesOf y people).length ≤ 708 := by
    have hf : (firstState y people).many ≤ 100 := by
      unfold firstState
      dsimp only
      split <;> omega
    have := (statesFrom_len y.steps _ people hf hp).1
    unfold statesOf
    rw [List.length_cons]
    omega
  have body : ∀ (acc : List Stat) (t : Stat) (s4 : SV), acc.length ≤ 4000 → (mSeq (mSet 4 (mFn' 1 5 m_shown_state [false] [] (mCons (mVar 3) mNil))) (mIf (mTOr (mB (m2 eqD (mVar 2) (mLst mNil))) (mB (m2 neD (m2 ixD (mVar 2) (m1 negD (mC (.int 1)))) (mVar 4)))) (mDrop (mOwnL 2 appD (mCons (mVar 4) mNil))) mNext))
        [.val (eY y), .val (.int people), .own none (.lst (acc.map eT)), .val (eT t), s4]
      = some (.nx [.val (eY y), .val (.int people), .own none (.lst ((pushN acc (shownS t)).map eT)), .val (eT t), .val (eT (shownS t))]) := by
    intro acc t s4 hl
    have en := eq_nil (ds := acc.map eT) (n := 1) (fun d hd => by obtain ⟨u, _, rfl⟩ := List.mem_map.mp hd; exact okT u) (by decide)
    have ap := app_ok (ds := acc.map eT) (d := eT (shownS t)) (by rw [List.length_map]; omega)
    have ss := ev_shown_state t
    rcases List.eq_nil_or_concat acc with rfl | ⟨l, u, rfl⟩
    · simp only [List.map_nil] at en ap ⊢
      simp_arith [ss, en, List.isEmpty_nil, mOwnL, ap]
      rfl
    · rw [List.concat_eq_append] at hl en ap ⊢
      have il : ixD (.list ((l ++ [u]).map eT)) (.int (-1)) = some (.val (eT u)) := by
        rw [List.map_append]
        exact ix_last
      have ne : ((l ++ [u]).map eT).isEmpty = false := by
        rw [List.isEmpty_eq_false_iff]
        simp
      rw [ne] at en
      have gl : (l ++ [u]).getLast? = some u := by simp
      unfold pushN
      rw [gl]
      by_cases e : u = shownS t
      · rw [if_pos (by rw [e])]
        have e' : decide (u = shownS t) = true := decide_eq_true e
        generalize hA : (l ++ [u]).map eT = A at *
        simp_arith [ss, en, il, neT, e']
      · rw [if_neg (fun z => e (Option.some.inj z))]
        have e' : decide (u = shownS t) = false := decide_eq_false e
        have e2 : ((l ++ [u]) ++ [shownS t]).map eT = (l ++ [u]).map eT ++ [eT (shownS t)] := by simp
        rw [e2]
        generalize hA : (l ++ [u]).map eT = A at *
        simp_arith [ss, en, il, neT, e', mOwnL, ap]
  unfold callV m_seen_states
  simp_arith []
  obtain ⟨ρF, e1, e2⟩ := for_inv (mi := mItA (mFn' 2 7 m_states_of [false, false] [] (mCons (mVar 0) (mCons (mVar 1) mNil)))) (g := gNm 3)
    (b := mSeq (mSet 4 (mFn' 1 5 m_shown_state [false] [] (mCons (mVar 3) mNil))) (mIf (mTOr (mB (m2 eqD (mVar 2) (mLst mNil))) (mB (m2 neD (m2 ixD (mVar 2) (m1 negD (mC (.int 1)))) (mVar 4)))) (mDrop (mOwnL 2 appD (mCons (mVar 4) mNil))) mNext))
    (enc := eT) (xs := statesOf y people) (ρ := [.val (eY y), .val (.int people), .own none (.lst []), .un, .un]) (ρ1 := [.val (eY y), .val (.int people), .own none (.lst []), .un, .un])
    (by simp_arith [mItA, ev_states_of hy hk hn hp, itemsD])
    (fun j ρ => ∃ s3 s4, ρ = [.val (eY y), .val (.int people), .own none (.lst (((((statesOf y people).take j).map shownS).foldl pushN []).map eT)), s3, s4] ∧ ((((statesOf y people).take j).map shownS).foldl pushN []).length ≤ j)
    ⟨.un, .un, rfl, Nat.le_refl _⟩ (fun j t ρ' ht hI => by
      obtain ⟨s3, s4, rfl, hl⟩ := hI
      have hj := (List.getElem?_eq_some_iff.mp ht).1
      refine ⟨_, _, rfl, .inl (body _ t s4 (by omega)), .val (eT t), .val (eT (shownS t)), ?_, ?_⟩
      · rw [List.take_add_one, ht, List.map_append, List.foldl_append]
        rfl
      · rw [List.take_add_one, ht, List.map_append, List.foldl_append]
        have := pushN_len ((((statesOf y people).take j).map shownS).foldl pushN []) (shownS t)
        show (pushN _ _).length ≤ j + 1
        omega)
  obtain ⟨s3, s4, rfl, _⟩ := e2
  rw [List.take_length] at e1
  simp_arith [e1]
  rfl
set_option Elab.async false
set_option linter.all false
set_option maxRecDepth 100000
set_option maxHeartbeats 2000000
open PySem PySem.Spec PyProof.Rows L2
theorem foldl_push_sub {α : Type} [DecidableEq α] : ∀ (xs acc : List α) (x : α), x ∈ xs.foldl pushN acc → x ∈ acc ∨ x ∈ xs
  | [], _, _, h => .inl h
  | y :: xs, acc, x, h => by
    rw [List.foldl_cons] at h
    rcases foldl_push_sub xs _ x h with q | q
    · unfold pushN at q
      split at q
      · exact .inl q
      · rcases List.mem_append.mp q with q | q
        · exact .inl q
        · exact .inr (by rw [List.mem_singleton.mp q]; exact List.mem_cons_self)
    · exact .inr (List.mem_cons_of_mem _ q)
theorem noRep_sub {α : Type} [DecidableEq α] {xs : List α} {x : α} (h : x ∈ noRep xs) : x ∈ xs := (foldl_push_sub xs [] x h).elim (fun q => nomatch q) id
def Lvl (t : Stat) : Prop := t.first ≤ 2 ∧ t.rest ≤ 2
theorem nxtS_lvl {t : Stat} {a : Wd} {people : Nat} (h : Lvl t) : ∀ u ∈ nxtS t a people, Lvl u := by
  obtain ⟨h1, h2⟩ := h
  cases a <;> simp only [nxtS, List.mem_singleton, List.mem_map, List.mem_range]
  · rintro u ⟨i, hi, rfl⟩
    exact ⟨h1, h2⟩
  all_goals (rintro u rfl; simp only [Lvl]; omega)
theorem statesFrom_lvl : ∀ (ws : List Wd) (t : Stat) (people : Nat), Lvl t → ∀ u ∈ statesFrom t ws people, Lvl u
  | [], _, _, _, u, h => nomatch h
  | a :: ws, t, people, hl, u, hu => by
    unfold statesFrom at hu
    have hl3 : Lvl ((nxtS t a people).getLastD t) := by
      rcases getLastD_mem (n := nxtS t a people) (t := t) with e | e
      · rw [e]; exact hl
      · exact nxtS_lvl hl _ e
    rcases List.mem_append.mp hu with q | q
    · exact nxtS_lvl hl u q
    · exact statesFrom_lvl ws _ people hl3 u q
theorem statesOf_lvl (y : Sty) (people : Nat) : ∀ u ∈ statesOf y people, Lvl u := fun u hu => by
  have h0 : Lvl (firstState y people) := ⟨Nat.zero_le _, Nat.zero_le _⟩
  unfold statesOf at hu
  rcases List.mem_cons.mp hu with q | q
  · rw [q]; exact h0
  · exact statesFrom_lvl _ _ _ h0 u q
theorem shownS_lvl {t : Stat} (h : Lvl t) : Lvl (shownS t) := by
  refine ⟨h.1, ?_⟩
  unfold shownS
  dsimp only
  split
  · exact h.2
  · omega
theorem seenOf_lvl {y : Sty} {people : Nat} {u : Stat} (h : u ∈ seenOf y people) : Lvl u := by
  obtain ⟨t, ht, rfl⟩ := List.mem_map.mp (noRep_sub h)
  exact shownS_lvl (statesOf_lvl y people t ht)
def pathOf (y : Sty) (s : Bk) : List Lab := (seenOf y s.ppl.length).map (labelBy s)
structure SmallY (y : Sty) : Prop where
  ok : StyOk y
  kept : y.kept ≤ 100
  st : y.steps.length ≤ 7
theorem ev_path_of {y : Sty} {s : Bk} (hy : SmallY y) (hs : BkOk s) (hp : s.ppl.length ≤ 100) : callV 3 m_path_of [eY y, eS s] = some (.tmp (.lst ((pathOf y s).map eL))) := by
  unfold callV m_path_of
  simp_arith []
  have i0 : ixD (eS s) (.int 0) = some (.val (.tuple (s.ppl.map eP))) := ix0
  have ss := ev_seen_states (people := s.ppl.length) hy.ok hy.kept hy.st hp
  rw [lc_all (xs := seenOf y s.ppl.length) (enc := eT) (ρ1 := [.val (eY y), .val (eS s), .un]) (f := fun t => eL (labelBy s t))]
  · simp_arith []
    unfold pathOf
    rw [List.map_map]
    rfl
  · simp_arith [i0, mItA, itemsD, ss]
  · intro t ht
    have hl := seenOf_lvl ht
    exact ⟨_, rfl, rfl, .val (eL (labelBy s t)), by simp_arith [ev_label_by hs hl.1 hl.2], rfl⟩
theorem partBy_sok {g : Str} {n : Nat} (h : NameOk g) : sok (partBy g n) := by
  unfold partBy
  split
  · unfold sok; decide +kernel
  · exact ini_sok h
  · exact h.low.ok
theorem labelBy_ok {s : Bk} {t : Stat} (hs : BkOk s) : LabOk (labelBy s t) where
  prs := fun p hp => by
    have hp2 : p ∈ labPairs s t := hp
    unfold labPairs at hp2
    obtain ⟨q, hq, rfl⟩ := List.mem_map.mp (List.mem_of_mem_take hp2)
    have := List.mem_zipIdx hq
    have ho := hs.ppl q.1 (by rw [this.2.2]; exact List.getElem_mem _)
    exact ⟨ho.1.low.ok, partBy_sok ho.2⟩
  ttl := fun u hu => by
    have hu' : (if t.ttl = true then some s.ttl else none) = some u := hu
    split at hu'
    · cases hu'; exact hs.ttl.ok
    · cases hu'
def needIn (path : List Lab) (o : Bk) : Option Nat := path.findIdx? fun l => !fits l o
def eN : Option Nat → D
  | none => .none
  | some n => .int n
theorem ev_need_in {path : List Lab} {o : Bk} (hl : ∀ l ∈ path, LabOk l) (ho : BkOk o) : callV 4 m_need_in [.list (path.map eL), eS o] = some (.val (eN (needIn path o))) := by
  unfold callV m_need_in
  have hi : ∀ ρ : Sl, mEnum (mCons (mVar 0) mNil) [.val (.list (path.map eL)), .val (eS o), .un, .un] = some ((path.zipIdx).map (fun q => PyData.tuple [.int (q.2 : Nat), eL q.1]), [.val (.list (path.map eL)), .val (eS o), .un, .un]) := fun _ => by
    simp_arith [mEnum, enumD_map]
  have fo : ∀ q ∈ path.zipIdx, callV 9 m_fits_source [eL q.1, eS o] = some (.val (.bool (fits q.1 o))) := fun q hq => by
    have := List.mem_zipIdx hq
    exact ev_fits_source (hl q.1 (by rw [this.2.2]; exact List.getElem_mem _)) ho
  have r := for_ret (mi := mEnum (mCons (mVar 0) mNil)) (g := gTp 2 (gsCons (gNm 2) (gsCons (gNm 3) gsNil))) (b := mIf (mTNot (mB (mFn' 2 9 m_fits_source [false, false] [] (mCons (mVar 3) (mCons (mVar 1) mNil))))) (mRet (mVar 2)) mNext)
    (hi []) (fun q => !fits q.1 o) (fun _ ρ => ∃ s2 s3, ρ = [.val (.list (path.map eL)), .val (eS o), s2, s3]) ⟨.un, .un, rfl⟩ (fun j q ρ' hq hn hI => by
      obtain ⟨s2, s3, rfl⟩ := hI
      have e := fo q (List.mem_of_getElem? hq)
      have e2 : fits q.1 o = true := by simpa using hn
      rw [e2] at e
      refine ⟨_, _, rfl, .inl ?_, .val (.int (q.2 : Nat)), .val (eL q.1), rfl⟩
      simp_arith [e])
  rcases r with ⟨h1, ρF, h2, s2, s3, rfl⟩ | ⟨j, q, ρ', h1, h2, h3, ⟨s2, s3, rfl⟩, h5⟩
  · simp_arith [h2]
    have e : needIn path o = none := by
      unfold needIn
      rw [List.findIdx?_eq_none_iff]
      intro l hlm
      obtain ⟨i, hi2, rfl⟩ := List.getElem_of_mem hlm
      have := h1 (path[i], i) (by
        rw [List.mem_iff_getElem?]
        exact ⟨i, by rw [List.getElem?_zipIdx, List.getElem?_eq_getElem hi2]; simp⟩)
      simpa using this
    rw [e]
    rfl
  · have hz := List.getElem?_zipIdx (l := path) (i := 0) (j := j)
    rw [h1] at hz
    have hj : j < path.length := by
      have := (List.getElem?_eq_some_iff.mp h1).1
      rwa [List.length_zipIdx] at this
    rw [List.getElem?_eq_getElem hj] at hz
    have eq : q = (path[j], j) := by simpa using hz
    have ff : fits path[j] o = false := by
      rw [eq] at h2
      simpa using h2
    have e := fo q (List.mem_of_getElem? h1)
    rw [eq] at e
    dsimp only at e
    rw [ff] at e
    have hd : path.zipIdx.drop j = (path[j], j) :: path.zipIdx.drop (j + 1) := by
      rw [← eq, ← (List.getElem?_eq_some_iff.mp h1).2]
      exact List.drop_eq_getElem_cons _
    rw [hd, List.map_cons] at h5
    unfold forL at h5
    have eb : mIf (mTNot (mB (mFn' 2 9 m_fits_source [false, false] [] (mCons (mVar 3) (mCons (mVar 1) mNil))))) (mRet (mVar 2)) mNext [.val (.list (path.map eL)), .val (eS o), .val (.int (j : Nat)), .val (eL path[j])] = some (.rt (.val (.int (j : Nat))) [.val (.list (path.map eL)), .val (eS o), .val (.int (j : Nat)), .val (eL path[j])]) := by
      simp_arith [e]
    have eg : gTp 2 (gsCons (gNm 2) (gsCons (gNm 3) gsNil)) (.tuple [.int (j : Nat), eL path[j]]) [.val (.list (path.map eL)), .val (eS o), s2, s3] = some [.val (.list (path.map eL)), .val (eS o), .val (.int (j : Nat)), .val (eL path[j])] := rfl
    rw [eg] at h5
    dsimp only at h5
    rw [eb] at h5
    dsimp only at h5
    simp_arith [h5]
    have en : needIn path o = some j := by
      unfold needIn
      rw [List.findIdx?_eq_some_iff_getElem]
      refine ⟨hj, by rw [ff]; rfl, fun k hk => ?_⟩
      have := h3 k (path[k], k) hk (by rw [List.getElem?_zipIdx, List.getElem?_eq_getElem (by omega)]; simp)
      simpa using this
    rw [en]
    rfl
set_option Elab.async false
set_option linter.all false
set_option maxRecDepth 100000
set_option maxHeartbeats 2000000
open PySem PySem.Spec PyProof.Rows L2
theorem isnD_eN (o : Option Nat) : isnD (eN o) = o.isNone := by cases o <;> rfl
theorem ev_as_number {o : Option Nat} {path : List Lab} : callV 2 m_as_number [eN o, .list (path.map eL)] = some (.val (.int ((o.getD path.length : Nat) : Int))) := by
  unfold callV m_as_number
  cases o with
  | none => simp_arith [eN]; rfl
  | some n => simp_arith [eN]; rfl
theorem eqvP (a b : Pr) : PyData.eqv (eP a) (eP b) = decide (a = b) := by
  obtain ⟨a1, a2⟩ := a
  obtain ⟨b1, b2⟩ := b
  unfold eP
  simp only [PyData.eqv, PyData.eqvAll, Bool.and_true, Prod.mk.injEq]
  rw [Bool.eq_iff_iff]
  simp only [Bool.and_eq_true, beq_iff_eq, decide_eq_true_eq]
theorem eqvAll_map {α : Type} [DecidableEq α] (f : α → D) (h : ∀ a b, PyData.eqv (f a) (f b) = decide (a = b)) : ∀ xs ys : List α, PyData.eqvAll (xs.map f) (ys.map f) = decide (xs = ys)
  | [], [] => rfl
  | [], _ :: _ => rfl
  | _ :: _, [] => rfl
  | x :: xs, y :: ys => by
    rw [List.map_cons, List.map_cons]
    simp only [PyData.eqvAll, h, eqvAll_map f h xs ys]
    rw [Bool.eq_iff_iff]
    simp
theorem eqvS (a b : Bk) : PyData.eqv (eS a) (eS b) = decide (a = b) := by
  obtain ⟨a1, a2, a3⟩ := a
  obtain ⟨b1, b2, b3⟩ := b
  unfold eS
  simp only [PyData.eqv, PyData.eqvAll, Bool.and_true, Bk.mk.injEq, eqvAll_map eP eqvP]
  rw [Bool.eq_iff_iff]
  simp only [Bool.and_eq_true, beq_iff_eq, decide_eq_true_eq]
theorem okP {p : Pr} (h1 : sok p.1) (h2 : sok p.2) : Ok 1 (eP p) := Ok.tuple fun d hd => by
  simp only [List.mem_cons, List.not_mem_nil, or_false] at hd
  rcases hd with rfl | rfl
  · exact Ok.str h1
  · exact Ok.str h2
theorem okS {s : Bk} (h : BkOk s) : Ok 3 (eS s) := Ok.tuple fun d hd => by
  simp only [List.mem_cons, List.not_mem_nil, or_false] at hd
  rcases hd with rfl | rfl | rfl
  · exact Ok.tuple fun d hd => by
      obtain ⟨p, hp, rfl⟩ := List.mem_map.mp hd
      exact okP (h.ppl p hp).1.low.ok (h.ppl p hp).2.low.ok
  · exact Ok.int
  · exact Ok.str h.ttl.ok
theorem eqS {a b : Bk} (ha : BkOk a) (hb : BkOk b) : eqD (eS a) (eS b) = some (.val (.bool (decide (a = b)))) := by
  unfold eqD
  rw [okD_of (okS ha), okD_of (okS hb), eqvS]
  rfl
structure LibOk (lib : List Bk) : Prop where
  ok : ∀ s ∈ lib, BkOk s
  few : ∀ s ∈ lib, s.ppl.length ≤ 100
  nd : lib.Nodup
  len : lib.length < 64
def eLib (lib : List Bk) : D := .tuple (lib.map eS)
theorem lc_inv {α : Type} {vs : List Nat} {mi : Sl → Option (List D × Sl)} {g : D → Sl → Option Sl} {e : Sl → Option (RV × Sl)} {enc : α → D} {f : α → D} {ρ ρ1 : Sl} {xs : List α} (Iv : Sl → Prop) (hi : mi ρ = some (xs.map enc, ρ1)) (h0 : Iv (hide ρ1 vs))
    (h : ∀ x ∈ xs, ∀ ρh, Iv ρh → ∃ ρa r ρb ρc, g (enc x) ρh = some ρa ∧ e ρa = some (r, ρb) ∧ cold r ρb = some (f x, ρc) ∧ Iv (hide ρc vs)) :
    ∃ ρ2, mLc vs mi g mYes e ρ = some (.tmp (.lst (xs.map f)), mix ρ1 ρ2 vs) ∧ Iv (hide ρ2 vs) := by
  have gen : ∀ (ys : List α) (acc : List D) (ρ' : Sl), (∀ y ∈ ys, y ∈ xs) → Iv (hide ρ' vs) → ∃ ρ2, lcL vs g mYes e (ys.map enc) acc ρ' = some (acc ++ ys.map f, ρ2) ∧ Iv (hide ρ2 vs) := by
    intro ys
    induction ys with
    | nil => intro acc ρ' _ hI; exact ⟨ρ', by simp [lcL], hI⟩
    | cons y ys ih =>
      intro acc ρ' hs hI
      obtain ⟨ρa, r, ρb, ρc, h1, h2, h3, h4⟩ := h y (hs y List.mem_cons_self) _ hI
      obtain ⟨ρ2, e1, e2⟩ := ih (acc ++ [f y]) ρc (fun z hz => hs z (List.mem_cons_of_mem _ hz)) h4
      refine ⟨ρ2, ?_, e2⟩
      rw [List.map_cons]
      unfold lcL
      rw [h1]
      dsimp only [mYes]
      rw [h2]
      dsimp only
      rw [h3]
      dsimp only
      rw [e1, List.append_assoc]
      rfl
  unfold mLc
  rw [hi]
  dsimp only
  obtain ⟨ρ2, e1, e2⟩ := gen xs [] ρ1 (fun _ h => h) h0
  rw [e1]
  exact ⟨ρ2, by rw [List.nil_append], e2⟩
/-- the needs of the source s against all -/
def needsOf (y : Sty) (lib : List Bk) (s : Bk) : List Nat := lib.map fun o => if o = s then 0 else (needIn (pathOf y s) o).getD (pathOf y s).length
theorem pathOf_ok {y : Sty} {s : Bk} (hs : BkOk s) : ∀ l ∈ pathOf y s, LabOk l := fun l hl => by
  unfold pathOf at hl
  obtain ⟨t, _, rfl⟩ := List.mem_map.mp hl
  exact labelBy_ok hs
theorem ev_needs_in {y : Sty} {lib : List Bk} {i : Nat} {s : Bk} (hy : SmallY y) (hl : LibOk lib) (hi : lib[i]? = some s) :
    callV 7 m_needs_in [eY y, eLib lib, .int i] = some (.val (.tuple [.list ((pathOf y s).map eL), .list ((needsOf y lib s).map fun n => .int (n : Nat))])) := by
  have hm := List.mem_of_getElem? hi
  have hs := hl.ok s hm
  unfold callV m_needs_in eLib
  have ii : ixD (.tuple (lib.map eS)) (.int i) = some (.val (eS s)) := ixn (by rw [List.getElem?_map, hi]; rfl)
  simp_arith [ii, ev_path_of hy hs (hl.few s hm)]
  generalize hρ : ([.val (eY y), .val (.tuple (lib.map eS)), .val (.int i), .val (eS s), .own none (.lst ((pathOf y s).map eL)), .un, .un] : Sl) = ρ
  have key : ∃ s4 ρ2, (s4 = .own none (.lst ((pathOf y s).map eL)) ∨ s4 = .val (.list ((pathOf y s).map eL))) ∧ hide ρ2 [6] = [.val (eY y), .val (.tuple (lib.map eS)), .val (.int i), .val (eS s), s4, .un, .un] ∧
      mLc [6] (mItA (mVar 1)) (gNm 6) mYes (mIfE (mB (m2 eqD (mVar 6) (mVar 3))) (mC (.int 0)) (mFn' 2 2 m_as_number [false, false] [] (mCons (mFn' 2 4 m_need_in [false, false] [] (mCons (mVar 4) (mCons (mVar 6) mNil))) (mCons (mVar 4) mNil)))) ρ
        = some (.tmp (.lst (lib.map fun o => .int ((if o = s then 0 else (needIn (pathOf y s) o).getD (pathOf y s).length : Nat) : Int))), mix ρ ρ2 [6]) := by
    subst hρ
    obtain ⟨ρ2, e1, s4, h4, e2⟩ := lc_inv (vs := [6]) (mi := mItA (mVar 1)) (g := gNm 6) (xs := lib) (enc := eS) (f := fun o => .int ((if o = s then 0 else (needIn (pathOf y s) o).getD (pathOf y s).length : Nat) : Int))
      (ρ := [.val (eY y), .val (.tuple (lib.map eS)), .val (.int i), .val (eS s), .own none (.lst ((pathOf y s).map eL)), .un, .un]) (ρ1 := [.val (eY y), .val (.tuple (lib.map eS)), .val (.int i), .val (eS s), .own none (.lst ((pathOf y s).map eL)), .un, .un])
      (e := mIfE (mB (m2 eqD (mVar 6) (mVar 3))) (mC (.int 0)) (mFn' 2 2 m_as_number [false, false] [] (mCons (mFn' 2 4 m_need_in [false, false] [] (mCons (mVar 4) (mCons (mVar 6) mNil))) (mCons (mVar 4) mNil))))
      (fun ρh => ∃ s4, (s4 = .own none (.lst ((pathOf y s).map eL)) ∨ s4 = .val (.list ((pathOf y s).map eL))) ∧ ρh = [.val (eY y), .val (.tuple (lib.map eS)), .val (.int i), .val (eS s), s4, .un, .un])
      (by simp_arith [mItA, itemsD]) ⟨_, .inl rfl, rfl⟩ (fun o ho ρh hI => by
        obtain ⟨s4, h4, rfl⟩ := hI
        have eq := eqS (hl.ok o ho) hs
        have en := ev_need_in (path := pathOf y s) (o := o) (pathOf_ok hs) (hl.ok o ho)
        have ea := ev_as_number (o := needIn (pathOf y s) o) (path := pathOf y s)
        by_cases e : o = s
        · refine ⟨_, .val (.int 0), [.val (eY y), .val (.tuple (lib.map eS)), .val (.int i), .val (eS s), s4, .un, .val (eS o)], [.val (eY y), .val (.tuple (lib.map eS)), .val (.int i), .val (eS s), s4, .un, .val (eS o)], rfl, ?_, ?_, s4, h4, rfl⟩
          · have e' : decide (o = s) = true := decide_eq_true e
            rcases h4 with rfl | rfl <;> simp_arith [eq, e']
          · rw [if_pos e]; rfl
        · have e' : decide (o = s) = false := decide_eq_false e
          refine ⟨_, .val (.int ((needIn (pathOf y s) o).getD (pathOf y s).length : Nat)), [.val (eY y), .val (.tuple (lib.map eS)), .val (.int i), .val (eS s), .val (.list ((pathOf y s).map eL)), .un, .val (eS o)], [.val (eY y), .val (.tuple (lib.map eS)), .val (.int i), .val (eS s), .val (.list ((pathOf y s).map eL)), .un, .val (eS o)], rfl, ?_, ?_, _, .inr rfl, rfl⟩
          · rcases h4 with rfl | rfl <;> simp_arith [eq, e', en, ea]
          · rw [if_neg e]; rfl)
    exact ⟨s4, ρ2, h4, e2, e1⟩
  obtain ⟨s4, ρ2, h4, e2, e1⟩ := key
  have em : mix ρ ρ2 [6] = [.val (eY y), .val (.tuple (lib.map eS)), .val (.int i), .val (eS s), s4, .un, .un] := by
    subst hρ
    exact e2
  rw [e1, em]
  unfold needsOf
  rw [List.map_map]
  rcases h4 with rfl | rfl
  · simp_arith []
    rfl
  · simp_arith []
    rfl
set_option Elab.async false
set_option linter.all false
set_option maxRecDepth 100000
set_option maxHeartbeats 2000000
open PySem PySem.Spec PyProof.Rows L2
def maxN (ns : List Nat) : Nat := ns.foldl max 0
theorem foldl_max_le : ∀ (ns : List Nat) (a : Nat), a ≤ ns.foldl max a ∧ ∀ n ∈ ns, n ≤ ns.foldl max a
  | [], a => ⟨Nat.le_refl _, fun _ h => nomatch h⟩
  | m :: ns, a => by
    obtain ⟨h1, h2⟩ := foldl_max_le ns (max a m)
    refine ⟨by rw [List.foldl_cons]; omega, fun n hn => ?_⟩
    rw [List.foldl_cons]
    rcases List.mem_cons.mp hn with e | e
    · rw [e]; omega
    · exact h2 n e
theorem foldl_max_mem : ∀ (ns : List Nat) (a : Nat), ns.foldl max a = a ∨ ns.foldl max a ∈ ns
  | [], a => .inl rfl
  | m :: ns, a => by
    rw [List.foldl_cons]
    rcases foldl_max_mem ns (max a m) with e | e
    · rw [e]
      rcases Nat.le_total a m with h | h
      · exact .inr (by rw [Nat.max_eq_right h]; exact List.mem_cons_self)
      · exact .inl (Nat.max_eq_left h)
    · exact .inr (List.mem_cons_of_mem _ e)
theorem maxN_le {ns : List Nat} {n : Nat} (h : n ∈ ns) : n ≤ maxN ns := (foldl_max_le ns 0).2 n h
theorem maxN_mem {ns : List Nat} (h : ns ≠ []) : maxN ns ∈ ns := by
  rcases foldl_max_mem ns 0 with e | e
  · have e' : maxN ns = 0 := e
    obtain ⟨n, r, rfl⟩ := List.exists_cons_of_ne_nil h
    have := maxN_le (ns := n :: r) (n := n) List.mem_cons_self
    rw [e'] at this ⊢
    have : n = 0 := by omega
    rw [this]
    exact List.mem_cons_self
  · exact e
theorem max_list {ns : List Nat} (h : ns ≠ []) : maxD [.list (ns.map fun n => .int (n : Nat))] = some (.val (.int ((maxN ns : Nat) : Int))) := by
  have e : (ns.map fun n => PyData.int (n : Nat)) = (ns.map fun n : Nat => (n : Int)).map .int := by rw [List.map_map]; rfl
  unfold maxD
  rw [e]
  dsimp only
  rw [intsD_map]
  dsimp only
  have h' : ns.map (fun n : Nat => (n : Int)) ≠ [] := by simpa using h
  rw [if_neg h']
  congr 3
  obtain ⟨m1, m2⟩ := maxL_mem h'
  obtain ⟨n, hn, en⟩ := List.mem_map.mp m1
  rw [← en]
  have a := maxN_le hn
  have b := m2 _ (List.mem_map.mpr ⟨_, maxN_mem h, rfl⟩)
  rw [← en] at b
  omega
def placeOf (y : Sty) (lib : List Bk) (s : Bk) : Option Nat := if maxN (needsOf y lib s) < (pathOf y s).length then some (maxN (needsOf y lib s)) else none
theorem needsOf_ne {y : Sty} {lib : List Bk} {s : Bk} (h : lib ≠ []) : needsOf y lib s ≠ [] := by
  unfold needsOf
  simpa using h
theorem ev_place_in {y : Sty} {lib : List Bk} {i : Nat} {s : Bk} (hy : SmallY y) (hl : LibOk lib) (hi : lib[i]? = some s) : callV 5 m_place_in [eY y, eLib lib, .int i] = some (.val (eN (placeOf y lib s))) := by
  unfold callV m_place_in
  have ne : lib ≠ [] := by rintro rfl; simp at hi
  have mx := max_list (needsOf_ne (y := y) (s := s) ne)
  have nd := ev_needs_in hy hl hi
  generalize hA : (needsOf y lib s).map (fun n => PyData.int (n : Nat)) = A at mx nd
  simp_arith [nd, mx]
  unfold placeOf
  by_cases h : maxN (needsOf y lib s) < (pathOf y s).length
  · have h' : decide (maxN (needsOf y lib s) < (pathOf y s).length) = true := decide_eq_true h
    rw [if_pos h]
    simp_arith [h', mx]
    rfl
  · have h' : decide (maxN (needsOf y lib s) < (pathOf y s).length) = false := decide_eq_false h
    rw [if_neg h]
    simp_arith [h']
    rfl
set_option Elab.async false
set_option linter.all false
set_option maxRecDepth 100000
set_option maxHeartbeats 2000000
open PySem PySem.Spec PyProof.Rows L2
theorem nodup_map {α β : Type} {f : α → β} (hf : ∀ a b, f a = f b → a = b) {xs : List α} (h : xs.Nodup) : (xs.map f).Nodup := by
  unfold List.Nodup at *
  rw [List.pairwise_map]
  exact h.imp fun hn e => hn (hf _ _ e)
theorem all_true {α : Type} (xs : List α) : (xs.all fun _ => true) = true := by simp
theorem setN_steps {ws : List Wd} (h : ws.Nodup) (hl : ws.length ≤ 7) : setN (.tuple (ws.map eW)) = some ws.length := by
  have e : ws.map eW = (ws.map Wd.s).map PyData.str := by rw [List.map_map]; rfl
  unfold setN setNs
  dsimp only
  rw [e, strsD_map]
  dsimp only
  rw [if_pos (by rw [List.length_map]; omega), dl_nodup _ _ (by rw [List.nil_append]; exact nodup_map (fun a b e => (Wd.inj a b).mp e) h), List.length_map]
def STEPD : D := .tuple [.str "names", .str "all", .str "first initial", .str "initials", .str "first given", .str "given", .str "title"]
theorem step_in (a : Wd) : inA false (eW a) STEPD = some (.val (.bool true)) := by
  unfold inA STEPD
  dsimp only
  have h1 : okD (eW a) = true := okD_of (n := 0) (Ok.str a.ok)
  have h2 : okD (.list [.str "names", .str "all", .str "first initial", .str "initials", .str "first given", .str "given", .str "title"]) = true := by decide +kernel
  have h3 : memD (eW a) [.str "names", .str "all", .str "first initial", .str "initials", .str "first given", .str "given", .str "title"] = true := by cases a <;> decide +kernel
  rw [h1, h2, h3]
  rfl
theorem ev_are_steps {ws : List Wd} (h : ws.Nodup) (hl : ws.length ≤ 7) : callV 2 m_are_steps [.tuple (ws.map eW)] = some (.val (.bool true)) := by
  unfold callV m_are_steps
  have sn := setN_steps h hl
  simp_arith []
  rw [lc_all (xs := ws) (enc := eW) (ρ1 := [.val (.tuple (ws.map eW)), .un]) (f := fun _ => .bool true)]
  · simp_arith [allD_fun, mLenSet, sn, all_true]
  · simp_arith [mItA, itemsD]
  · intro a ha
    have st := step_in a
    unfold eW STEPD at st
    exact ⟨[.val (.tuple (ws.map eW)), .val (eW a)], rfl, rfl, .val (.bool true), by unfold eW; simp_arith [st], rfl⟩
theorem ev_is_style {y : Sty} (h : StyOk y) (hl : y.steps.length ≤ 7) : callV 1 m_is_style [eY y] = some (.val (.bool true)) := by
  unfold callV m_is_style eY
  have h1 : (1 : Int) ≤ (y.most : Int) := by have := h.lo; have := h.hi; omega
  have h2 : (1 : Int) ≤ (y.kept : Int) := by have := h.lo; omega
  have h3 := h.hi
  simp_arith [ix0, ix1, ix2, ev_is_integer, ev_is_integer', decide_eq_true h1, decide_eq_true h2, decide_eq_true h3, ev_are_steps h.nd hl]
theorem keyD_P (p : Pr) : keyD (eP p) = some (.tup [.text p.1, .text p.2]) := by
  unfold eP
  simp only [keyD, keyD.keyDs, Option.map]
theorem keyDs_map {α : Type} {f : α → D} {g : α → NestedKey} (h : ∀ a, keyD (f a) = some (g a)) : ∀ xs : List α, keyD.keyDs (xs.map f) = some (xs.map g)
  | [] => rfl
  | x :: xs => by
    rw [List.map_cons, List.map_cons]
    unfold keyD.keyDs
    rw [h, keyDs_map h xs]
def kP (p : Pr) : NestedKey := .tup [.text p.1, .text p.2]
def kS (s : Bk) : NestedKey := .tup [.tup (s.ppl.map kP), .num s.yr, .text s.ttl]
theorem keyD_S (s : Bk) : keyD (eS s) = some (kS s) := by
  unfold eS kS
  simp only [keyD, keyD.keyDs, Option.map, keyDs_map keyD_P]
  rfl
theorem depthAll_le {n : Nat} : ∀ ks : List NestedKey, (∀ k ∈ ks, k.depth ≤ n) → NestedKey.depthAll ks ≤ n
  | [], _ => Nat.zero_le _
  | k :: ks, h => by
    unfold NestedKey.depthAll
    have h1 := h k List.mem_cons_self
    have h2 := depthAll_le ks fun k hk => h k (List.mem_cons_of_mem _ hk)
    omega
theorem kP_depth (p : Pr) : (kP p).depth = 1 := by
  unfold kP
  simp [NestedKey.depth, NestedKey.depthAll]
theorem kS_depth (s : Bk) : (kS s).depth ≤ 3 := by
  unfold kS
  have := depthAll_le (n := 1) (s.ppl.map kP) fun k hk => by
    obtain ⟨p, _, rfl⟩ := List.mem_map.mp hk
    rw [kP_depth]
    exact Nat.le_refl _
  simp only [NestedKey.depth, NestedKey.depthAll]
  omega
theorem kP_inj (p q : Pr) (h : kP p = kP q) : p = q := by
  unfold kP at h
  simp only [NestedKey.tup.injEq, List.cons.injEq, NestedKey.text.injEq, and_true] at h
  exact Prod.ext h.1 h.2
theorem map_inj {α β : Type} {f : α → β} (hf : ∀ a b, f a = f b → a = b) : ∀ xs ys : List α, xs.map f = ys.map f → xs = ys
  | [], [], _ => rfl
  | [], _ :: _, h => by cases h
  | _ :: _, [], h => by cases h
  | x :: xs, y :: ys, h => by
    rw [List.map_cons, List.map_cons] at h
    injection h with h1 h2
    rw [hf _ _ h1, map_inj hf xs ys h2]
theorem kS_inj (a b : Bk) (h : kS a = kS b) : a = b := by
  unfold kS at h
  simp only [NestedKey.tup.injEq, List.cons.injEq, NestedKey.text.injEq, NestedKey.num.injEq, and_true] at h
  obtain ⟨h1, h2, h3⟩ := h
  obtain ⟨a1, a2, a3⟩ := a
  obtain ⟨b1, b2, b3⟩ := b
  have h1' := map_inj kP_inj _ _ h1
  cases h1'
  cases h2
  cases h3
  rfl
theorem setN_lib {lib : List Bk} (h : lib.Nodup) (hl : lib.length < 64) : setN (.tuple (lib.map eS)) = some lib.length := by
  unfold setN setNs
  dsimp only
  cases lib with
  | nil => simp only [List.map_nil]; rfl
  | cons s lib =>
    have e : strsD ((s :: lib).map eS) = none := by
      rw [List.map_cons]
      rfl
    rw [e, keyDs_map keyD_S]
    dsimp only
    have c : ((s :: lib).map eS).all isTup = true ∧ (∀ k ∈ (s :: lib).map kS, k.depth ≤ 8) ∧ ((s :: lib).map eS).length < 64 := by
      refine ⟨?_, ?_, by rw [List.length_map]; exact hl⟩
      · rw [List.all_eq_true]
        intro d hd
        obtain ⟨t, _, rfl⟩ := List.mem_map.mp hd
        rfl
      · intro k hk
        obtain ⟨t, _, rfl⟩ := List.mem_map.mp hk
        have := kS_depth t
        omega
    rw [if_pos c, dl_nodup _ _ (by rw [List.nil_append]; exact nodup_map kS_inj h), List.length_map]
theorem ev_is_library {lib : List Bk} (h : LibOk lib) : callV 2 m_is_library [eLib lib] = some (.val (.bool true)) := by
  unfold callV m_is_library eLib
  have sn := setN_lib h.nd h.len
  simp_arith []
  rw [lc_all (xs := lib) (enc := eS) (ρ1 := [.val (.tuple (lib.map eS)), .un]) (f := fun _ => .bool true)]
  · simp_arith [allD_fun, mLenSet, sn, all_true]
  · simp_arith [mItA, itemsD]
  · intro a ha
    have st := ev_is_source (h.ok a ha)
    exact ⟨[.val (.tuple (lib.map eS)), .val (eS a)], rfl, rfl, .val (.bool true), by simp_arith [st], rfl⟩
theorem ev_check_style {y : Sty} (h : SmallY y) : callV 1 m_check_style [eY y] = some (.val .none) := by
  unfold callV m_check_style
  simp_arith [ev_is_style h.ok h.st]
theorem ev_check_source {s : Bk} (h : BkOk s) : callV 1 m_check_source [eS s] = some (.val .none) := by
  unfold callV m_check_source
  simp_arith [ev_is_source h]
theorem ev_check_library {lib : List Bk} (h : LibOk lib) : callV 1 m_check_library [eLib lib] = some (.val .none) := by
  unfold callV m_check_library
  simp_arith [ev_is_library h]
theorem ev_check_index {lib : List Bk} {i : Nat} (h : i < lib.length) : callV 2 m_check_index [eLib lib, .int i] = some (.val .none) := by
  unfold callV m_check_index eLib
  have h1 : (0 : Int) ≤ (i : Int) := by omega
  have h2 : (i : Int) ≤ (lib.length : Int) - 1 := by omega
  simp_arith [ev_is_integer, decide_eq_true h1, decide_eq_true h2]
theorem ev_check_place {y : Sty} {lib : List Bk} {i : Nat} (hy : SmallY y) (hl : LibOk lib) (hi : i < lib.length) : callV 3 m_check_place [eY y, eLib lib, .int i] = some (.val .none) := by
  unfold callV m_check_place
  simp_arith [ev_check_style hy, ev_check_library hl, ev_check_index hi]
theorem ev_need {y : Sty} {s o : Bk} (hy : SmallY y) (hs : BkOk s) (ho : BkOk o) (hp : s.ppl.length ≤ 100) (hn : s ≠ o) : callV 3 m_need [eY y, eS s, eS o] = some (.val (eN (needIn (pathOf y s) o))) := by
  unfold callV m_need
  have eq := eqS hs ho
  rw [decide_eq_false hn] at eq
  have en := ev_need_in (path := pathOf y s) (o := o) (pathOf_ok hs) ho
  simp_arith [ev_check_style hy, ev_check_source hs, ev_check_source ho, eq, ev_path_of hy hs hp, en]
theorem ev_place_of {y : Sty} {lib : List Bk} {i : Nat} {s : Bk} (hy : SmallY y) (hl : LibOk lib) (hi : lib[i]? = some s) : callV 3 m_place_of [eY y, eLib lib, .int i] = some (.val (eN (placeOf y lib s))) := by
  unfold callV m_place_of
  simp_arith [ev_check_place hy hl (List.getElem?_eq_some_iff.mp hi).1, ev_place_in hy hl hi]
set_option Elab.async false
set_option linter.all false
set_option maxRecDepth 100000
set_option maxHeartbeats 2000000
open PySem PySem.Spec PyProof.Rows L2
/-! ### letters with numbers -/
def sg (m : Nat) : Str := ⟨#[97 + m]⟩
def wl (left : Nat) (f : Str) : Str := if h : left = 0 then f else wl ((left - 1) / 26) (sg ((left - 1) % 26) ++ f)
termination_by left
decreasing_by omega
theorem let_ix {m : Nat} (h : m < 26) : ixD (.str "abcdefghijklmnopqrstuvwxyz") (.int m) = some (.val (.str (sg m))) := by
  unfold ixD
  dsimp only
  have e : LET.cps.toList = (List.range 26).map (97 + ·) := by decide +kernel
  rw [if_pos (by show LET.cps.size ≤ sizeLine; rw [sizeLine_eq]; decide +kernel), atI_nat (x := 97 + m)]
  · rfl
  · show LET.cps.toList[m]? = _
    rw [e, List.getElem?_map, List.getElem?_range h]
    rfl
theorem wl_zero (f : Str) : wl 0 f = f := by rw [wl]; rfl
theorem wl_succ (n : Nat) (f : Str) : wl (n + 1) f = wl (n / 26) (sg (n % 26) ++ f) := by rw [wl]; rfl
theorem app_size (a b : Str) : (a ++ b).cps.size = a.cps.size + b.cps.size := Array.size_append
theorem wl_size (n : Nat) (f : Str) : f.cps.size ≤ (wl n f).cps.size := by
  induction n using Nat.strongRecOn generalizing f with
  | ind n ih =>
    cases n with
    | zero => rw [wl_zero]; exact Nat.le_refl _
    | succ n =>
      rw [wl_succ]
      have := ih (n / 26) (by omega) (sg (n % 26) ++ f)
      rw [app_size] at this
      omega
theorem wl_pos (n : Nat) : 1 ≤ (wl (n + 1) "").cps.size := by
  rw [wl_succ]
  have := wl_size (n / 26) (sg (n % 26) ++ "")
  rw [app_size] at this
  have e : (sg (n % 26)).cps.size = 1 := rfl
  omega
theorem wl_loop (d : D) (n : Nat) (f : Str) (k : Nat) (hk : n < k) (hf : f.cps.size + n ≤ 4000) :
    whileL (mB (m2 gtD (mVar 2) (mC (.int 0)))) (mSeq (mSet 2 (m2 subD (mVar 2) (mC (.int 1)))) (mSeq (mSet 1 (m2 addD (m2 ixD (mC (.str "abcdefghijklmnopqrstuvwxyz")) (m2 modD (mVar 2) (mC (.int 26)))) (mVar 1))) (mSet 2 (m2 divD (mVar 2) (mC (.int 26)))))) k
      [.val d, .val (.str f), .val (.int n)] = some (.nx [.val d, .val (.str (wl n f)), .val (.int 0)]) := by
  induction n using Nat.strongRecOn generalizing f k with
  | ind n ih =>
    cases k with
    | zero => omega
    | succ k =>
      unfold whileL
      cases n with
      | zero =>
        rw [wl_zero]
        simp_arith []
        first | done | rfl
      | succ n =>
        have c : decide ((0 : Int) < ((n + 1 : Nat) : Int)) = true := decide_eq_true (by omega)
        have e1 : ((n + 1 : Nat) : Int) - 1 = (n : Int) := by omega
        have e2 : modD (.int (n : Int)) (.int 26) = some (.val (.int ((n % 26 : Nat) : Int))) := by
          unfold modD intD
          dsimp only
          rw [if_pos (by decide)]
          rfl
        have e3 : divD (.int (n : Int)) (.int 26) = some (.val (.int ((n / 26 : Nat) : Int))) := by
          unfold divD intD
          dsimp only
          rw [if_pos (show CDivW (n : Int) 26 from ⟨by omega, by decide +kernel⟩)]
          rfl
        have e4 := let_ix (m := n % 26) (Nat.mod_lt _ (by decide))
        have e5 : addD (.str (sg (n % 26))) (.str f) = some (.val (.str (sg (n % 26) ++ f))) := add_str (by show 1 + f.cps.size ≤ 4096; omega)
        have e6 := ih (n / 26) (by omega) (sg (n % 26) ++ f) k (by omega) (by rw [app_size]; show 1 + f.cps.size + n / 26 ≤ 4000; omega)
        rw [wl_succ]
        simp_arith [c, e1, e2, e3, e4, e5]
        exact e6
theorem ev_written_letters {n : Nat} (h : n ≤ 3000) : callV 3 m_written_letters [.int n] = some (.val (.str (wl (n + 1) ""))) := by
  unfold callV m_written_letters
  have e := wl_loop (.int n) (n + 1) "" fuel (by unfold fuel; omega) (by show 0 + (n + 1) ≤ 4000; omega)
  simp_arith [mWhile]
  rw [show (n : Int) + 1 = ((n + 1 : Nat) : Int) from rfl, e]
  rfl
/-! ### plain labels -/
theorem noRep_ne {α : Type} [DecidableEq α] {xs : List α} (h : xs ≠ []) : noRep xs ≠ [] := by
  have g : ∀ (ys acc : List α), acc ≠ [] → ys.foldl pushN acc ≠ [] := by
    intro ys
    induction ys with
    | nil => intro acc h; exact h
    | cons y ys ih =>
      intro acc h
      refine ih _ ?_
      unfold pushN
      split
      · exact h
      · simp
  cases xs with
  | nil => exact absurd rfl h
  | cons x xs => exact g xs _ (by simp [pushN])
theorem pathOf_ne (y : Sty) (s : Bk) : pathOf y s ≠ [] := by
  unfold pathOf seenOf
  intro h
  rw [List.map_eq_nil_iff] at h
  refine noRep_ne ?_ h
  unfold statesOf
  simp
def lab0 : Lab := ⟨[], false, 0, none, ""⟩
/-- the label at a place, the last one for None -/
def plainAt (y : Sty) (s : Bk) (n : Nat) : Lab := (pathOf y s).getD (min n ((pathOf y s).length - 1)) lab0
theorem min_int {a b : Int} : minD [.int a, .int b] = some (.val (.int (min a b))) := by
  unfold minD
  dsimp only
  congr 3
  split <;> omega
theorem ev_plain_label {y : Sty} {lib : List Bk} {i : Nat} {s : Bk} (hy : SmallY y) (hl : LibOk lib) (hi : lib[i]? = some s) :
    callV 6 m_plain_label [eY y, eLib lib, .int i] = some (.val (.tuple [eL (plainAt y s (maxN (needsOf y lib s))), .bool (decide (maxN (needsOf y lib s) = (pathOf y s).length))])) := by
  unfold callV m_plain_label
  have ne : lib ≠ [] := by rintro rfl; simp at hi
  have mx := max_list (needsOf_ne (y := y) (s := s) ne)
  have nd := ev_needs_in hy hl hi
  have pn : 0 < (pathOf y s).length := List.length_pos_iff.mpr (pathOf_ne y s)
  have e1 : min ((maxN (needsOf y lib s) : Nat) : Int) (((pathOf y s).length : Int) - 1) = ((min (maxN (needsOf y lib s)) ((pathOf y s).length - 1) : Nat) : Int) := by omega
  have e2 : ixD (.list ((pathOf y s).map eL)) (.int ((min (maxN (needsOf y lib s)) ((pathOf y s).length - 1) : Nat) : Int)) = some (.val (eL (plainAt y s (maxN (needsOf y lib s))))) := by
    apply ixl
    have hj : min (maxN (needsOf y lib s)) ((pathOf y s).length - 1) < (pathOf y s).length := by omega
    unfold plainAt
    rw [List.getElem?_map, List.getElem?_eq_getElem hj, List.getD_eq_getElem?_getD, List.getElem?_eq_getElem hj]
    rfl
  have e3 : decide (((maxN (needsOf y lib s) : Nat) : Int) = ((pathOf y s).length : Int)) = decide (maxN (needsOf y lib s) = (pathOf y s).length) := by
    rw [Bool.eq_iff_iff]
    simp only [decide_eq_true_eq]
    omega
  generalize hA : (needsOf y lib s).map (fun n => PyData.int (n : Nat)) = A at mx nd
  simp_arith [nd, mx, min_int, e1, e2, e3]
set_option Elab.async false
set_option linter.all false
set_option maxRecDepth 100000
set_option maxHeartbeats 2000000
open PySem PySem.Spec PyProof.Rows L2
/-! ### the order of sources -/
theorem alikeP (a b : Pr) : PySem.W.alike (eP a) (eP b) = true := by
  unfold eP
  simp only [PySem.W.alike, PySem.W.alikeAll, Bool.and_self]
theorem alikeAll_of {α : Type} {f : α → D} (h : ∀ a b, PySem.W.alike (f a) (f b) = true) : ∀ xs ys : List α, PySem.W.alikeAll (xs.map f) (ys.map f) = true
  | [], _ => by rw [List.map_nil, PySem.W.alikeAll]
  | _ :: _, [] => by rw [List.map_nil, List.map_cons, PySem.W.alikeAll]
  | x :: xs, y :: ys => by
    rw [List.map_cons, List.map_cons, PySem.W.alikeAll, h, alikeAll_of h xs ys]
    rfl
theorem alikeS (a b : Bk) : PySem.W.alike (eS a) (eS b) = true := by
  unfold eS
  simp only [PySem.W.alike, PySem.W.alikeAll, Bool.and_self, alikeAll_of alikeP]
def bkLt (a b : Bk) : Bool := PySem.W.dataLt (eS a) (eS b)
theorem bkLt_irrefl (a : Bk) : bkLt a a = false := PyProof.Rows.lex_irrefl (O := PyProof.Rows.itemOrd) _
theorem bkLt_trans {a b c : Bk} (h : bkLt a b = true) (k : bkLt b c = true) : bkLt a c = true := PyProof.Rows.lex_trans (O := PyProof.Rows.itemOrd) _ _ _ h k
theorem bkLt_asymm {a b : Bk} (h : bkLt a b = true) : bkLt b a = false := by
  cases e : bkLt b a with
  | false => rfl
  | true =>
    have := bkLt_trans h e
    rw [bkLt_irrefl] at this
    cases this
theorem bkLt_total {a b : Bk} (h : bkLt a b = false) (k : bkLt b a = false) : a = b := by
  have e : PySem.W.keyToks (eS a) = PySem.W.keyToks (eS b) := PyProof.Rows.lex_total (O := PyProof.Rows.itemOrd) _ _ h k
  by_cases q : a = b
  · exact q
  · have t := (PySem.W.toks_eqv (eS a) (eS b) (alikeS a b)).2 (by rw [eqvS, decide_eq_false q]) [.inl 0] [.inl 1]
    rw [e, PySem.W.lex_pre, PyProof.Rows.lex_irrefl (O := PyProof.Rows.itemOrd)] at t
    exact absurd t (by decide)
theorem bkLt_negTrans {a b c : Bk} (h : bkLt a c = true) : bkLt a b = true ∨ bkLt b c = true := PyProof.Rows.lex_negTrans (O := PyProof.Rows.itemOrd) _ _ _ h
theorem dataLe_S {α : Type} (f : α → D) (g : α → Bk) (h : ∀ a, hdD (f a) = eS (g a)) (a b : α) : PySem.W.dataLe false hdD (f a) (f b) = !bkLt (g b) (g a) := by
  show (!PySem.W.dataLt (hdD (f b)) (hdD (f a))) = _
  rw [h, h]
  rfl
/-! ### rows: a source, its plain label, whether it has letters -/
abbrev Row := Bk × Lab × Bool
def eR (r : Row) : D := .tuple [eS r.1, .tuple [eL r.2.1, .bool r.2.2]]
def rowLe (a b : Row) : Bool := !bkLt b.1 a.1
def sortR (rows : List Row) : List Row := rows.mergeSort rowLe
theorem rowLe_trans (a b c : Row) (h : rowLe a b = true) (k : rowLe b c = true) : rowLe a c = true := by
  unfold rowLe at *
  simp only [Bool.not_eq_true'] at *
  cases e : bkLt c.1 a.1 with
  | false => rfl
  | true =>
    rcases bkLt_negTrans (b := b.1) e with q | q
    · rw [k] at q; cases q
    · rw [h] at q; cases q
theorem rowLe_total (a b : Row) : (rowLe a b || rowLe b a) = true := by
  unfold rowLe
  cases e : bkLt b.1 a.1 with
  | false => rfl
  | true => rw [bkLt_asymm e]; rfl
theorem sortR_perm (rows : List Row) : (sortR rows).Perm rows := List.mergeSort_perm _ _
theorem sortR_pw (rows : List Row) : (sortR rows).Pairwise fun a b => rowLe a b = true := List.pairwise_mergeSort rowLe_trans rowLe_total _
/-- how many of them have this label, with letters -/
def cnt (L : List Row) (l : Lab) : Nat := (L.filter fun r => r.2.2 && decide (r.2.1 = l)).length
def tailW (n : Nat) (r : Row) : Lab := { r.2.1 with lt := if r.2.2 = true then wl (n + 1) "" else "" }
/-- how many of one label stand ahead -/
def rankR (rows : List Row) (r : Row) : Nat := cnt (rows.filter fun q => bkLt q.1 r.1) r.2.1
theorem cnt_perm {L L' : List Row} (h : L.Perm L') (l : Lab) : cnt L l = cnt L' l := (h.filter _).length_eq
theorem sorted_split {L : List Row} (pw : L.Pairwise fun a b => rowLe a b = true) (nd : (L.map (·.1)).Nodup) {i : Nat} {r : Row} (h : L[i]? = some r) : (L.filter fun q => bkLt q.1 r.1) = L.take i := by
  obtain ⟨hi, er⟩ := List.getElem?_eq_some_iff.mp h
  have e : L = L.take i ++ r :: L.drop (i + 1) := by
    rw [← er, ← List.drop_eq_getElem_cons hi, List.take_append_drop]
  generalize hA : L.take i = A at e
  generalize hB : L.drop (i + 1) = B at e
  subst e
  rw [List.pairwise_append] at pw
  obtain ⟨_, p2, p3⟩ := pw
  rw [List.pairwise_cons] at p2
  rw [List.map_append, List.map_cons] at nd
  unfold List.Nodup at nd
  rw [List.pairwise_append] at nd
  rw [List.filter_append, List.filter_cons, bkLt_irrefl]
  have h1 : A.filter (fun q => bkLt q.1 r.1) = A := List.filter_eq_self.mpr fun q hq => by
    have a1 := p3 q hq r List.mem_cons_self
    unfold rowLe at a1
    simp only [Bool.not_eq_true'] at a1
    cases e : bkLt q.1 r.1 with
    | true => rfl
    | false => exact absurd (bkLt_total e a1) (nd.2.2 q.1 (List.mem_map_of_mem hq) r.1 List.mem_cons_self)
  have h2 : B.filter (fun q => bkLt q.1 r.1) = [] := List.filter_eq_nil_iff.mpr fun q hq => by
    have a1 := p2.1 q hq
    unfold rowLe at a1
    simpa using a1
  rw [h1, h2]
  simp
theorem rank_at {rows : List Row} (nd : (rows.map (·.1)).Nodup) {i : Nat} {r : Row} (h : (sortR rows)[i]? = some r) : cnt ((sortR rows).take i) r.2.1 = rankR rows r := by
  have nd2 : ((sortR rows).map (·.1)).Nodup := ((sortR_perm rows).map _).nodup_iff.mpr nd
  rw [← sorted_split (sortR_pw rows) nd2 h]
  exact cnt_perm ((sortR_perm rows).filter _) _
def labR (rows : List Row) (r : Row) : Lab := tailW (rankR rows r) r
/-! ### dicts -/
theorem dget_nil {k : NestedKey} : dget [] k = none := rfl
theorem dget_app {xs : List (D × D)} {kd v : D} {k k' : NestedKey} (h : keyD kd = some k) (n : dget xs k = none) : dget (xs ++ [(kd, v)]) k' = if k = k' then some v else dget xs k' := by
  induction xs with
  | nil =>
    rw [List.nil_append, dget_cons, h]
    simp only [Option.some.injEq]
  | cons x xs ih =>
    rw [dget_cons] at n
    rw [List.cons_append, dget_cons, dget_cons]
    by_cases e : keyD x.1 = some k
    · rw [if_pos e] at n; cases n
    · rw [if_neg e] at n
      by_cases e' : keyD x.1 = some k'
      · rw [if_pos e', if_pos e', if_neg]
        rintro rfl
        exact e e'
      · rw [if_neg e', if_neg e', ih n]
theorem dget_upd {v : D} {k k' : NestedKey} : ∀ xs : List (D × D), dget (xs.map fun x => if keyD x.1 = some k then (x.1, v) else x) k' = if k = k' then (dget xs k).map (fun _ => v) else dget xs k'
  | [] => by simp [dget_nil]
  | x :: xs => by
    rw [List.map_cons, dget_cons, dget_cons, dget_cons, dget_upd xs]
    by_cases e : keyD x.1 = some k
    · simp only [if_pos e]
      by_cases e' : k = k'
      · subst e'
        simp [e]
      · rw [e]
        simp [e']
    · simp only [if_neg e]
      by_cases e' : k = k'
      · subst e'
        simp [e]
      · simp [e']
theorem dget_put {xs : List (D × D)} {kd v : D} {k k' : NestedKey} (h : keyD kd = some k) : dget (dput xs kd k v) k' = if k = k' then some v else dget xs k' := by
  unfold dput
  cases e : dget xs k with
  | none =>
    simp only [Option.isSome_none, Bool.false_eq_true, if_false]
    exact dget_app h e
  | some d =>
    simp only [Option.isSome_some, if_true]
    rw [dget_upd, e]
    rfl
theorem dput_len {xs : List (D × D)} {kd v : D} {k : NestedKey} : (dput xs kd k v).length ≤ xs.length + 1 := by
  unfold dput
  split
  · rw [List.length_map]; omega
  · rw [List.length_append]; exact Nat.le_refl _
/-! ### labels as keys -/
def kO : Option Str → NestedKey
  | none => .none
  | some t => .text t
def kL (l : Lab) : NestedKey := .tup [.tup (l.prs.map kP), .num (if l.more = true then 1 else 0), .num l.yr, kO l.ttl, .text l.lt]
theorem keyD_O (o : Option Str) : keyD (eO o) = some (kO o) := by cases o <;> rfl
theorem keyD_L (l : Lab) : keyD (eL l) = some (kL l) := by
  unfold eL kL
  simp only [keyD, keyD.keyDs, Option.map, keyDs_map keyD_P, keyD_O]
  rfl
theorem kL_inj (a b : Lab) (h : kL a = kL b) : a = b := by
  unfold kL at h
  simp only [NestedKey.tup.injEq, List.cons.injEq, NestedKey.text.injEq, NestedKey.num.injEq, and_true] at h
  obtain ⟨h1, h2, h3, h4, h5⟩ := h
  obtain ⟨a1, a2, a3, a4, a5⟩ := a
  obtain ⟨b1, b2, b3, b4, b5⟩ := b
  have h1' := map_inj kP_inj _ _ h1
  dsimp only at h1' h2 h3 h4 h5
  subst h1' h3 h5
  have h2' : a2 = b2 := by cases a2 <;> cases b2 <;> simp_all
  have h4' : a4 = b4 := by
    cases a4 <;> cases b4 <;> simp only [kO, NestedKey.text.injEq, reduceCtorEq] at h4
    · rfl
    · rw [h4]
  subst h2' h4'
  rfl
theorem kO_depth (o : Option Str) : (kO o).depth = 0 := by cases o <;> simp [kO, NestedKey.depth]
theorem kL_depth (l : Lab) : (kL l).depth ≤ 8 := by
  unfold kL
  have := depthAll_le (n := 1) (l.prs.map kP) fun k hk => by
    obtain ⟨p, _, rfl⟩ := List.mem_map.mp hk
    rw [kP_depth]
    exact Nat.le_refl _
  simp only [NestedKey.depth, NestedKey.depthAll, kO_depth]
  omega
theorem keyT_L (l : Lab) : keyT (eL l) = some (kL l) := by
  unfold keyT
  rw [if_pos (show isTup (eL l) = true from rfl), keyD_L]
  dsimp only
  rw [if_pos (kL_depth l)]
theorem keyT_S (s : Bk) : keyT (eS s) = some (kS s) := by
  unfold keyT
  rw [if_pos (show isTup (eS s) = true from rfl), keyD_S]
  dsimp only
  rw [if_pos (by have := kS_depth s; omega)]
theorem zipD_same {α : Type} (f g : α → D) : ∀ xs : List α, zipD (xs.map f) (xs.map g) = xs.map fun x => .tuple [f x, g x]
  | [] => rfl
  | x :: xs => by
    show PyData.tuple [f x, g x] :: zipD (xs.map f) (xs.map g) = _
    rw [zipD_same f g xs]
    rfl
theorem alikeO (o : Option Str) : PySem.W.alike (eO o) (eO o) = true := by cases o <;> simp [eO, PySem.W.alike]
theorem alikeL (l : Lab) : PySem.W.alike (eL l) (eL l) = true := by
  unfold eL
  simp only [PySem.W.alike, PySem.W.alikeAll, Bool.and_self, alikeAll_of alikeP, alikeO]
theorem depthAll_le2 {n : Nat} : ∀ ds : List D, (∀ d ∈ ds, d.depth ≤ n) → PyData.depthAll ds ≤ n
  | [], _ => Nat.zero_le _
  | d :: ds, h => by
    rw [PyData.depthAll]
    have h1 := h d List.mem_cons_self
    have h2 := depthAll_le2 ds fun k hk => h k (List.mem_cons_of_mem _ hk)
    exact Nat.max_le.mpr ⟨h1, h2⟩
theorem depth_P (p : Pr) : (eP p).depth ≤ 1 := by simp [eP, PyData.depth, PyData.depthAll]
theorem depth_Ps (ps : List Pr) : PyData.depthAll (ps.map eP) ≤ 1 := depthAll_le2 _ fun d hd => by
  obtain ⟨p, _, rfl⟩ := List.mem_map.mp hd
  exact depth_P p
theorem depth_R (r : Row) : (eR r).depth ≤ 10 := by
  obtain ⟨s, l, b⟩ := r
  have h1 := depth_Ps s.ppl
  have h2 := depth_Ps l.prs
  have h3 : (eO l.ttl).depth = 0 := by cases l.ttl <;> simp [eO, PyData.depth]
  simp only [eR, eS, eL, PyData.depth, PyData.depthAll, h3]
  omega
theorem sortD_rows {rows : List Row} (nd : (rows.map (·.1)).Nodup) : sortD (rows.map eR) = some ((sortR rows).map eR) := by
  unfold sortD
  have ok : HdOk (rows.map eR) := by
    refine ⟨?_, ?_, ?_⟩
    · intro d hd
      obtain ⟨r, _, rfl⟩ := List.mem_map.mp hd
      exact ⟨_, _, rfl⟩
    · intro d hd
      obtain ⟨r, _, rfl⟩ := List.mem_map.mp hd
      unfold eR
      simp only [PySem.W.alike, PySem.W.alikeAll, Bool.and_self, alikeS, alikeL]
    · intro d hd e he hne
      obtain ⟨r, hr, rfl⟩ := List.mem_map.mp hd
      obtain ⟨q, hq, rfl⟩ := List.mem_map.mp he
      refine ⟨alikeS _ _, ?_⟩
      show PyData.eqv (eS r.1) (eS q.1) = false
      rw [eqvS, decide_eq_false_iff_not]
      intro e
      apply hne
      have : r = q := by
        obtain ⟨i, hi, rfl⟩ := List.getElem_of_mem hr
        obtain ⟨j, hj, rfl⟩ := List.getElem_of_mem hq
        have := (List.getElem?_inj (l := rows.map (·.1)) (i := i) (j := j) (by rwa [List.length_map]) nd).mp (by rw [List.getElem?_map, List.getElem?_map, List.getElem?_eq_getElem hi, List.getElem?_eq_getElem hj]; exact congrArg some e)
        subst this
        rfl
      rw [this]
  rw [if_pos ⟨ok, fun d hd => by
    obtain ⟨r, _, rfl⟩ := List.mem_map.mp hd
    have := depth_R r
    omega⟩]
  congr 1
  exact (List.map_mergeSort fun a _ b _ => (dataLe_S eR (·.1) (fun _ => rfl) a b).symm).symm
set_option Elab.async false
set_option linter.all false
set_option maxRecDepth 100000
set_option maxHeartbeats 2000000
open PySem PySem.Spec PyProof.Rows L2
theorem cnt_snoc (A : List Row) (r : Row) (l : Lab) : cnt (A ++ [r]) l = cnt A l + (if r.2.2 = true ∧ r.2.1 = l then 1 else 0) := by
  unfold cnt
  rw [List.filter_append, List.length_append, List.filter_cons]
  by_cases h : r.2.2 = true ∧ r.2.1 = l
  · rw [if_pos h, if_pos (by simp [h.1, h.2])]
    rfl
  · rw [if_neg h, if_neg (by simpa using h)]
    rfl
theorem cnt_le (A : List Row) (l : Lab) : cnt A l ≤ A.length := List.length_filter_le _ _
theorem sl4_L (l : Lab) : slD none (some 4) (eL l) = some (.val (.tuple [.tuple (l.prs.map eP), .bool l.more, .int l.yr, eO l.ttl])) := rfl
theorem int_bool (b : Bool) : intD1 [.bool b] = some (.val (.int (if b = true then 1 else 0))) := rfl
theorem int_int (b : Int) : intD1 [.int b] = some (.val (.int b)) := rfl
theorem ev_with_letters {rows : List Row} (nd : (rows.map (·.1)).Nodup) (hlen : rows.length < 64) :
    callV 8 m_with_letters [.tuple (rows.map fun r => eS r.1), .list (rows.map fun r => .tuple [eL r.2.1, .bool r.2.2])] = some (.tmp (.lst (rows.map fun r => eL (labR rows r)))) := by
  have hz : mSortedZip (mCons (mVar 0) (mCons (mVar 1) mNil)) [.val (.tuple (rows.map fun r => eS r.1)), .val (.list (rows.map fun r => .tuple [eL r.2.1, .bool r.2.2])), .own none (.dct []), .own none (.dct []), .un, .un, .un, .un]
      = some (.tmp (.lst ((sortR rows).map eR)), [.val (.tuple (rows.map fun r => eS r.1)), .val (.list (rows.map fun r => .tuple [eL r.2.1, .bool r.2.2])), .own none (.dct []), .own none (.dct []), .un, .un, .un, .un]) := by
    unfold mSortedZip
    have e := sortD_rows nd
    unfold eR at e
    simp_arith [seqD, zipD_same, e]
    rfl
  have hsl : (sortR rows).length = rows.length := (sortR_perm rows).length_eq
  refine callV_eq ?_
  unfold m_with_letters
  refine WS.setK (by simp_all_arith [mDct]; rfl) (by simp_all_arith []; rfl) ?_
  refine WS.setK (by simp_all_arith [mDct]; rfl) (by simp_all_arith []; rfl) ?_
  generalize hv0 : (SV.val (.tuple (rows.map fun r => eS r.1))) = v0 at *
  generalize hv1 : (SV.val (.list (rows.map fun r => .tuple [eL r.2.1, .bool r.2.2]))) = v1 at *
  refine WS.seq (WS.for_ (xs := sortR rows) (enc := eR) (ρ1 := [v0, v1, .own none (.dct []), .own none (.dct []), .un, .un, .un, .un]) (by simp_all_arith [hz]) (fun j ρ => ∃ s4 s5 s6 s7 rk fd, ρ = [v0, v1, .own none (.dct rk), .own none (.dct fd), s4, s5, s6, s7] ∧
      (∀ l, (dget rk (kL l)).getD (.int 0) = .int (cnt ((sortR rows).take j) l)) ∧ (∀ i r, i < j → (sortR rows)[i]? = some r → dget fd (kS r.1) = some (eL (tailW (cnt ((sortR rows).take i) r.2.1) r))) ∧ rk.length ≤ j ∧ fd.length ≤ j)
    ⟨.un, .un, .un, .un, [], [], rfl, fun l => rfl, fun i r h => absurd h (Nat.not_lt_zero i), Nat.le_refl _, Nat.le_refl _⟩ ?_ ?_)
  · rintro j r ρ' hr ⟨s4, s5, s6, s7, rk, fd, rfl, h1, h2, h3, h4⟩
    have hj := (List.getElem?_eq_some_iff.mp hr).1
    have hc : cnt ((sortR rows).take j) r.2.1 ≤ 3000 := by
      have := cnt_le ((sortR rows).take j) r.2.1
      rw [List.length_take] at this
      omega
    refine ⟨[v0, v1, .own none (.dct rk), .own none (.dct fd), .val (eS r.1), .val (eL r.2.1), .val (.bool r.2.2), s7], by unfold eR; simp_all_arith [], ?_⟩
    have hfl : fd.length < sizeLine := by rw [sizeLine_eq]; omega
    have hrl : rk.length < sizeLine := by rw [sizeLine_eq]; omega
    have h1' := h1 r.2.1
    refine WS.setK (by simp_all_arith [mDGet, dctAt, keyT_L, h1']; rfl) (by simp_all_arith []; rfl) ?_
    refine WS.go (ρ1 := [v0, v1, .own none (.dct rk), .own none (.dct (dput fd (eS r.1) (kS r.1) (eL (tailW (cnt ((sortR rows).take j) r.2.1) r)))), .val (eS r.1), .val (eL r.2.1), .val (.bool r.2.2), .val (.int (cnt ((sortR rows).take j) r.2.1))]) ?_ ?_
    · obtain ⟨s, l, b⟩ := r
      cases b with
      | true =>
        simp_all_arith [mSetKey, mStar, sl4_L, ev_written_letters hc, dctAt, keyT_S, hfl]
        rfl
      | false =>
        simp_all_arith [mSetKey, mStar, sl4_L, dctAt, keyT_S, hfl]
        rfl
    · refine ⟨.nx [v0, v1, .own none (.dct (dput rk (eL r.2.1) (kL r.2.1) (.int ((cnt ((sortR rows).take j) r.2.1 : Nat) + (if r.2.2 = true then 1 else 0 : Int))))), .own none (.dct (dput fd (eS r.1) (kS r.1) (eL (tailW (cnt ((sortR rows).take j) r.2.1) r)))), .val (eS r.1), .val (eL r.2.1), .val (.bool r.2.2), .val (.int (cnt ((sortR rows).take j) r.2.1))], ?_, _, _, _, _, _, _, rfl, ?_, ?_, ?_, ?_⟩
      · simp_all_arith [mSetKey, dctAt, keyT_L, int_bool, hrl]
      · intro l
        rw [dget_put (keyD_L _), List.take_add_one, hr]
        show _ = PyData.int (cnt (_ ++ [r]) l : Nat)
        rw [cnt_snoc]
        by_cases e : r.2.1 = l
        · rw [if_pos (by rw [e])]
          subst e
          by_cases eb : r.2.2 = true
          · rw [if_pos eb, if_pos ⟨eb, rfl⟩]; rfl
          · rw [if_neg eb, if_neg (fun z => eb z.1)]
            show PyData.int ((cnt ((sortR rows).take j) r.2.1 : Nat) + 0 : Int) = _
            rw [Int.add_zero, Nat.add_zero]
        · rw [if_neg (fun z => e (kL_inj _ _ z)), if_neg (fun z => e z.2), h1 l, Nat.add_zero]
      · intro i q hi hq
        rw [dget_put (keyD_S _)]
        by_cases e : i = j
        · subst e
          rw [hr] at hq
          cases hq
          rw [if_pos rfl]
        · have hn : r.1 ≠ q.1 := by
            intro z
            have nd2 : ((sortR rows).map (·.1)).Nodup := ((sortR_perm rows).map _).nodup_iff.mpr nd
            have hi2 := (List.getElem?_eq_some_iff.mp hq).1
            exact e ((List.getElem?_inj (l := (sortR rows).map (·.1)) (by rwa [List.length_map]) nd2).mp (by rw [List.getElem?_map, List.getElem?_map, hq, hr]; exact congrArg some z.symm))
          rw [if_neg (fun z => hn (kS_inj _ _ z))]
          exact h2 i q (by omega) hq
      · have := dput_len (xs := rk) (kd := eL r.2.1) (k := kL r.2.1) (v := .int ((cnt ((sortR rows).take j) r.2.1 : Nat) + (if r.2.2 = true then 1 else 0 : Int)))
        omega
      · have := dput_len (xs := fd) (kd := eS r.1) (k := kS r.1) (v := eL (tailW (cnt ((sortR rows).take j) r.2.1) r))
        omega
  · rintro ρF ⟨s4, s5, s6, s7, rk, fd, rfl, h1, h2, h3, h4⟩
    have fnd : ∀ r ∈ rows, dget fd (kS r.1) = some (eL (labR rows r)) := fun r hr => by
      obtain ⟨i, hi, e⟩ := List.getElem_of_mem ((sortR_perm rows).mem_iff.mpr hr)
      have hq : (sortR rows)[i]? = some r := by rw [List.getElem?_eq_getElem hi, e]
      rw [h2 i r hi hq, rank_at nd hq]
      rfl
    refine WS.ret (lc_all (xs := rows) (enc := fun r => eS r.1) (ρ1 := [v0, v1, .own none (.dct rk), .own none (.dct fd), s4, s5, s6, s7]) ?_ (fun r => eL (labR rows r)) fun r hr => ⟨[v0, v1, .own none (.dct rk), .own none (.dct fd), .val (eS r.1), s5, s6, s7], rfl, rfl, .val (eL (labR rows r)), ?_, rfl⟩) rfl
    · subst hv0
      simp_all_arith []
    · have := fnd r hr
      simp_all_arith [mDX, dctAt, keyT_S, this]
set_option Elab.async false
set_option linter.all false
set_option maxRecDepth 100000
set_option maxHeartbeats 2000000
open PySem PySem.Spec PyProof.Rows L2
/-! ### general -/
theorem cut_drop (xs : List D) (n : Nat) : cutD xs (some (n : Int)) none = xs.drop n := by
  unfold cutD
  have h0 : HT.sIx xs.length 0 (some (n : Int)) = min n xs.length := HT.sIx_nat _ _ _
  have h1 : HT.sIx xs.length xs.length none = xs.length := rfl
  rw [h0, h1]
  rcases Nat.le_total n xs.length with h | h
  · rw [Nat.min_eq_left h, List.take_of_length_le (by rw [List.length_drop]; exact Nat.le_refl _)]
  · rw [Nat.min_eq_right h, List.drop_eq_nil_of_le h, List.drop_eq_nil_of_le (Nat.le_refl _)]
    simp
theorem sl_take_l (ds : List D) (n : Nat) : slD none (some (n : Int)) (.list ds) = some (.tmp (.lst (ds.take n))) := by unfold slD; dsimp only; rw [take_cut]
theorem sl_take_t (ds : List D) (n : Nat) : slD none (some (n : Int)) (.tuple ds) = some (.val (.tuple (ds.take n))) := by unfold slD; dsimp only; rw [take_cut]
theorem sl_drop_l (ds : List D) (n : Nat) : slD (some (n : Int)) none (.list ds) = some (.tmp (.lst (ds.drop n))) := by unfold slD; dsimp only; rw [cut_drop]
theorem sl_drop_t (ds : List D) (n : Nat) : slD (some (n : Int)) none (.tuple ds) = some (.val (.tuple (ds.drop n))) := by unfold slD; dsimp only; rw [cut_drop]
theorem add_l {a b : List D} (h : a.length + b.length ≤ 4096) : addD (.list a) (.list b) = some (.tmp (.lst (a ++ b))) := by
  unfold addD
  dsimp only
  rw [if_pos (by rw [sizeLine_eq]; omega)]
theorem add_t {a b : List D} (h : a.length + b.length ≤ 4096) : addD (.tuple a) (.tuple b) = some (.val (.tuple (a ++ b))) := by
  unfold addD
  dsimp only
  rw [if_pos (by rw [sizeLine_eq]; omega)]
theorem zipIdx_fst {α β : Type} (xs : List α) (F : α → β) : (xs.zipIdx.map fun q => F q.1) = xs.map F := by
  have : xs.zipIdx.map Prod.fst = xs := List.zipIdx_map_fst 0 xs
  conv => rhs; rw [← this]
  rw [List.map_map]
  rfl
theorem rangeD_ix {α : Type} (xs : List α) : rangeD 0 xs.length = xs.zipIdx.map fun q => PyData.int (q.2 : Nat) := by
  unfold rangeD
  have h : (xs.zipIdx.map fun q => q.2) = List.range xs.length := by
    have := List.zipIdx_map_snd 0 xs
    rw [List.range_eq_range']
    exact this
  rw [← h, List.map_map]
  refine List.map_congr_left fun q _ => ?_
  show PyData.int (0 + (q.2 : Int)) = _
  rw [Int.zero_add]
theorem rng1_ix {α : Type} {bd : Bool} {ma : Sl → Option (List RV × Sl)} {ρ ρ1 : Sl} (xs : List α) (h : ma ρ = some ([.val (.int xs.length)], ρ1)) (hn : xs.length ≤ 100000) : mRng1 bd ma ρ = some (xs.zipIdx.map (fun q => PyData.int (q.2 : Nat)), ρ1) := by
  rw [rng1_ok h hn, rangeD_ix]
theorem rng1_n {bd : Bool} {ma : Sl → Option (List RV × Sl)} {ρ ρ1 : Sl} {n : Nat} (h : ma ρ = some ([.val (.int n)], ρ1)) (hn : n ≤ 100000) : mRng1 bd ma ρ = some ((List.range n).map (fun i : Nat => PyData.int (i : Nat)), ρ1) := by
  rw [rng1_ok h hn]
  unfold rangeD
  congr 2
  refine List.map_congr_left fun q _ => ?_
  rw [Int.zero_add]
theorem ix_mem {α : Type} {xs : List α} {q : α × Nat} (h : q ∈ xs.zipIdx) : xs[q.2]? = some q.1 := List.mem_zipIdx_iff_getElem?.mp h
/-! ### all labels -/
def rowOf (y : Sty) (lib : List Bk) (s : Bk) : Row := (s, plainAt y s (maxN (needsOf y lib s)), decide (maxN (needsOf y lib s) = (pathOf y s).length))
def rowsOf (y : Sty) (lib : List Bk) : List Row := lib.map (rowOf y lib)
/-- the label of a source -/
def labelOf (y : Sty) (lib : List Bk) (s : Bk) : Lab := labR (rowsOf y lib) (rowOf y lib s)
theorem rowsOf_fst (y : Sty) (lib : List Bk) : (rowsOf y lib).map (·.1) = lib := by
  unfold rowsOf
  rw [List.map_map]
  exact List.map_id lib
theorem ev_all_labels {y : Sty} {lib : List Bk} (hy : SmallY y) (hl : LibOk lib) : callV 3 m_all_labels [eY y, eLib lib] = some (.tmp (.lst (lib.map fun s => eL (labelOf y lib s)))) := by
  have hlen := hl.len
  have e1 : mLc [2] (mRng1 true (mCons (mCall lenD (mCons (mVar 1) (mNil))) (mNil))) (gNm 2) (mYes) (mFn' 3 6 m_plain_label [false, false, false] [] (mCons (mVar 0) (mCons (mVar 1) (mCons (mVar 2) (mNil))))) [.val (eY y), .val (eLib lib), .un]
      = some (.tmp (.lst ((rowsOf y lib).map fun r => .tuple [eL r.2.1, .bool r.2.2])), [.val (eY y), .val (eLib lib), .un]) := by
    rw [lc_all (rng1_ix lib (ρ1 := [.val (eY y), .val (eLib lib), .un]) (by unfold eLib; simp_arith []) (by omega)) (fun q => .tuple [eL (rowOf y lib q.1).2.1, .bool (rowOf y lib q.1).2.2])]
    · rw [zipIdx_fst lib fun s => PyData.tuple [eL (rowOf y lib s).2.1, .bool (rowOf y lib s).2.2]]
      unfold rowsOf
      rw [List.map_map]
      rfl
    · intro q hq
      have pl := ev_plain_label hy hl (ix_mem hq)
      refine ⟨[.val (eY y), .val (eLib lib), .val (.int (q.2 : Nat))], rfl, rfl, .val (.tuple [eL (rowOf y lib q.1).2.1, .bool (rowOf y lib q.1).2.2]), ?_, rfl⟩
      simp_arith [pl]
      rfl
  have e2 := ev_with_letters (rows := rowsOf y lib) (by rw [rowsOf_fst]; exact hl.nd) (by unfold rowsOf; rw [List.length_map]; exact hlen)
  have e3 : ((rowsOf y lib).map fun r => eS r.1) = lib.map eS := by
    conv => rhs; rw [← rowsOf_fst y lib]
    rw [List.map_map]
    rfl
  have e4 : ((rowsOf y lib).map fun r => eL (labR (rowsOf y lib) r)) = lib.map fun s => eL (labelOf y lib s) := by
    conv => lhs; arg 2; unfold rowsOf
    rw [List.map_map]
    rfl
  rw [e3, e4] at e2
  refine callV_eq ?_
  unfold m_all_labels
  unfold eLib at e1 ⊢
  refine WS.ret (by simp_all_arith [e1, e2]; rfl) ?_
  rfl
theorem ev_label_at {y : Sty} {lib : List Bk} {i : Nat} {s : Bk} (hy : SmallY y) (hl : LibOk lib) (hi : lib[i]? = some s) : callV 3 m_label_at [eY y, eLib lib, .int i] = some (.val (eL (labelOf y lib s))) := by
  have ix : ixD (.list (lib.map fun s => eL (labelOf y lib s))) (.int i) = some (.val (eL (labelOf y lib s))) := ixl (by rw [List.getElem?_map, hi]; rfl)
  refine callV_eq ?_
  unfold m_label_at
  refine WS.ret (by simp_all_arith [ev_all_labels hy hl, ix]; rfl) ?_
  rfl
theorem ev_label_of {y : Sty} {lib : List Bk} {i : Nat} {s : Bk} (hy : SmallY y) (hl : LibOk lib) (hi : lib[i]? = some s) : callV 3 m_label_of [eY y, eLib lib, .int i] = some (.val (eL (labelOf y lib s))) := by
  refine callV_eq ?_
  unfold m_label_of
  refine WS.go (by simp_all_arith [ev_check_place hy hl (List.getElem?_eq_some_iff.mp hi).1]; rfl) ?_
  refine WS.ret (by simp_all_arith [ev_label_at hy hl hi]; rfl) ?_
  rfl
theorem needsOf_len {y : Sty} {lib : List Bk} {s : Bk} : (needsOf y lib s).length = lib.length := by unfold needsOf; rw [List.length_map]
set_option Elab.async false
set_option linter.all false
set_option maxRecDepth 100000
set_option maxHeartbeats 2000000
open PySem PySem.Spec PyProof.Rows L2
/-! ### reason -/
theorem firstD_nat (n : Nat) : ∀ {ns : List Nat}, n ∈ ns → firstD (.int n) (ns.map fun n => .int (n : Nat)) = some (ns.idxOf n)
  | [], h => nomatch h
  | m :: ns, h => by
    rw [List.map_cons, firstD, List.idxOf_cons]
    have e : PyData.eqv (.int (m : Nat)) (.int (n : Nat)) = (m == n) := by
      simp only [PyData.eqv]
      rw [Bool.eq_iff_iff, beq_iff_eq, beq_iff_eq]
      omega
    rw [e]
    by_cases q : m = n
    · rw [if_pos (by rw [beq_iff_eq]; exact q), beq_iff_eq.mpr q]
      rfl
    · have hn : n ∈ ns := (List.mem_cons.mp h).resolve_left fun z => q z.symm
      rw [if_neg (by rw [beq_iff_eq]; exact q), firstD_nat n hn, beq_eq_false_iff_ne.mpr q]
      rfl
theorem index_nat {n : Nat} {ns : List Nat} (h : n ∈ ns) : indexD (.list (ns.map fun n => .int (n : Nat))) [.int n] = some (.val (.int (ns.idxOf n : Nat))) := by
  unfold indexD
  have o : okD (.list (ns.map fun n => .int (n : Nat))) = true := okD_of (n := 1) (Ok.list fun d hd => by
    obtain ⟨m, _, rfl⟩ := List.mem_map.mp hd
    exact Ok.int)
  dsimp only
  rw [o, firstD_nat n h]
  rfl
def reasonOf (y : Sty) (lib : List Bk) (s : Bk) : Option Nat := if 0 < maxN (needsOf y lib s) then some ((needsOf y lib s).idxOf (maxN (needsOf y lib s))) else none
theorem ev_reason {y : Sty} {lib : List Bk} {i : Nat} {s : Bk} (hy : SmallY y) (hl : LibOk lib) (hi : lib[i]? = some s) : callV 5 m_reason [eY y, eLib lib, .int i] = some (.val (eN (reasonOf y lib s))) := by
  have ne : lib ≠ [] := by rintro rfl; simp at hi
  have mx := max_list (needsOf_ne (y := y) (s := s) ne)
  have nd := ev_needs_in hy hl hi
  have ixn := index_nat (maxN_mem (needsOf_ne (y := y) (s := s) ne))
  have e0 : decide ((0 : Int) < ((maxN (needsOf y lib s) : Nat) : Int)) = decide (0 < maxN (needsOf y lib s)) := by
    rw [Bool.eq_iff_iff]; simp only [decide_eq_true_eq]; omega
  refine callV_eq ?_
  unfold m_reason
  refine WS.go (by simp_all_arith [ev_check_place hy hl (List.getElem?_eq_some_iff.mp hi).1]; rfl) ?_
  generalize hA : (needsOf y lib s).map (fun n => PyData.int (n : Nat)) = A at mx nd ixn
  refine WS.go (by simp_all_arith [nd]; rfl) ?_
  unfold reasonOf
  by_cases h : 0 < maxN (needsOf y lib s)
  · rw [if_pos h]
    rw [decide_eq_true h] at e0
    refine WS.ret (by simp_all_arith [mx, e0, ixn]; rfl) ?_
    rfl
  · rw [if_neg h]
    rw [decide_eq_false h] at e0
    refine WS.ret (by simp_all_arith [mx, e0]; rfl) ?_
    rfl
set_option Elab.async false
set_option linter.all false
set_option maxRecDepth 100000
set_option maxHeartbeats 2000000
open PySem PySem.Spec PyProof.Rows L2
/-! ### the well -/
structure Well where
  a : Int
  b : Int
  c : Int
def eWl (w : Well) : OD := .lst [.int w.a, .int w.b, .int w.c]
structure OkW (n : Nat) (w : Well) : Prop where
  a0 : 0 ≤ w.a
  b0 : 0 ≤ w.b
  b1 : w.b < 2 ^ 140
  c0 : 0 ≤ w.c
  c1 : w.c + n ≤ 1000000000
theorem OkW.le {n m : Nat} {w : Well} (h : OkW n w) (k : m ≤ n) : OkW m w := ⟨h.a0, h.b0, h.b1, h.c0, by have := h.c1; omega⟩
theorem bits_le {i : Int} {k : Nat} (h0 : 0 ≤ i) (h : i < 2 ^ k) : Builtin.Int.intBits i ≤ k := by
  unfold Builtin.Int.intBits
  by_cases e : i = 0
  · subst e; simp
  · rw [if_neg (by simpa using e)]
    have hn : i.natAbs ≠ 0 := by omega
    have hl : i.natAbs < 2 ^ k := by
      have e2 : ((i.natAbs : Nat) : Int) = i := Int.natAbs_of_nonneg h0
      have e3 : ((2 ^ k : Nat) : Int) = (2 : Int) ^ k := by rw [Int.natCast_pow]; rfl
      rw [← e2, ← e3] at h
      exact_mod_cast h
    have := (Nat.log2_lt hn).mpr hl
    omega
theorem log_lt {i : Int} {k : Nat} (hk : 0 < k) (h : i.natAbs < 2 ^ k) : i.natAbs.log2 < k := by
  by_cases e : i.natAbs = 0
  · rw [e]; exact hk
  · exact (Nat.log2_lt e).mpr h
theorem pow_ok {i : Int} {n : Nat} (h0 : 0 ≤ i) (h : i < 2 ^ 250) (hn : n ≤ 1000) : powD (.int i) (.int n) = some (.val (.int (i ^ n))) := by
  unfold powD intD
  dsimp only
  have hb := bits_le h0 h
  have : CPowA i (n : Int) := by
    refine ⟨by omega, ?_⟩
    have h1 : Builtin.Int.intBits i * n ≤ 250 * 1000 := Nat.mul_le_mul hb hn
    have h2 : ((Builtin.Int.intBits i * n : Nat) : Int) ≤ ((250 * 1000 : Nat) : Int) := Int.ofNat_le.mpr h1
    rw [Int.natCast_mul] at h2
    exact Int.le_trans h2 (by decide)
  rw [if_pos this]
  rfl
theorem pow3 {i : Int} (h0 : 0 ≤ i) (h : i < 2 ^ 250) : powD (.int i) (.int 3) = some (.val (.int (i ^ 3))) := pow_ok (n := 3) h0 h (by decide)
theorem p10_18 : powD (.int 10) (.int 18) = some (.val (.int (10 ^ 18))) := pow_ok (n := 18) (by decide) (by decide) (by decide)
theorem p10_37 : powD (.int 10) (.int 37) = some (.val (.int (10 ^ 37))) := pow_ok (n := 37) (by decide) (by decide) (by decide)
theorem p10_39 : powD (.int 10) (.int 39) = some (.val (.int (10 ^ 39))) := pow_ok (n := 39) (by decide) (by decide) (by decide)
theorem p10_41 : powD (.int 10) (.int 41) = some (.val (.int (10 ^ 41))) := pow_ok (n := 41) (by decide) (by decide) (by decide)
theorem mul_ok {a b : Int} (ha : a.natAbs < 2 ^ 250) (hb : b.natAbs < 2 ^ 250) : mulD (.int a) (.int b) = some (.val (.int (a * b))) := by
  unfold mulD
  dsimp only
  have h1 := log_lt (by decide) ha
  have h2 := log_lt (by decide) hb
  rw [if_pos (by omega)]
theorem mod_ok {a b : Int} (hb : 0 < b) : modD (.int a) (.int b) = some (.val (.int (a % b))) := by
  unfold modD intD
  dsimp only
  rw [if_pos hb]
theorem div_ok {a b : Int} (hb : 0 < b) (h : b < 2 ^ 250) : divD (.int a) (.int b) = some (.val (.int (a / b))) := by
  unfold divD intD
  dsimp only
  have e : CDivW a b := ⟨hb, by
    have h2 : b.natAbs < 2 ^ 250 := by
      have e2 : ((b.natAbs : Nat) : Int) = b := Int.natAbs_of_nonneg (by omega)
      have e3 : ((2 ^ 250 : Nat) : Int) = (2 : Int) ^ 250 := by rw [Int.natCast_pow]; rfl
      rw [← e2, ← e3] at h
      exact_mod_cast h
    have := log_lt (k := 250) (by decide) h2
    omega⟩
  rw [if_pos e]
theorem ixL0 {a : D} {r : List D} : ixD (.list (a :: r)) (.int 0) = some (.val a) := ixl (i := 0) rfl
theorem ixL1 {a b : D} {r : List D} : ixD (.list (a :: b :: r)) (.int 1) = some (.val b) := ixl (i := 1) rfl
theorem ixL2 {a b c : D} {r : List D} : ixD (.list (a :: b :: c :: r)) (.int 2) = some (.val c) := ixl (i := 2) rfl
theorem int_int' (b : Int) : intD1 [.int b] = some (.val (.int b)) := rfl
theorem ixN0 {n : Nat} : ixN (n + 1) 0 = some 0 := by unfold ixN; rw [if_pos (by decide), if_pos (by omega)]; rfl
theorem ixN2 {n : Nat} : ixN (n + 3) 2 = some 2 := by unfold ixN; rw [if_pos (by decide), if_pos (by omega)]; rfl
theorem ev_draw_int {w : Well} {B n : Nat} (h : OkW B w) (hB : 1 ≤ B) (h1 : 1 ≤ n) (h2 : n < 2 ^ 200) :
    ∃ (e : Int) (w' : Well), callW 4 m__law_draw (eWl w) [.int n] = some (.val (.int e), eWl w') ∧ (0 ≤ e ∧ e < n) ∧ OkW (B - 1) w' := by
  obtain ⟨a, b, c⟩ := w
  obtain ⟨a0, b0, b1, c0, c1⟩ := h
  dsimp only at a0 b0 b1 c0 c1
  have hn : (0 : Int) < (n : Int) := by omega
  have hn2 : (n : Int) < 2 ^ 250 := by
    have e3 : ((2 ^ 250 : Nat) : Int) = (2 : Int) ^ 250 := by rw [Int.natCast_pow]; rfl
    rw [← e3]
    exact_mod_cast Nat.lt_of_lt_of_le h2 (by decide)
  suffices hh : ∃ r o', callW 4 m__law_draw (eWl ⟨a, b, c⟩) [.int n] = some (r, o') ∧ ∃ (e : Int) (w' : Well), r = .val (.int e) ∧ o' = eWl w' ∧ (0 ≤ e ∧ e < n) ∧ OkW (B - 1) w' by
    obtain ⟨r, o', q, e, w', rfl, rfl, q2, q3⟩ := hh
    exact ⟨e, w', q, q2, q3⟩
  refine callW_of ?_
  unfold m__law_draw eWl
  refine WS.seq (WS.ifB (t := decide (0 < a)) (ρ1 := [.own (some 0) (.lst [.int a, .int b, .int c]), .val (.int n), .un, .un]) (by simp_all_arith [ixL0]) (fun t => ?_) fun t => ?_)
  · have ha : 0 < a := of_decide_eq_true t
    refine WS.setK (by simp_all_arith [ixL0, int_int', mod_ok hn]; rfl) (by simp_all_arith []; rfl) ?_
    refine WS.go (ρ1 := [.own (some 0) (.lst [.int (a / n), .int b, .int c]), .val (.int n), .val (.int (a % n)), .un]) (by simp_all_arith [ixL0, div_ok hn hn2, ixN0]) ?_
    refine WS.ret (by simp_all_arith []; rfl) ?_
    exact ⟨_, _, rfl, rfl, a % n, ⟨a / n, b, c⟩, rfl, rfl, ⟨Int.emod_nonneg _ (by omega), Int.emod_lt_of_pos _ hn⟩, ⟨Int.ediv_nonneg a0 (by omega), b0, b1, c0, by dsimp only; omega⟩⟩
  · refine WS.next ?_
    dsimp only
    have hc1 : (c + 1).natAbs < 2 ^ 250 := Nat.lt_of_lt_of_le (show (c + 1).natAbs < 2 ^ 40 by omega) (by decide)
    have e1 := mul_ok (a := 735632797) (b := c + 1) (by decide) hc1
    have e2 := mul_ok (a := 179426549) (b := c + 1) (by decide) hc1
    have x1 : 0 ≤ b + 735632797 * (c + 1) := by omega
    have x2 : b + 735632797 * (c + 1) < 2 ^ 250 := Int.lt_of_lt_of_le (show b + 735632797 * (c + 1) < 2 ^ 141 by omega) (by decide)
    have e3 := pow3 x1 x2
    have p1 : (0 : Int) < 10 ^ 41 + 109 := by decide
    have p2 : (0 : Int) < 10 ^ 39 + 3 := by decide
    have e4 := mod_ok (a := (b + 735632797 * (c + 1)) ^ 3) p1
    generalize (b + 735632797 * (c + 1)) ^ 3 = z at e3 e4
    have z1 := Int.emod_nonneg z (show (10 : Int) ^ 41 + 109 ≠ 0 by decide)
    have z2 := Int.emod_lt_of_pos z p1
    generalize z % (10 ^ 41 + 109) = u at e4 z1 z2
    have x3 : 0 ≤ u + 179426549 * (c + 1) := by omega
    have x4 : u + 179426549 * (c + 1) < 2 ^ 250 := Int.lt_of_lt_of_le (show u + 179426549 * (c + 1) < 2 ^ 141 by omega) (by decide)
    have e5 := pow3 x3 x4
    have e6 := mod_ok (a := (u + 179426549 * (c + 1)) ^ 3) p2
    generalize (u + 179426549 * (c + 1)) ^ 3 = z' at e5 e6
    have z3 := Int.emod_nonneg z' (show (10 : Int) ^ 39 + 3 ≠ 0 by decide)
    generalize z' % (10 ^ 39 + 3) = u' at e6 z3
    have e7 := div_ok (a := u') (b := 1048576) (by decide) (by decide)
    have e8 := mod_ok (a := u' / 1048576) hn
    refine WS.go (ρ1 := [.own (some 0) (.lst [.int a, .int b, .int (c + 1)]), .val (.int n), .un, .un]) (by simp_all_arith [ixL2, ixN2]) ?_
    refine WS.setK (by simp_all_arith [ixL1, ixL2, e1, int_int', e3, p10_41, e4]; rfl) (by simp_all_arith []; rfl) ?_
    refine WS.setK (by simp_all_arith [ixL2, e2, int_int', e5, p10_39, e6]; rfl) (by simp_all_arith []; rfl) ?_
    refine WS.ret (by simp_all_arith [e7, int_int', e8]; rfl) ?_
    exact ⟨_, _, rfl, rfl, u' / 1048576 % n, ⟨a, b, c + 1⟩, rfl, rfl, ⟨Int.emod_nonneg _ (by omega), Int.emod_lt_of_pos _ hn⟩, ⟨a0, b0, b1, by dsimp only; omega, by dsimp only; omega⟩⟩
theorem ev_draw {w : Well} {B : Nat} (h : OkW B w) (m : Int) (h1 : 1 ≤ m := by omega) (h2 : m < 2 ^ 200 := by omega) (hB : 1 ≤ B := by omega) :
    ∃ (d : Nat) (w' : Well), callW 4 m__law_draw (eWl w) [.int m] = some (.val (.int d), eWl w') ∧ (d : Int) < m ∧ OkW (B - 1) w' := by
  have em : ((m.toNat : Nat) : Int) = m := Int.toNat_of_nonneg (by omega)
  have hl : m.toNat < 2 ^ 200 := by
    have e3 : ((2 ^ 200 : Nat) : Int) = (2 : Int) ^ 200 := by rw [Int.natCast_pow]; rfl
    rw [← em, ← e3] at h2
    exact_mod_cast h2
  obtain ⟨e, w', q, ⟨q1, q2⟩, q3⟩ := ev_draw_int (n := m.toNat) h hB (by omega) hl
  rw [em] at q q2
  refine ⟨e.toNat, w', ?_, by omega, q3⟩
  rw [q, Int.toNat_of_nonneg q1]
theorem len_scr (ns : List Int) : lenD [.dict (scrK ns)] = some (.val (.int ns.length)) := by
  have e : (scrK ns).length = ns.length := by unfold scrK; rw [List.length_map]
  rw [← e]
  rfl
theorem ix_scr {ns : List Int} {i : Nat} {n : Int} (h : ns[i]? = some n) : ixD (.dict (scrK ns)) (.int i) = some (.val (.int n)) := by
  show (atI (scrK ns) i).map _ = _
  rw [atI_nat (x := (.int n, .none)) (by unfold scrK; rw [List.getElem?_map, h]; rfl)]
  rfl
theorem ev_well (ns : List Int) (at' : Nat) (h : at' ≤ 100) : ∃ w, callV 3 m__law_well [.dict (scrK ns), .int at'] = some (.tmp (eWl w)) ∧ OkW 900000000 w := by
  have key : ∀ cell : Int, WS (mRet (mLst (mCons (mCall maxD (mCons (mC (.int 0)) (mCons (m2 subD (mCall absD (mCons (mVar 2) (mNil))) (m2 powD (mC (.int 10)) (mC (.int 18)))) (mNil)))) (mCons (m2 addD (m2 addD (m2 mulD (m2 modD (mCall intD1 (mCons (mVar 2) (mNil))) (m2 addD (m2 powD (mC (.int 10)) (mC (.int 37))) (mC (.int 79)))) (mC (.int 97))) (m2 mulD (mC (.int 61)) (mVar 1))) (mC (.int 37))) (mCons (mC (.int 0)) (mNil))))))
      [.val (.dict (scrK ns)), .val (.int at'), .val (.int cell)] fun f => match f with
        | .nx _ => False
        | .rt r ρf => ∃ r', ret ρf r = some r' ∧ ∃ w, r' = .tmp (eWl w) ∧ OkW 900000000 w
        | _ => False := by
    intro cell
    have p1 : (0 : Int) < 10 ^ 37 + 79 := by decide
    have e1 := mod_ok (a := cell) p1
    have z1 := Int.emod_nonneg cell (show (10 : Int) ^ 37 + 79 ≠ 0 by decide)
    have z2 := Int.emod_lt_of_pos cell p1
    generalize cell % (10 ^ 37 + 79) = u at e1 z1 z2
    have e2 := mul_ok (a := u) (b := 97) (Nat.lt_of_lt_of_le (show u.natAbs < 2 ^ 141 by omega) (by decide)) (by decide)
    have e3 := mul_ok (a := 61) (b := (at' : Int)) (by decide) (Nat.lt_of_lt_of_le (show (at' : Int).natAbs < 2 ^ 40 by omega) (by decide))
    have ab : absD [.int cell] = some (.val (.int (if cell < 0 then -cell else cell))) := rfl
    have mx : ∀ x : Int, maxD [.int 0, .int x] = some (.val (.int (max 0 x))) := fun x => by
      unfold maxD
      dsimp only
      congr 3
      split <;> omega
    refine WS.ret (by simp_all_arith [int_int', p10_37, p10_18, e1, e2, e3, ab, mx]; rfl) ?_
    refine ⟨_, rfl, ⟨max 0 ((if cell < 0 then -cell else cell) - 10 ^ 18), u * 97 + 61 * at' + 37, 0⟩, rfl, ?_, ?_, ?_, ?_, ?_⟩ <;> dsimp only
    · omega
    · omega
    · omega
    · omega
    · omega
  suffices hh : ∃ r, callV 3 m__law_well [.dict (scrK ns), .int at'] = some r ∧ ∃ w, r = .tmp (eWl w) ∧ OkW 900000000 w by
    obtain ⟨r, q, w, rfl, o⟩ := hh
    exact ⟨w, q, o⟩
  refine callV_of ?_
  unfold m__law_well
  by_cases c : at' < ns.length
  · have c' : decide (at' < ns.length) = true := decide_eq_true c
    have ix : ixD (.dict (scrK ns)) (.int at') = some (.val (.int ns[at'])) := ix_scr (List.getElem?_eq_getElem c)
    refine WS.setK (by simp_all_arith [len_scr, c', ix]; rfl) (by simp_all_arith []; rfl) ?_
    refine (key ns[at']).imp fun f hf => ?_
    cases f with
    | nx ρ => exact hf.elim
    | rt r ρ => exact hf
    | bk ρ => exact hf
    | ct ρ => exact hf
  · have c' : decide (at' < ns.length) = false := decide_eq_false c
    refine WS.setK (by simp_all_arith [len_scr, c']; rfl) (by simp_all_arith []; rfl) ?_
    refine (key 0).imp fun f hf => ?_
    cases f with
    | nx ρ => exact hf.elim
    | rt r ρ => exact hf
    | bk ρ => exact hf
    | ct ρ => exact hf
set_option Elab.async false
set_option linter.all false
set_option maxRecDepth 100000
set_option maxHeartbeats 2000000
open PySem PySem.Spec PyProof.Rows L2
/-! ### names, titles -/
def nameB (x : Str) : Bool := x.cps.toList.all lowC && (decide (1 ≤ x.cps.size) && decide (x.cps.size ≤ 12))
theorem nameB_ok {x : Str} (h : nameB x = true) : NameOk x := by
  unfold nameB at h
  simp only [Bool.and_eq_true, decide_eq_true_eq, List.all_eq_true] at h
  exact ⟨h.1, h.2.1, h.2.2⟩
theorem menu_ok {xs : List Str} (h : xs.all nameB = true) : ∀ x ∈ xs, NameOk x := fun x hx => nameB_ok (List.all_eq_true.mp h x hx)
theorem sg_low {d : Nat} (h : d < 26) : lowS (sg d) := fun c hc => by
  have e : c = 97 + d := by simpa [sg] using hc
  subst e
  unfold lowC
  simp only [Bool.and_eq_true, decide_eq_true_eq]
  omega
theorem lowS_app {a b : Str} (ha : lowS a) (hb : lowS b) : lowS (a ++ b) := fun c hc => by
  have e : (a ++ b).cps = a.cps ++ b.cps := rfl
  rw [e, Array.toList_append] at hc
  rcases List.mem_append.mp hc with q | q
  · exact ha c q
  · exact hb c q
def titleB (t : Str) : Bool := decide (1 ≤ t.cps.size) && (decide (t.cps.size ≤ 40) && ((Txt.split t " ").all (fun x => x.cps.toList.all lowC && (decide (1 ≤ x.cps.size) && decide (x.cps.size ≤ 40))) && PyData.strOk t))
theorem titleB_ok {t : Str} (h : titleB t = true) : TitleOk t := by
  unfold titleB at h
  simp only [Bool.and_eq_true, decide_eq_true_eq, List.all_eq_true] at h
  exact ⟨h.1, h.2.1, h.2.2.1, h.2.2.2⟩
theorem titles_ok {xs : List Str} (h : xs.all titleB = true) : ∀ x ∈ xs, TitleOk x := fun x hx => titleB_ok (List.all_eq_true.mp h x hx)
theorem tl_space : TL.tl " " = [32] := by decide +kernel
theorem joinL_size : ∀ (r : List Str) (x : Str), (TL.joinL [32] ((x :: r).map TL.tl)).length + 1 ≤ ((x :: r).map fun x => x.cps.size).sum + (x :: r).length
  | [], x => by simp [TL.joinL, TL.tl]
  | z :: r, x => by
    have := joinL_size r z
    simp only [List.map_cons, TL.joinL, List.length_append, List.length_cons, List.length_nil, List.sum_cons, TL.tl, Array.length_toList] at this ⊢
    omega
theorem joinL_pos : ∀ (xs : List Str), xs ≠ [] → (∀ x ∈ xs, 1 ≤ x.cps.size) → 1 ≤ (TL.joinL [32] (xs.map TL.tl)).length
  | [], h, _ => absurd rfl h
  | [x], _, h => by
    have := h x List.mem_cons_self
    simpa [TL.joinL, TL.tl] using this
  | x :: z :: r, _, h => by
    have := h x List.mem_cons_self
    simp only [List.map_cons, TL.joinL, List.length_append, List.length_cons, List.length_nil, TL.tl, Array.length_toList]
    omega
theorem joinL_codes : ∀ (xs : List Str), (∀ x ∈ xs, lowS x) → ∀ c ∈ TL.joinL [32] (xs.map TL.tl), lowC c = true ∨ c = 32
  | [], _, c, hc => nomatch hc
  | [x], h, c, hc => .inl (h x List.mem_cons_self c hc)
  | x :: z :: r, h, c, hc => by
    simp only [List.map_cons, TL.joinL] at hc
    rcases List.mem_append.mp hc with q | q
    · exact .inl (h x List.mem_cons_self c q)
    · rcases List.mem_append.mp q with q | q
      · exact .inr (List.mem_singleton.mp q)
      · exact joinL_codes (z :: r) (fun y hy => h y (List.mem_cons_of_mem _ hy)) c q
theorem joined_title {xs : List Str} (hn : xs ≠ []) (h : ∀ x ∈ xs, lowS x ∧ 1 ≤ x.cps.size ∧ x.cps.size ≤ 40) (hs : (xs.map fun x => x.cps.size).sum + xs.length ≤ 41) : TitleOk (Txt.join " " xs) := by
  have et : TL.tl (Txt.join " " xs) = TL.joinL [32] (xs.map TL.tl) := by rw [TL.join_eq, TL.tl_join, tl_space]
  have hz : (Txt.join " " xs).cps.size = (TL.joinL [32] (xs.map TL.tl)).length := by rw [← et, TL.tl, Array.length_toList]
  have h2 : (TL.joinL [32] (xs.map TL.tl)).length + 1 ≤ (xs.map fun x => x.cps.size).sum + xs.length := by
    cases xs with
    | nil => exact absurd rfl hn
    | cons x r => exact joinL_size r x
  refine ⟨?_, ?_, ?_, ?_⟩
  · rw [hz]; exact joinL_pos xs hn fun x hx => (h x hx).2.1
  · rw [hz]; omega
  · rw [TL.split_join tl_space (by decide +kernel) hn fun p hp hc => by
      have := (h p hp).1 32 hc
      exact absurd this (by decide)]
    exact h
  · unfold PyData.strOk
    rw [← Array.all_toList, List.all_eq_true]
    intro c hc
    have hc' : c ∈ TL.tl (Txt.join " " xs) := hc
    rw [et] at hc'
    rw [decide_eq_true_eq]
    rcases joinL_codes xs (fun x hx => (h x hx).1) c hc' with q | q
    · unfold lowC at q
      simp only [Bool.and_eq_true, decide_eq_true_eq] at q
      omega
    · omega
theorem join_ok {xs : List Str} (h : (xs.map fun x => x.cps.size).sum + xs.length ≤ 4096) : joinD (.str " ") [.list (xs.map .str)] = some (.val (.str (Txt.join " " xs))) := by
  unfold joinD
  dsimp only
  rw [strsD_map]
  dsimp only
  have e : ((" " : Str)).length = 1 := by decide +kernel
  rw [e, if_pos]
  have : (xs.map fun x : Str => x.length) = xs.map fun x => x.cps.size := rfl
  rw [this]
  omega
theorem sum_le {α : Type} (f : α → Nat) (k : Nat) : ∀ xs : List α, (∀ x ∈ xs, f x ≤ k) → (xs.map f).sum ≤ k * xs.length
  | [], _ => by simp
  | x :: xs, h => by
    have h1 := h x List.mem_cons_self
    have h2 := sum_le f k xs fun y hy => h y (List.mem_cons_of_mem _ hy)
    rw [List.map_cons, List.sum_cons, List.length_cons, Nat.mul_add]
    omega
set_option Elab.async false
set_option linter.all false
set_option maxRecDepth 100000
set_option maxHeartbeats 2000000
open PySem PySem.Spec PyProof.Rows L2
theorem map_erase {α : Type} (f : α → D) (xs : List α) (i : Nat) : (xs.map f).eraseIdx i = (xs.eraseIdx i).map f := by
  rw [List.eraseIdx_eq_take_drop_succ, List.eraseIdx_eq_take_drop_succ, List.map_append, List.map_take, List.map_drop]
theorem popAt_ok {ds : List D} {i : Nat} (h : i < ds.length) (hl : ds.length ≤ 4096) : popAtD ds [.int i] = some (ds[i], ds.eraseIdx i) := by
  unfold popAtD
  dsimp only
  rw [iteC_pos ⟨by omega, by omega⟩]
  have e : seqIndex? (i : Int) ds.length = some i := (ixN_seq (by unfold ixN; rw [if_pos (by omega), if_pos (by omega)]; rfl)).1
  rw [e]
  dsimp only
  rw [List.getElem?_eq_getElem h]
theorem popAt_map {α : Type} {f : α → D} {xs : List α} {i : Nat} (h : i < xs.length) (hl : xs.length ≤ 4096) : popAtD (xs.map f) [.int i] = some (f xs[i], (xs.eraseIdx i).map f) := by
  rw [popAt_ok (by rwa [List.length_map]) (by rwa [List.length_map]), List.getElem_map, map_erase]
theorem pop_perm {α : Type} {xs acc : List α} {i : Nat} (h : i < xs.length) : (acc ++ [xs[i]] ++ xs.eraseIdx i).Perm (acc ++ xs) := by
  rw [List.append_assoc]
  refine (List.Perm.refl acc).append ?_
  have e : xs = xs.take i ++ xs[i] :: xs.drop (i + 1) := by rw [← List.drop_eq_getElem_cons h, List.take_append_drop]
  rw [List.eraseIdx_eq_take_drop_succ]
  conv => rhs; rw [e]
  exact (show (xs[i] :: (xs.take i ++ xs.drop (i + 1))).Perm (xs.take i ++ xs[i] :: xs.drop (i + 1)) from List.perm_middle.symm)
def allW : List Wd := [.nm, .al, .fi, .ii, .fg, .gv, .tt]
def eNs (ns : List Nat) : List D := ns.map fun n => PyData.int (n : Nat)
set_option Elab.async false
set_option linter.all false
set_option maxRecDepth 100000
set_option maxHeartbeats 2000000
open PySem PySem.Spec PyProof.Rows L2
/-! ### k66: what is drawn -/
theorem ev_drawn {w : Well} {B : Nat} (h : OkW B w) {menu : List Str} (hm : ∀ x ∈ menu, NameOk x) (hl : 1 ≤ menu.length ∧ menu.length ≤ 100) (hB : 20 ≤ B := by omega) :
    ∃ (x : Str) (w' : Well), callW 4 m__law_drawn (eWl w) [.list (menu.map .str)] = some (.val (.str x), eWl w') ∧ NameOk x ∧ OkW (B - 20) w' := by
  suffices hh : ∃ r o', callW 4 m__law_drawn (eWl w) [.list (menu.map .str)] = some (r, o') ∧ ∃ (x : Str) (w' : Well), r = .val (.str x) ∧ o' = eWl w' ∧ NameOk x ∧ OkW (B - 20) w' by
    obtain ⟨r, o', q, x, w', rfl, rfl, q2, q3⟩ := hh
    exact ⟨x, w', q, q2, q3⟩
  refine callW_of ?_
  unfold m__law_drawn
  obtain ⟨d1, w1, e1, b1, o1⟩ := ev_draw h 5
  refine WS.seq (WS.ifB (t := decide (0 < (d1 : Int))) (ρ1 := [.own (some 0) (eWl w1), .val (.list (menu.map .str)), .un, .un]) (by simp_all_arith [e1]) (fun t => ?_) fun t => ?_)
  · obtain ⟨d2, w2, e2, b2, o2⟩ := ev_draw o1 (menu.length : Int)
    have hd : d2 < menu.length := by omega
    have ix : ixD (.list (menu.map .str)) (.int d2) = some (.val (.str menu[d2])) := ixl (by rw [List.getElem?_map, List.getElem?_eq_getElem hd]; rfl)
    refine WS.ret (by simp_all_arith [e2, ix]; rfl) ?_
    exact ⟨_, _, rfl, rfl, _, w2, rfl, rfl, hm _ (List.getElem_mem hd), o2.le (by omega)⟩
  · refine WS.next ?_
    dsimp only
    refine WS.setK (by simp_all_arith []; rfl) (by simp_all_arith []; rfl) ?_
    obtain ⟨d3, w3, e3, b3, o3⟩ := ev_draw o1 12
    refine WS.seq (WS.for_ (rng1_n (n := d3 + 1) (ρ1 := [.own (some 0) (eWl w3), .val (.list (menu.map .str)), .val (.str ""), .un]) (by simp_all_arith [e3]; rw [Int.add_comm]; rfl) (by omega)) (fun j ρ => ∃ w' x s, ρ = [.own (some 0) (eWl w'), .val (.list (menu.map .str)), .val (.str x), s] ∧ OkW (B - 2 - j) w' ∧ lowS x ∧ x.cps.size = j)
      ⟨w3, "", .un, rfl, o3.le (by omega), fun c hc => (by cases hc), rfl⟩ ?_ ?_)
    · rintro j i ρ' hi ⟨w', x, s, rfl, o4, l4, z4⟩
      have hj := (List.getElem?_eq_some_iff.mp hi).1
      rw [List.length_range] at hj
      obtain ⟨d5, w5, e5, b5, o5⟩ := ev_draw o4 26
      have ix5 := let_ix (m := d5) (by omega)
      have ad := add_str (a := x) (b := sg d5) (by show x.cps.size + 1 ≤ 4096; omega)
      refine ⟨_, rfl, WS.set (by simp_all_arith [e5, ix5, ad]; rfl) (by simp_all_arith []; rfl) ⟨w5, x ++ sg d5, _, rfl, o5.le (by omega), lowS_app l4 (sg_low (by omega)), ?_⟩⟩
      rw [app_size, z4]
      rfl
    · rintro ρF ⟨w', x, s, rfl, o4, l4, z4⟩
      rw [List.length_range] at o4 z4
      refine WS.ret (by simp_all_arith []; rfl) ?_
      exact ⟨_, _, rfl, rfl, x, w', rfl, rfl, ⟨l4, by omega, by omega⟩, o4.le (by omega)⟩
theorem ev_person {w : Well} {B : Nat} (h : OkW B w) (hB : 40 ≤ B := by omega) : ∃ (p : Pr) (w' : Well), callW 2 m__law_person (eWl w) [] = some (.val (eP p), eWl w') ∧ PrOk p ∧ OkW (B - 40) w' := by
  suffices hh : ∃ r o', callW 2 m__law_person (eWl w) [] = some (r, o') ∧ ∃ (p : Pr) (w' : Well), r = .val (eP p) ∧ o' = eWl w' ∧ PrOk p ∧ OkW (B - 40) w' by
    obtain ⟨r, o', q, x, w', rfl, rfl, q2, q3⟩ := hh
    exact ⟨x, w', q, q2, q3⟩
  refine callW_of ?_
  unfold m__law_person
  obtain ⟨x1, w1, e1, b1, o1⟩ := ev_drawn h (menu := ["smith", "smit", "a", "ab", "lee", "abcdefghijkl"]) (menu_ok (by decide +kernel)) (by decide)
  obtain ⟨x2, w2, e2, b2, o2⟩ := ev_drawn o1 (menu := ["jo", "j", "john", "ann", "a", "joe", "bo"]) (menu_ok (by decide +kernel)) (by decide)
  simp only [List.map_cons, List.map_nil] at e1 e2
  refine WS.setK (by simp_all_arith [e1]; rfl) (by simp_all_arith []; rfl) ?_
  refine WS.ret (by simp_all_arith [e2]; rfl) ?_
  exact ⟨_, _, rfl, rfl, (x1, x2), w2, rfl, rfl, ⟨b1, b2⟩, o2.le (by omega)⟩
def b40 : Str := Txt.mul "b" 40
theorem b40_ok : TitleOk b40 := titleB_ok (by decide +kernel)
theorem mul_b40 : mulB (.str "b") (.int 40) = some (.val (.str b40)) := by
  rw [mulB_str]
  · rfl
  · refine ⟨by decide, fun _ _ => ?_, fun _ _ => ?_⟩
    · show ¬ ((((("b" : Str).length : Nat)) : Int) > (2 ^ 63 - 1) / 40)
      decide +kernel
    · show Builtin.Str.tooLong (("b" : Str).length * 40) = false
      decide +kernel
theorem ev_source {w : Well} {B : Nat} (h : OkW B w) {most : Nat} (hm : 1 ≤ most ∧ most ≤ 50) (hB : 3000 ≤ B := by omega) :
    ∃ (s : Bk) (w' : Well), callW 6 m__law_source (eWl w) [.int most] = some (.val (eS s), eWl w') ∧ (BkOk s ∧ s.ppl.length ≤ most) ∧ OkW (B - 3000) w' := by
  suffices hh : ∃ r o', callW 6 m__law_source (eWl w) [.int most] = some (r, o') ∧ ∃ (s : Bk) (w' : Well), r = .val (eS s) ∧ o' = eWl w' ∧ (BkOk s ∧ s.ppl.length ≤ most) ∧ OkW (B - 3000) w' by
    obtain ⟨r, o', q, x, w', rfl, rfl, q2, q3⟩ := hh
    exact ⟨x, w', q, q2, q3⟩
  refine callW_of ?_
  unfold m__law_source
  obtain ⟨d1, w1, e1, b1, o1⟩ := ev_draw h (most : Int)
  obtain ⟨acc, ρh, e2, ps, w2, rfl, rfl, o2, q1, q2⟩ := lc_rel (vs := [5]) (g := gNm 5) (t := mYes) (e := mFn' 1 2 m__law_person [true] [] (mCons (mVar 0) (mNil)))
    (mi := mRng1 true (mCons (m2 addD (mC (.int 1)) (mFn' 2 4 m__law_draw [true, false] [] (mCons (mVar 0) (mCons (mVar 1) (mNil))))) (mNil))) (ρ := [.own (some 0) (eWl w), .val (.int most), .un, .un, .un, .un])
    (fun j acc ρ => ∃ (ps : List Pr) (w' : Well), acc = ps.map eP ∧ ρ = [.own (some 0) (eWl w'), .val (.int most), .un, .un, .un, .un] ∧ OkW (B - 1 - 40 * j) w' ∧ (∀ p ∈ ps, PrOk p) ∧ ps.length = j)
    (rng1_n (n := d1 + 1) (ρ1 := [.own (some 0) (eWl w1), .val (.int most), .un, .un, .un, .un]) (by simp_all_arith [e1]; rw [Int.add_comm]; rfl) (by omega))
    ⟨[], w1, rfl, rfl, o1.le (by omega), fun x hx => (nomatch hx), rfl⟩
    (fun j acc ρ' ⟨_, _, _, e, _⟩ => by rw [e]; rfl)
    (fun j i acc ρh hi ⟨ps, w', q1, q2, q3, q4, q5⟩ => by
      subst q1 q2
      have hj := (List.getElem?_eq_some_iff.mp hi).1
      rw [List.length_range] at hj
      obtain ⟨p, w5, e5, b5, o5⟩ := ev_person q3
      refine ⟨_, true, _, rfl, rfl, fun z => (nomatch z), fun _ => ⟨.val (eP p), [.own (some 0) (eWl w5), .val (.int most), .un, .un, .un, .val (.int i)], eP p, [.own (some 0) (eWl w5), .val (.int most), .un, .un, .un, .val (.int i)], by simp_all_arith [e5], rfl, ps ++ [p], w5, by rw [List.map_append]; rfl, rfl, o5.le (by omega), fun y hy => ?_, by simp [q5]⟩⟩
      rcases List.mem_append.mp hy with z | z
      · exact q4 y z
      · rw [List.mem_singleton.mp z]; exact b5)
  rw [List.length_range] at q2 o2
  refine WS.setK (r := .val (.tuple (ps.map eP))) (ρ1 := [.own (some 0) (eWl w2), .val (.int most), .un, .un, .un, .un]) (by simp_all_arith [e2, tup_list]; rfl) (by simp_all_arith []; rfl) ?_
  obtain ⟨d3, w3, e3, b3, o3⟩ := ev_draw o2 (10 ^ 39) (by decide) (by decide)
  obtain ⟨d4, w4, e4, b4, o4⟩ := ev_draw o3 6
  have hd : d4 < ([2020, 2020, 2021, 0, 10 ^ 39, (d3 : Int)] : List Int).length := by show d4 < 6; omega
  have ix : ixD (.list (([2020, 2020, 2021, 0, 10 ^ 39, (d3 : Int)] : List Int).map .int)) (.int d4) = some (.val (.int (([2020, 2020, 2021, 0, 10 ^ 39, (d3 : Int)] : List Int)[d4]))) := ixl (by rw [List.getElem?_map, List.getElem?_eq_getElem hd]; rfl)
  have hy : 0 ≤ ([2020, 2020, 2021, 0, 10 ^ 39, (d3 : Int)] : List Int)[d4] := by
    have : ∀ x ∈ ([2020, 2020, 2021, 0, 10 ^ 39, (d3 : Int)] : List Int), 0 ≤ x := by
      intro x hx
      simp only [List.mem_cons, List.not_mem_nil, or_false] at hx
      omega
    exact this _ (List.getElem_mem hd)
  generalize ([2020, 2020, 2021, 0, 10 ^ 39, (d3 : Int)] : List Int)[d4] = yr at ix hy
  simp only [List.map_cons, List.map_nil] at ix
  refine WS.setK (by simp_all_arith [p10_39, e3, e4, ix]; rfl) (by simp_all_arith []; rfl) ?_
  obtain ⟨d5, w5, e5, b5, o5⟩ := ev_draw o4 5
  refine WS.seq (WS.ifB (t := decide (0 < (d5 : Int))) (ρ1 := [.own (some 0) (eWl w5), .val (.int most), .val (.tuple (ps.map eP)), .val (.int yr), .un, .un]) (by simp_all_arith [e5]) (fun t => ?_) fun t => ?_)
  · obtain ⟨d6, w6, e6, b6, o6⟩ := ev_draw o5 5
    have hd6 : d6 < (["a", "a b", "on tides", "on tide", b40] : List Str).length := by show d6 < 5; omega
    have ix6 : ixD (.list ((["a", "a b", "on tides", "on tide", b40] : List Str).map .str)) (.int d6) = some (.val (.str ((["a", "a b", "on tides", "on tide", b40] : List Str)[d6]))) := ixl (by rw [List.getElem?_map, List.getElem?_eq_getElem hd6]; rfl)
    have ht : TitleOk ((["a", "a b", "on tides", "on tide", b40] : List Str)[d6]) := titles_ok (xs := ["a", "a b", "on tides", "on tide", b40]) (by decide +kernel) _ (List.getElem_mem hd6)
    generalize (["a", "a b", "on tides", "on tide", b40] : List Str)[d6] = tt at ix6 ht
    simp only [List.map_cons, List.map_nil] at ix6
    refine WS.ret (by simp_all_arith [mul_b40, e6, ix6]; rfl) ?_
    exact ⟨_, _, rfl, rfl, ⟨ps, yr, tt⟩, w6, rfl, rfl, ⟨⟨by rintro rfl; simp at q2, q1, hy, ht⟩, by show ps.length ≤ most; omega⟩, o6.le (by omega)⟩
  · refine WS.next ?_
    dsimp only
    obtain ⟨d6, w6, e6, b6, o6⟩ := ev_draw o5 3
    obtain ⟨acc, ρh, e7, xs, w7, rfl, rfl, o7, r1, r2⟩ := lc_rel (vs := [5]) (g := gNm 5) (t := mYes)
      (e := mFn' 2 4 m__law_drawn [true, false] [] (mCons (mVar 0) (mCons (mLst (mCons (mC (.str "on")) (mCons (mC (.str "a")) (mCons (mC (.str "abcdefghijkl")) (mNil))))) (mNil))))
      (mi := mRng1 true (mCons (m2 addD (mC (.int 1)) (mFn' 2 4 m__law_draw [true, false] [] (mCons (mVar 0) (mCons (mC (.int 3)) (mNil))))) (mNil))) (ρ := [.own (some 0) (eWl w5), .val (.int most), .val (.tuple (ps.map eP)), .val (.int yr), .un, .un])
      (fun j acc ρ => ∃ (xs : List Str) (w' : Well), acc = xs.map .str ∧ ρ = [.own (some 0) (eWl w'), .val (.int most), .val (.tuple (ps.map eP)), .val (.int yr), .un, .un] ∧ OkW (B - 1 - 40 * (d1 + 1) - 4 - 20 * j) w' ∧ (∀ x ∈ xs, NameOk x) ∧ xs.length = j)
      (rng1_n (n := d6 + 1) (ρ1 := [.own (some 0) (eWl w6), .val (.int most), .val (.tuple (ps.map eP)), .val (.int yr), .un, .un]) (by simp_all_arith [e6]; rw [Int.add_comm]; rfl) (by omega))
      ⟨[], w6, rfl, rfl, o6.le (by omega), fun x hx => (nomatch hx), rfl⟩
      (fun j acc ρ' ⟨_, _, _, e, _⟩ => by rw [e]; rfl)
      (fun j i acc ρh hi ⟨xs, w', q1, q2, q3, q4, q5⟩ => by
        subst q1 q2
        have hj := (List.getElem?_eq_some_iff.mp hi).1
        rw [List.length_range] at hj
        obtain ⟨x, w8, e8, b8, o8⟩ := ev_drawn q3 (menu := ["on", "a", "abcdefghijkl"]) (menu_ok (by decide +kernel)) (by decide)
        simp only [List.map_cons, List.map_nil] at e8
        refine ⟨_, true, _, rfl, rfl, fun z => (nomatch z), fun _ => ⟨.val (.str x), [.own (some 0) (eWl w8), .val (.int most), .val (.tuple (ps.map eP)), .val (.int yr), .un, .val (.int i)], .str x, [.own (some 0) (eWl w8), .val (.int most), .val (.tuple (ps.map eP)), .val (.int yr), .un, .val (.int i)], by simp_all_arith [e8], rfl, xs ++ [x], w8, by rw [List.map_append]; rfl, rfl, o8.le (by omega), fun y hy => ?_, by simp [q5]⟩⟩
        rcases List.mem_append.mp hy with z | z
        · exact q4 y z
        · rw [List.mem_singleton.mp z]; exact b8)
    rw [List.length_range] at r2 o7
    refine WS.setK (r := .tmp (.lst (xs.map .str))) (ρ1 := [.own (some 0) (eWl w7), .val (.int most), .val (.tuple (ps.map eP)), .val (.int yr), .un, .un]) e7 (by simp_all_arith []; rfl) ?_
    have hsum := sum_le (fun x : Str => x.cps.size) 12 xs fun x hx => (r1 x hx).hi
    have jn := join_ok (xs := xs) (by omega)
    refine WS.ret (by simp_all_arith [jn]; rfl) ?_
    exact ⟨_, _, rfl, rfl, ⟨ps, yr, Txt.join " " xs⟩, w7, rfl, rfl, ⟨⟨by rintro rfl; simp at q2, q1, hy, joined_title (by rintro rfl; simp at r2) (fun x hx => ⟨(r1 x hx).low, (r1 x hx).lo, by have := (r1 x hx).hi; omega⟩) (by omega)⟩, by show ps.length ≤ most; omega⟩, o7.le (by omega)⟩
set_option Elab.async false
set_option linter.all false
set_option maxRecDepth 100000
set_option maxHeartbeats 2000000
open PySem PySem.Spec PyProof.Rows L2
/-! ### the law's own condition -/
theorem ttl_ne {o : Option Str} {t : Str} (ho : ∀ x, o = some x → sok x) (ht : sok t) (h : o ≠ none) : neD (eO o) (.str t) = some (.val (.bool (!ttlFits o t))) := by
  cases o with
  | none => exact absurd rfl h
  | some x => exact ne_str (ho x rfl) ht
theorem notmem3 {p a b c : Str} (hp : sok p) (ha : sok a) (hb : sok b) (hc : sok c) : inA true (.str p) (.tuple [.str a, .str b, .str c]) = some (.val (.bool (!(decide (p = a) || (decide (p = b) || decide (p = c)))))) := by
  have m := mem3 hp ha hb hc
  unfold inA at m ⊢
  dsimp only at m ⊢
  split at m
  · rename_i h
    rw [if_pos h]
    simp only [Bool.false_eq_true, if_false, Option.some.injEq, RV.val.injEq, PyData.bool.injEq] at m
    simp only [if_true, m]
  · cases m
def pairFits (l : Lab) (s : Bk) (k : Nat) : Bool := match l.prs[k]?, s.ppl[k]? with
  | some p, some q => decide (p.1 = q.1) && partFits p.2 q.2
  | _, _ => true
theorem zip_all_at {l : Lab} {s : Bk} (h : l.prs.length ≤ s.ppl.length) : ((l.prs.zip s.ppl).all fun q => decide (q.1.1 = q.2.1) && partFits q.1.2 q.2.2) = true ↔ ∀ k, k < l.prs.length → pairFits l s k = true := by
  rw [List.all_eq_true]
  constructor
  · intro H k hk
    have hk2 : k < s.ppl.length := by omega
    unfold pairFits
    rw [List.getElem?_eq_getElem hk, List.getElem?_eq_getElem hk2]
    have := H (l.prs[k], s.ppl[k]) (by
      rw [List.mem_iff_getElem?]
      exact ⟨k, by rw [List.getElem?_zip_eq_some]; exact ⟨List.getElem?_eq_getElem hk, List.getElem?_eq_getElem hk2⟩⟩)
    exact this
  · intro H q hq
    obtain ⟨k, hk⟩ := List.mem_iff_getElem?.mp hq
    rw [List.getElem?_zip_eq_some] at hk
    have := H k (List.getElem?_eq_some_iff.mp hk.1).1
    unfold pairFits at this
    rw [hk.1, hk.2] at this
    exact this
theorem ev_lfits {l : Lab} {s : Bk} (hl : LabOk l) (hs : BkOk s) (hn : l.prs.length ≤ 1000) : callV 12 m__law_fits [eL l, eS s] = some (.val (.bool (fits l s))) := by
  refine callV_eq ?_
  unfold m__law_fits
  have i0 : ixD (eS s) (.int 0) = some (.val (.tuple (s.ppl.map eP))) := ix0
  have i1 : ixD (eS s) (.int 1) = some (.val (.int s.yr)) := ix1
  have i2 : ixD (eS s) (.int 2) = some (.val (.str s.ttl)) := ix2
  refine WS.go (ρ1 := [.val (eL l), .val (eS s), .val (.tuple (l.prs.map eP)), .val (.bool l.more), .val (.int l.yr), .val (eO l.ttl), .val (.str l.lt), .un, .un, .un, .un, .un]) (by unfold eL; simp_all_arith []) ?_
  refine WS.setK (by simp_all_arith [i0]; rfl) (by simp_all_arith []; rfl) ?_
  have c0 : (mTOr (mB (m2 neD (mVar 4) (m2 ixD (mVar 1) (mC (.int 1))))) (mTAnd (mB (mIsN true (mVar 5))) (mB (m2 neD (mVar 5) (m2 ixD (mVar 1) (mC (.int 2)))))))
      [.val (eL l), .val (eS s), .val (.tuple (l.prs.map eP)), .val (.bool l.more), .val (.int l.yr), .val (eO l.ttl), .val (.str l.lt), .val (.tuple (s.ppl.map eP)), .un, .un, .un, .un]
      = some (!(decide (l.yr = s.yr) && ttlFits l.ttl s.ttl), [.val (eL l), .val (eS s), .val (.tuple (l.prs.map eP)), .val (.bool l.more), .val (.int l.yr), .val (eO l.ttl), .val (.str l.lt), .val (.tuple (s.ppl.map eP)), .un, .un, .un, .un]) := by
    cases e1 : decide (l.yr = s.yr) with
    | false => simp_all_arith [i1, e1]
    | true =>
      have hT := hl.ttl
      cases ho : l.ttl with
      | none => simp_all_arith [i1, i2, e1, eO, ttlFits]
      | some u =>
        have tn := ne_str (hT u ho) hs.ttl.ok
        simp_all_arith [i1, i2, e1, eO, ttlFits, tn]
  refine WS.seq (WS.ifB c0 (fun t => ?_) fun t => ?_)
  · refine WS.ret (by simp_all_arith []; rfl) ?_
    have : fits l s = false := by
      unfold fits
      rw [Bool.not_eq_true'] at t
      rw [← Bool.and_assoc, t]
      rfl
    rw [this]
    rfl
  · refine WS.next ?_
    dsimp only
    have ty : (decide (l.yr = s.yr) && ttlFits l.ttl s.ttl) = true := by simpa using t
    have c1 : (mTOr (mTAnd (mB (mVar 3)) (mB (m2 leD (mCall lenD (mCons (mVar 7) (mNil))) (mCall lenD (mCons (mVar 2) (mNil)))))) (mTAnd (mTNot (mB (mVar 3))) (mB (m2 neD (mCall lenD (mCons (mVar 7) (mNil))) (mCall lenD (mCons (mVar 2) (mNil)))))))
        [.val (eL l), .val (eS s), .val (.tuple (l.prs.map eP)), .val (.bool l.more), .val (.int l.yr), .val (eO l.ttl), .val (.str l.lt), .val (.tuple (s.ppl.map eP)), .un, .un, .un, .un]
        = some (!(decide (l.prs.length ≤ s.ppl.length) && (decide (l.prs.length < s.ppl.length) == l.more)), [.val (eL l), .val (eS s), .val (.tuple (l.prs.map eP)), .val (.bool l.more), .val (.int l.yr), .val (eO l.ttl), .val (.str l.lt), .val (.tuple (s.ppl.map eP)), .un, .un, .un, .un]) := by
      have q1 : ((l.prs.length : Int) = (s.ppl.length : Int)) = (l.prs.length = s.ppl.length) := by
        rw [eq_iff_iff]; omega
      have q2 : ((s.ppl.length : Int) = (l.prs.length : Int)) = (l.prs.length = s.ppl.length) := by
        rw [eq_iff_iff]; omega
      cases l.more with
      | true =>
        by_cases z : s.ppl.length ≤ l.prs.length
        · have z1 : decide (s.ppl.length ≤ l.prs.length) = true := decide_eq_true z
          have z2 : decide (l.prs.length < s.ppl.length) = false := decide_eq_false (by omega)
          simp_all_arith [z1, z2]
          simp
        · have z1 : decide (s.ppl.length ≤ l.prs.length) = false := decide_eq_false z
          have z2 : decide (l.prs.length < s.ppl.length) = true := decide_eq_true (by omega)
          have z3 : decide (l.prs.length ≤ s.ppl.length) = true := decide_eq_true (by omega)
          simp_all_arith [z1, z2, z3]
      | false =>
        by_cases z : l.prs.length = s.ppl.length
        · have z1 : decide (l.prs.length = s.ppl.length) = true := decide_eq_true z
          have z2 : decide (l.prs.length < s.ppl.length) = false := decide_eq_false (by omega)
          have z3 : decide (l.prs.length ≤ s.ppl.length) = true := decide_eq_true (by omega)
          simp_all_arith [q2, z1, z2, z3]
        · have z1 : decide (l.prs.length = s.ppl.length) = false := decide_eq_false z
          by_cases y : l.prs.length < s.ppl.length
          · have z2 : decide (l.prs.length < s.ppl.length) = true := decide_eq_true y
            simp_all_arith [q2, z1, z2]
            simp
          · have z2 : decide (l.prs.length ≤ s.ppl.length) = false := decide_eq_false (by omega)
            simp_all_arith [q2, z1, z2]
    refine WS.seq (WS.ifB c1 (fun t1 => ?_) fun t1 => ?_)
    · refine WS.ret (by simp_all_arith []; rfl) ?_
      have : fits l s = false := by
        unfold fits
        rw [Bool.not_eq_true'] at t1
        rw [← Bool.and_assoc, ty, Bool.true_and, ← Bool.and_assoc, t1]
        rfl
      rw [this]
      rfl
    · refine WS.next ?_
      dsimp only
      rw [Bool.not_eq_false', Bool.and_eq_true] at t1
      have hle : l.prs.length ≤ s.ppl.length := of_decide_eq_true t1.1
      have ef : fits l s = (l.prs.zip s.ppl).all fun q => decide (q.1.1 = q.2.1) && partFits q.1.2 q.2.2 := by
        unfold fits
        rw [← Bool.and_assoc, ty, Bool.true_and, t1.1, t1.2]
        rfl
      refine WS.seq (WS.for_ (rng1_n (n := l.prs.length) (ρ1 := [.val (eL l), .val (eS s), .val (.tuple (l.prs.map eP)), .val (.bool l.more), .val (.int l.yr), .val (eO l.ttl), .val (.str l.lt), .val (.tuple (s.ppl.map eP)), .un, .un, .un, .un]) (by simp_all_arith []) (by omega))
        (fun j ρ => (∃ s8 s9 s10 s11, ρ = [.val (eL l), .val (eS s), .val (.tuple (l.prs.map eP)), .val (.bool l.more), .val (.int l.yr), .val (eO l.ttl), .val (.str l.lt), .val (.tuple (s.ppl.map eP)), s8, s9, s10, s11]) ∧ ∀ k, k < j → pairFits l s k = true)
        ⟨⟨.un, .un, .un, .un, rfl⟩, fun k hk => absurd hk (Nat.not_lt_zero k)⟩ ?_ ?_)
      · rintro j i ρ' hi ⟨⟨s8, s9, s10, s11, rfl⟩, hb⟩
        have hj := (List.getElem?_eq_some_iff.mp hi).1
        have ei := (List.getElem?_eq_some_iff.mp hi).2
        rw [List.getElem_range] at ei
        subst ei
        rw [List.length_range] at hj
        have hd : j < s.ppl.length := by omega
        have hq := hs.ppl _ (List.getElem_mem hd)
        have hp := hl.prs _ (List.getElem_mem hj)
        have ixa : ixD (.tuple (l.prs.map eP)) (.int j) = some (.val (eP l.prs[j])) := ixn (by rw [List.getElem?_map, List.getElem?_eq_getElem hj]; rfl)
        have ixb : ixD (.tuple (s.ppl.map eP)) (.int j) = some (.val (eP s.ppl[j])) := ixn (by rw [List.getElem?_map, List.getElem?_eq_getElem hd]; rfl)
        have ad := add_str (a := ⟨#[s.ppl[j].2.cps.getD 0 0]⟩) (b := ".") (by
          have : (Str.ofString ".").cps.size = 1 := by decide +kernel
          rw [this]
          exact (by decide : 1 + 1 ≤ 4096))
        have nm := notmem3 (p := l.prs[j].2) (a := "") (b := s.ppl[j].2) (c := ini s.ppl[j].2) hp.2 (by unfold sok; decide +kernel) hq.2.low.ok (ini_sok hq.2)
        have ef2 : pairFits l s j = (decide (l.prs[j].1 = s.ppl[j].1) && partFits l.prs[j].2 s.ppl[j].2) := by
          unfold pairFits
          rw [List.getElem?_eq_getElem hj, List.getElem?_eq_getElem hd]
        unfold ini at nm
        have nf := ne_str hp.1 hq.1.low.ok
        refine ⟨_, rfl, ?_⟩
        refine WS.go (ρ1 := [.val (eL l), .val (eS s), .val (.tuple (l.prs.map eP)), .val (.bool l.more), .val (.int l.yr), .val (eO l.ttl), .val (.str l.lt), .val (.tuple (s.ppl.map eP)), .val (.int j), .val (.str l.prs[j].1), .val (.str l.prs[j].2), s11]) (by simp_all_arith [ixa, eP]) ?_
        refine WS.setK (by simp_all_arith [ixb, ixP1]; rfl) (by simp_all_arith []; rfl) ?_
        refine WS.ifB (t := !pairFits l s j) (ρ1 := [.val (eL l), .val (eS s), .val (.tuple (l.prs.map eP)), .val (.bool l.more), .val (.int l.yr), .val (eO l.ttl), .val (.str l.lt), .val (.tuple (s.ppl.map eP)), .val (.int j), .val (.str l.prs[j].1), .val (.str l.prs[j].2), .val (.str s.ppl[j].2)]) ?_ (fun t2 => ?_) fun t2 => ?_
        · rw [ef2]
          cases e : decide (l.prs[j].1 = s.ppl[j].1) with
          | false => simp_all_arith [ixb, ixP0, nf, e]
          | true =>
            simp_all_arith [ixb, ixP0, nf, e, ix_str0 hq.2, ad, nm]
            rfl
        · refine WS.ret (by simp_all_arith []; rfl) ?_
          have : fits l s = false := by
            rw [ef]
            cases e : (l.prs.zip s.ppl).all fun q => decide (q.1.1 = q.2.1) && partFits q.1.2 q.2.2 with
            | false => rfl
            | true =>
              have := (zip_all_at hle).mp e j hj
              rw [this] at t2
              cases t2
          rw [this]
          rfl
        · refine WS.next ⟨⟨_, _, _, _, rfl⟩, fun k hk => ?_⟩
          rcases Nat.lt_or_ge k j with z | z
          · exact hb k z
          · rw [show k = j by omega]; simpa using t2
      · rintro ρF ⟨⟨s8, s9, s10, s11, rfl⟩, hb⟩
        rw [List.length_range] at hb
        refine WS.ret (by simp_all_arith []; rfl) ?_
        rw [ef, (zip_all_at hle).mpr hb]
        rfl
set_option Elab.async false
set_option linter.all false
set_option maxRecDepth 100000
set_option maxHeartbeats 2000000
open PySem PySem.Spec PyProof.Rows L2
/-! ### repeats dropped -/
section
variable {α β : Type} [DecidableEq α] [DecidableEq β]
theorem pushN_last (A : List α) (x : α) : (pushN A x).getLast? = some x := by
  unfold pushN
  split
  · assumption
  · simp
theorem fold_last (A xs : List α) : (xs.foldl pushN A).getLast? = (xs.getLast?).or A.getLast? := by
  rcases List.eq_nil_or_concat xs with rfl | ⟨ys, x, rfl⟩
  · simp
  · rw [List.concat_eq_append, List.foldl_append]
    show (pushN _ x).getLast? = _
    rw [pushN_last]
    simp
theorem noRep_last (xs : List α) : (noRep xs).getLast? = xs.getLast? := by
  unfold noRep
  rw [fold_last]
  simp
theorem noRep_snoc (xs : List α) (x : α) : noRep (xs ++ [x]) = pushN (noRep xs) x := by
  unfold noRep
  rw [List.foldl_append]
  rfl
theorem push_map {g : α → β} {A : List α} {x : α} (h : ∀ a ∈ A, g a = g x → a = x) : pushN (A.map g) (g x) = (pushN A x).map g := by
  unfold pushN
  rw [List.getLast?_map]
  by_cases e : A.getLast? = some x
  · rw [if_pos e, if_pos (by rw [e]; rfl)]
  · rw [if_neg e, if_neg]
    · simp
    · intro z
      cases q : A.getLast? with
      | none => rw [q] at z; cases z
      | some u =>
        rw [q] at z
        have hu : u ∈ A := List.mem_of_getLast? q
        exact e (by rw [q, h u hu (Option.some.inj z)])
theorem fold_map {g : α → β} : ∀ (xs A : List α), (∀ a ∈ A ++ xs, ∀ b ∈ A ++ xs, g a = g b → a = b) → (xs.map g).foldl pushN (A.map g) = (xs.foldl pushN A).map g
  | [], _, _ => rfl
  | x :: xs, A, h => by
    rw [List.map_cons, List.foldl_cons, List.foldl_cons, push_map fun a ha e => h a (List.mem_append_left _ ha) x (List.mem_append_right _ List.mem_cons_self) e]
    refine fold_map xs _ fun a ha b hb e => ?_
    have sub : ∀ z, z ∈ pushN A x ++ xs → z ∈ A ++ x :: xs := fun z hz => by
      rcases List.mem_append.mp hz with q | q
      · unfold pushN at q
        split at q
        · exact List.mem_append_left _ q
        · rcases List.mem_append.mp q with q | q
          · exact List.mem_append_left _ q
          · rw [List.mem_singleton.mp q]; exact List.mem_append_right _ List.mem_cons_self
      · exact List.mem_append_right _ (List.mem_cons_of_mem _ q)
    exact h a (sub a ha) b (sub b hb) e
theorem noRep_map {g : α → β} {xs : List α} (h : ∀ a ∈ xs, ∀ b ∈ xs, g a = g b → a = b) : noRep (xs.map g) = (noRep xs).map g := fold_map xs [] (by simpa using h)
end
/-! ### the law's own path -/
def stepR (size : Nat) (q : Stat × List Stat) (a : Wd) : Stat × List Stat :=
  ((nxtS q.1 a size).getLastD q.1, q.2 ++ (if a = .nm then nxtS q.1 a size else []) ++ [(nxtS q.1 a size).getLastD q.1])
def rawT (y : Sty) (size : Nat) : Stat × List Stat := y.steps.foldl (stepR size) (firstState y size, [firstState y size])
theorem raw_fold {β : Type} [DecidableEq β] (f : Stat → β) (n : Nat) : ∀ (ws : List Wd) (t : Stat) (R S : List Stat), noRep (R.map f) = noRep (S.map f) → (noRep (S.map f)).getLast? = some (f t) →
    noRep ((ws.foldl (stepR n) (t, R)).2.map f) = noRep ((S ++ statesFrom t ws n).map f)
  | [], t, R, S, h, _ => by simpa [statesFrom] using h
  | a :: ws, t, R, S, h, hl => by
    rw [List.foldl_cons]
    have key : noRep ((R ++ (if a = .nm then nxtS t a n else []) ++ [(nxtS t a n).getLastD t]).map f) = noRep ((S ++ nxtS t a n).map f) ∧ (noRep ((S ++ nxtS t a n).map f)).getLast? = some (f ((nxtS t a n).getLastD t)) := by
      have last : (noRep ((S ++ nxtS t a n).map f)).getLast? = some (f ((nxtS t a n).getLastD t)) := by
        rw [noRep_last] at hl ⊢
        cases q : nxtS t a n with
        | nil => simpa using hl
        | cons u us =>
          rw [getLastD_eq _ t (by simp), List.map_append, List.getLast?_append, List.getLast?_map, List.getLast?_eq_some_getLast (by simp)]
          rfl
      refine ⟨?_, last⟩
      by_cases e : a = .nm
      · rw [if_pos e]
        rw [List.map_append, List.map_cons, List.map_nil, noRep_snoc]
        have e2 : noRep ((R ++ nxtS t a n).map f) = noRep ((S ++ nxtS t a n).map f) := by
          unfold noRep at h ⊢
          rw [List.map_append, List.map_append, List.foldl_append, List.foldl_append, h]
        rw [e2]
        unfold pushN
        rw [if_pos last]
      · rw [if_neg e, List.append_nil]
        have e3 : nxtS t a n = [(nxtS t a n).getLastD t] := by
          cases a <;> first | exact absurd rfl e | rfl
        conv => rhs; rw [e3]
        unfold noRep at h ⊢
        rw [List.map_append, List.map_append, List.foldl_append, List.foldl_append, h]
    have := raw_fold f n ws ((nxtS t a n).getLastD t) _ (S ++ nxtS t a n) key.1 key.2
    rw [List.append_assoc S] at this
    exact this
theorem raw_eq {β : Type} [DecidableEq β] (f : Stat → β) (y : Sty) (n : Nat) : noRep ((rawT y n).2.map f) = noRep ((statesOf y n).map f) :=
  raw_fold f n y.steps _ _ [firstState y n] rfl (by simp [noRep, pushN])
/-! ### what a label tells of its state -/
theorem ini_size (g : Str) : (ini g).cps.size = 2 := by
  unfold ini
  rw [app_size]
  rfl
theorem ini_ne {g : Str} (h : NameOk g) : ini g ≠ g := fun e => by
  have m : (46 : Nat) ∈ (ini g).cps.toList := by
    have : (ini g).cps = #[g.cps.getD 0 0] ++ #[46] := rfl
    rw [this]
    simp
  rw [e] at m
  have := h.low 46 m
  exact absurd this (by decide)
theorem partBy_inj {g : Str} (h : NameOk g) {a b : Nat} (ha : a ≤ 2) (hb : b ≤ 2) (e : partBy g a = partBy g b) : a = b := by
  have hs := h.lo
  have h0 : ("" : Str) ≠ ini g := fun z => by
    have : ("" : Str).cps.size = (ini g).cps.size := congrArg (fun x : Str => x.cps.size) z
    rw [ini_size] at this
    exact absurd this (by decide)
  have h1 : ("" : Str) ≠ g := fun z => by
    rw [← z] at hs
    exact absurd hs (by decide)
  have h2 := ini_ne h
  rcases (by omega : a = 0 ∨ a = 1 ∨ a = 2) with rfl | rfl | rfl <;> rcases (by omega : b = 0 ∨ b = 1 ∨ b = 2) with rfl | rfl | rfl <;> first
    | rfl
    | exact absurd e h0
    | exact absurd e.symm h0
    | exact absurd e h1
    | exact absurd e.symm h1
    | exact absurd e h2
    | exact absurd e.symm h2
theorem prOf_at {s : Bk} {t : Stat} {i : Nat} (h : i < t.many) (h2 : i < s.ppl.length) : (labPairs s t)[i]? = some (s.ppl[i].1, partBy s.ppl[i].2 (if 0 < i then t.rest else t.first)) := by
  unfold labPairs
  rw [List.getElem?_take, if_pos h, List.getElem?_map, List.getElem?_zipIdx, List.getElem?_eq_getElem h2]
  simp
theorem labPairs_len (s : Bk) (t : Stat) : (labPairs s t).length = min t.many s.ppl.length := by
  unfold labPairs
  rw [List.length_take, List.length_map, List.length_zipIdx]
structure StOk (n : Nat) (t : Stat) : Prop where
  lo : 1 ≤ t.many
  hi : t.many ≤ n
  lvl : Lvl t
theorem first_ok {y : Sty} (hy : StyOk y) {n : Nat} (hn : 1 ≤ n) : StOk n (firstState y n) := by
  have h1 := hy.lo
  have h2 := hy.hi
  unfold firstState
  refine ⟨?_, ?_, Nat.zero_le _, Nat.zero_le _⟩ <;> dsimp only <;> split <;> omega
theorem nxt_ok {n : Nat} {t : Stat} {a : Wd} (hn : 1 ≤ n) (h : StOk n t) : ∀ u ∈ nxtS t a n, StOk n u := by
  intro u hu
  have hl := nxtS_lvl h.lvl u hu
  have h1 := h.lo
  have h2 := h.hi
  cases a <;> simp only [nxtS, List.mem_singleton, List.mem_map, List.mem_range] at hu
  · obtain ⟨i, hi, rfl⟩ := hu
    exact ⟨by show 1 ≤ t.many + 1 + i; omega, by show t.many + 1 + i ≤ n; omega, hl⟩
  all_goals (subst hu; exact ⟨by first | exact h1 | exact hn, by first | exact h2 | exact Nat.le_refl _, hl⟩)
theorem lastD_ok {n : Nat} {t : Stat} {a : Wd} (hn : 1 ≤ n) (h : StOk n t) : StOk n ((nxtS t a n).getLastD t) := by
  rcases getLastD_mem (n := nxtS t a n) (t := t) with e | e
  · rw [e]; exact h
  · exact nxt_ok hn h _ e
theorem from_ok {n : Nat} (hn : 1 ≤ n) : ∀ (ws : List Wd) (t : Stat), StOk n t → ∀ u ∈ statesFrom t ws n, StOk n u
  | [], _, _, u, hu => nomatch hu
  | a :: ws, t, h, u, hu => by
    unfold statesFrom at hu
    rcases List.mem_append.mp hu with q | q
    · exact nxt_ok hn h u q
    · exact from_ok hn ws _ (lastD_ok hn h) u q
theorem states_ok {y : Sty} (hy : StyOk y) {n : Nat} (hn : 1 ≤ n) : ∀ u ∈ statesOf y n, StOk n u := fun u hu => by
  unfold statesOf at hu
  rcases List.mem_cons.mp hu with q | q
  · rw [q]; exact first_ok hy hn
  · exact from_ok hn _ _ (first_ok hy hn) u q
theorem shown_ok {n : Nat} {t : Stat} (h : StOk n t) : StOk n (shownS t) := ⟨h.lo, h.hi, shownS_lvl h.lvl⟩
theorem labelBy_shown (s : Bk) (t : Stat) : labelBy s (shownS t) = labelBy s t := by
  have e : labPairs s (shownS t) = labPairs s t := by
    apply List.ext_getElem?
    intro i
    by_cases h : i < t.many
    · by_cases h2 : i < s.ppl.length
      · rw [prOf_at (t := shownS t) h h2, prOf_at h h2]
        unfold shownS
        dsimp only
        by_cases c : 1 < t.many
        · rw [if_pos c]
        · rw [if_neg (show ¬ 0 < i by omega), if_neg (show ¬ 0 < i by omega)]
      · rw [List.getElem?_eq_none (by rw [labPairs_len]; omega), List.getElem?_eq_none (by rw [labPairs_len]; omega)]
    · rw [List.getElem?_eq_none (by rw [labPairs_len]; show min t.many _ ≤ i; omega), List.getElem?_eq_none (by rw [labPairs_len]; omega)]
  unfold labelBy
  rw [e]
  rfl
/-- equal labels of a source are of equal shown states -/
theorem labelBy_inj {s : Bk} (hs : BkOk s) {t u : Stat} (ht : StOk s.ppl.length t) (hu : StOk s.ppl.length u) (e : labelBy s (shownS t) = labelBy s (shownS u)) : shownS t = shownS u := by
  have e' := e
  unfold labelBy at e'
  simp only [Lab.mk.injEq] at e'
  obtain ⟨e1, e2, _, e4, _⟩ := e'
  have em : t.many = u.many := by
    have := congrArg List.length e1
    rw [labPairs_len, labPairs_len] at this
    have q1 : (shownS t).many = t.many := rfl
    have q2 : (shownS u).many = u.many := rfl
    have := ht.hi
    have := hu.hi
    omega
  have p0 : 0 < s.ppl.length := by have := ht.lo; have := ht.hi; omega
  have lt := (shown_ok ht).lvl
  have lu := (shown_ok hu).lvl
  have ef : t.first = u.first := by
    have a1 := prOf_at (s := s) (t := shownS t) (i := 0) ht.lo p0
    have a2 := prOf_at (s := s) (t := shownS u) (i := 0) hu.lo p0
    rw [e1, a2] at a1
    have := congrArg Prod.snd (Option.some.inj a1)
    dsimp only at this
    rw [if_neg (by decide), if_neg (by decide)] at this
    exact (partBy_inj (hs.ppl _ (List.getElem_mem p0)).2 lu.1 lt.1 this).symm
  have er : (shownS t).rest = (shownS u).rest := by
    by_cases c : 1 < t.many
    · have p1 : 1 < s.ppl.length := by have := ht.hi; omega
      have a1 := prOf_at (s := s) (t := shownS t) (i := 1) c p1
      have a2 := prOf_at (s := s) (t := shownS u) (i := 1) (by show 1 < u.many; omega) p1
      rw [e1, a2] at a1
      have := congrArg Prod.snd (Option.some.inj a1)
      dsimp only at this
      rw [if_pos (by decide), if_pos (by decide)] at this
      exact (partBy_inj (hs.ppl _ (List.getElem_mem p1)).2 lu.2 lt.2 this).symm
    · unfold shownS
      dsimp only
      rw [if_neg c, if_neg (by omega)]
  have et : t.ttl = u.ttl := by
    have q1 : (shownS t).ttl = t.ttl := rfl
    have q2 : (shownS u).ttl = u.ttl := rfl
    rw [q1, q2] at e4
    cases h1 : t.ttl <;> cases h2 : u.ttl <;> rw [h1, h2] at e4 <;> first | rfl | exact absurd e4 (by simp)
  have : ∀ a b : Stat, a.many = b.many → a.first = b.first → a.rest = b.rest → a.ttl = b.ttl → a = b := fun a b h1 h2 h3 h4 => by
    cases a; cases b; simp_all
  exact this _ _ em ef er et
/-- the path is the law's own one -/
theorem path_raw {y : Sty} {s : Bk} (hy : StyOk y) (hs : BkOk s) : pathOf y s = noRep ((rawT y s.ppl.length).2.map (labelBy s)) := by
  have hn : 1 ≤ s.ppl.length := List.length_pos_iff.mpr hs.ne
  rw [raw_eq]
  unfold pathOf seenOf
  rw [← noRep_map, List.map_map]
  · congr 1
    exact List.map_congr_left fun t _ => labelBy_shown s t
  · intro a ha b hb e
    obtain ⟨t, ht, rfl⟩ := List.mem_map.mp ha
    obtain ⟨u, hu, rfl⟩ := List.mem_map.mp hb
    exact labelBy_inj hs (states_ok hy hn t ht) (states_ok hy hn u hu) e
set_option Elab.async false
set_option linter.all false
set_option maxRecDepth 100000
set_option maxHeartbeats 2000000
open PySem PySem.Spec PyProof.Rows L2
/-! ### needs, places, reasons in plain words -/
def spotsOf (ns : List Nat) : List Nat := (ns.zipIdx.filter fun q => decide (q.1 = maxN ns)).map (·.2)
theorem spots_head (m : Nat) : ∀ (ns : List Nat) (k : Nat), m ∈ ns → (((ns.zipIdx k).filter fun q => decide (q.1 = m)).map (·.2)).head? = some (ns.idxOf m + k)
  | [], _, h => nomatch h
  | n :: ns, k, h => by
    rw [List.zipIdx_cons, List.filter_cons, List.idxOf_cons]
    by_cases e : n = m
    · subst e
      simp
    · have hm : m ∈ ns := (List.mem_cons.mp h).resolve_left fun z => e z.symm
      rw [if_neg (by simpa using e), spots_head m ns (k + 1) hm, beq_eq_false_iff_ne.mpr e]
      simp
      omega
theorem spotsOf_head {ns : List Nat} (h : ns ≠ []) : (spotsOf ns).head? = some (ns.idxOf (maxN ns)) := spots_head _ ns 0 (maxN_mem h)
theorem mem_spots {ns : List Nat} {i : Nat} : i ∈ spotsOf ns ↔ ns[i]? = some (maxN ns) := by
  unfold spotsOf
  simp only [List.mem_map, List.mem_filter, decide_eq_true_eq]
  constructor
  · rintro ⟨⟨n, j⟩, ⟨h1, h2⟩, rfl⟩
    have := ix_mem h1
    dsimp only at this h2 ⊢
    rw [this, h2]
  · intro h
    exact ⟨(maxN ns, i), ⟨List.mem_zipIdx_iff_getElem?.mpr h, rfl⟩, rfl⟩
theorem spots_nodup (ns : List Nat) : (spotsOf ns).Nodup := by
  have h1 : (ns.zipIdx.map (·.2)).Nodup := by
    have : ns.zipIdx.map (·.2) = List.range' 0 ns.length := List.zipIdx_map_snd 0 ns
    rw [this]
    exact List.nodup_range'
  unfold spotsOf
  exact ((List.filter_sublist (l := ns.zipIdx)).map (·.2)).nodup h1
/-- the need of s against o, as a number -/
def needVal (y : Sty) (s o : Bk) : Nat := if o = s then 0 else (needIn (pathOf y s) o).getD (pathOf y s).length
theorem needsOf_eq (y : Sty) (lib : List Bk) (s : Bk) : needsOf y lib s = lib.map (needVal y s) := rfl
theorem needVal_le (y : Sty) (s o : Bk) : needVal y s o ≤ (pathOf y s).length := by
  unfold needVal
  split
  · exact Nat.zero_le _
  · cases e : needIn (pathOf y s) o with
    | none => exact Nat.le_refl _
    | some i =>
      unfold needIn at e
      rw [List.findIdx?_eq_some_iff_getElem] at e
      obtain ⟨h, _⟩ := e
      exact Nat.le_of_lt h
theorem max_needs_le {y : Sty} {lib : List Bk} {s : Bk} (h : lib ≠ []) : maxN (needsOf y lib s) ≤ (pathOf y s).length := by
  have := maxN_mem (needsOf_ne (y := y) (s := s) h)
  rw [needsOf_eq] at this
  obtain ⟨o, _, e⟩ := List.mem_map.mp this
  rw [needsOf_eq, ← e]
  exact needVal_le y s o
theorem wl_low (n : Nat) (f : Str) (hf : lowS f) : lowS (wl n f) := by
  induction n using Nat.strongRecOn generalizing f with
  | ind n ih =>
    cases n with
    | zero => rw [wl_zero]; exact hf
    | succ n =>
      rw [wl_succ]
      refine ih (n / 26) (by omega) _ fun c hc => ?_
      have e : (sg (n % 26) ++ f).cps = #[97 + n % 26] ++ f.cps := rfl
      rw [e, Array.toList_append] at hc
      rcases List.mem_append.mp hc with q | q
      · have e : c = 97 + n % 26 := by simpa using q
        rw [e]
        unfold lowC
        simp only [Bool.and_eq_true, decide_eq_true_eq]
        omega
      · exact hf c q
theorem labelOf_lt (y : Sty) (lib : List Bk) (s : Bk) : sok (labelOf y lib s).lt := by
  show sok (if _ then _ else _)
  split
  · exact (wl_low _ "" (fun c hc => by cases hc)).ok
  · unfold sok; decide +kernel
theorem labelOf_letters {y : Sty} {lib : List Bk} {s : Bk} (h : lib ≠ []) : decide ((labelOf y lib s).lt = "") = decide (maxN (needsOf y lib s) < (pathOf y s).length) := by
  have le := max_needs_le (y := y) (s := s) h
  rw [Bool.eq_iff_iff, decide_eq_true_eq, decide_eq_true_eq]
  show (if decide (maxN (needsOf y lib s) = (pathOf y s).length) = true then wl (rankR (rowsOf y lib) (rowOf y lib s) + 1) "" else "") = "" ↔ _
  by_cases e : maxN (needsOf y lib s) = (pathOf y s).length
  · rw [decide_eq_true e, if_pos rfl]
    constructor
    · intro z
      have := wl_pos (rankR (rowsOf y lib) (rowOf y lib s))
      rw [z] at this
      exact absurd this (by decide)
    · intro z; omega
  · rw [decide_eq_false e, if_neg (by decide)]
    exact ⟨fun _ => by omega, fun _ => rfl⟩
set_option Elab.async false
set_option linter.all false
set_option maxRecDepth 100000
set_option maxHeartbeats 2000000
open PySem PySem.Spec PyProof.Rows L2
/-! ### parts, pairs, labels: valid ones -/
def PartOk (p : Str) : Prop := p = "" ∨ NameOk p ∨ ∃ g, NameOk g ∧ p = ini g
theorem dot_size : (Str.ofString ".").cps.size = 1 := by decide +kernel
theorem dot_sok : sok "." := by unfold sok; decide +kernel
theorem ini_cps (g : Str) : (ini g).cps = #[g.cps.getD 0 0] ++ #[46] := rfl
theorem ini_sz (g : Str) : (ini g).cps.size = 2 := rfl
theorem PartOk.sok {p : Str} (h : PartOk p) : sok p := by
  rcases h with rfl | h | ⟨g, h, rfl⟩
  · unfold Wk.sok; decide +kernel
  · exact h.low.ok
  · exact ini_sok h
theorem PartOk.size {p : Str} (h : PartOk p) : p.cps.size ≤ 12 := by
  rcases h with rfl | h | ⟨g, h, rfl⟩
  · exact (by decide : ("" : Str).cps.size ≤ 12)
  · exact h.hi
  · rw [ini_sz]; decide
theorem name_ne {x : Str} (h : NameOk x) : x ≠ "" := fun e => by
  have := h.lo
  rw [e] at this
  exact absurd this (by decide)
theorem ini_ne0 (g : Str) : ini g ≠ "" := fun e => by
  have : (ini g).cps.size = ("" : Str).cps.size := congrArg (fun x : Str => x.cps.size) e
  rw [ini_sz] at this
  exact absurd this (by decide)
theorem eq0_name {x : Str} (h : NameOk x) : eqD (.str x) (.str "") = some (.val (.bool false)) := by
  rw [eq_str h.low.ok (by decide +kernel), decide_eq_false (name_ne h)]
theorem ini_notlow (g : Str) : (ini g).cps.toList.all lowC = false := by
  rw [List.all_eq_false]
  exact ⟨46, by rw [ini_cps]; simp, by decide⟩
theorem first_ok1 {g : Str} (h : NameOk g) : lowC (g.cps.getD 0 0) = true := by
  have hlo := h.lo
  refine h.low _ ?_
  rw [Array.getD_eq_getD_getElem?, Array.getElem?_eq_getElem (by omega)]
  simp
theorem ix_ini0 {g : Str} : ixD (.str (ini g)) (.int 0) = some (.val (.str ⟨#[g.cps.getD 0 0]⟩)) := by
  unfold ixD
  dsimp only
  rw [if_pos (by show (ini g).cps.size ≤ sizeLine; rw [ini_sz, sizeLine_eq]; decide), show (0 : Int) = ((0 : Nat) : Int) from rfl, atI_nat (x := g.cps.getD 0 0) (by rw [ini_cps]; simp)]
  rfl
theorem ix_ini1 {g : Str} : ixD (.str (ini g)) (.int 1) = some (.val (.str ".")) := by
  unfold ixD
  dsimp only
  rw [if_pos (by show (ini g).cps.size ≤ sizeLine; rw [ini_sz, sizeLine_eq]; decide), show (1 : Int) = ((1 : Nat) : Int) from rfl, atI_nat (x := 46) (by rw [ini_cps]; simp)]
  rfl
theorem ev_is_part {p : Str} (h : PartOk p) : callV 1 m_is_part [.str p] = some (.val (.bool true)) := by
  refine callV_eq ?_
  unfold m_is_part
  (refine WS.seq (WS.ifF (by simp_all_arith []; rfl) (WS.next ?_)); dsimp only)
  rcases h with rfl | h | ⟨g, h, rfl⟩
  · have e : eqD (.str "") (.str "") = some (.val (.bool true)) := by rw [eq_str (by decide +kernel) (by decide +kernel)]; rfl
    refine WS.ret (by simp_all_arith [e]; rfl) ?_
    rfl
  · refine WS.ret (by simp_all_arith [eq0_name h, ev_is_name h]; rfl) ?_
    rfl
  · have e1 : eqD (.str (ini g)) (.str "") = some (.val (.bool false)) := by rw [eq_str (ini_sok h) (by decide +kernel), decide_eq_false (ini_ne0 g)]
    have e2 : callV 1 m_is_name [.str (ini g)] = some (.val (.bool false)) := by
      refine callV_eq ?_
      unfold m_is_name
      have el := ev_are_letters (ini g) (by rw [ini_sz]; decide)
      rw [ini_notlow] at el
      refine WS.ret (by simp_all_arith [el]; rfl) ?_
      rfl
    have e3 : lenD [.str (ini g)] = some (.val (.int 2)) := lenD_str (by rw [ini_sz]; decide)
    have e4 : callV 2 m_are_letters [.str ⟨#[g.cps.getD 0 0]⟩] = some (.val (.bool true)) := by
      rw [ev_are_letters ⟨#[g.cps.getD 0 0]⟩ (show 1 ≤ 4096 by decide)]
      have f := first_ok1 h
      congr 3
      show (lowC (g.cps.getD 0 0) && true) = true
      rw [f]
      rfl
    have e5 : eqD (.str ".") (.str ".") = some (.val (.bool true)) := by rw [eq_str dot_sok dot_sok]; rfl
    refine WS.ret (by simp_all_arith [e1, e2, e3, ix_ini0, e4, ix_ini1, e5]; rfl) ?_
    rfl
theorem ev_is_pair {p : Pr} (h1 : NameOk p.1) (h2 : PartOk p.2) : callV 1 m_is_pair [eP p] = some (.val (.bool true)) := by
  refine callV_eq ?_
  unfold m_is_pair eP
  refine WS.ret (by simp_all_arith [ev_is_name h1, ev_is_part h2]; rfl) ?_
  rfl
structure LabV (l : Lab) : Prop where
  ne : l.prs ≠ []
  prs : ∀ p ∈ l.prs, NameOk p.1 ∧ PartOk p.2
  yr : 0 ≤ l.yr
  ttl : ∀ t, l.ttl = some t → TitleOk t
  lt : lowS l.lt ∧ l.lt.cps.size ≤ 4096
theorem LabV.ok {l : Lab} (h : LabV l) : LabOk l := ⟨fun p hp => ⟨(h.prs p hp).1.low.ok, (h.prs p hp).2.sok⟩, fun t ht => (h.ttl t ht).ok⟩
theorem ev_is_label {l : Lab} (h : LabV l) : callV 7 m_is_label [eL l] = some (.val (.bool true)) := by
  refine callV_eq ?_
  unfold m_is_label
  unfold eL
  (refine WS.seq (WS.ifF (by simp_all_arith []; rfl) (WS.next ?_)); dsimp only)
  refine WS.go (by simp_all_arith []; rfl) ?_
  have ne : eqD (.tuple (l.prs.map eP)) (.tuple []) = some (.val (.bool false)) := by
    unfold eqD
    have o : okD (.tuple (l.prs.map eP)) = true := okD_of (n := 2) (Ok.tuple fun d hd => by
      obtain ⟨p, hp, rfl⟩ := List.mem_map.mp hd
      exact okP (h.prs p hp).1.low.ok (h.prs p hp).2.sok)
    rw [o]
    have := h.ne
    cases hq : l.prs with
    | nil => exact absurd hq this
    | cons p ps => rfl
  generalize hv : ([.val (.tuple [.tuple (l.prs.map eP), .bool l.more, .int l.yr, eO l.ttl, .str l.lt]), .val (.tuple (l.prs.map eP)), .val (.bool l.more), .val (.int l.yr), .val (eO l.ttl), .val (.str l.lt)] : Sl) = pre
  have la := lc_all (vs := [6]) (g := gNm 6) (e := mFn' 1 1 m_is_pair [false] [] (mCons (mVar 6) (mNil))) (mi := mItA (mVar 1)) (xs := l.prs) (enc := eP) (ρ := pre ++ [.un]) (ρ1 := pre ++ [.un]) (by subst hv; simp_all_arith []) (fun _ => .bool true) (fun p hp => by
    have e := ev_is_pair (h.prs p hp).1 (h.prs p hp).2
    subst hv
    exact ⟨_, rfl, rfl, .val (.bool true), by simp_all_arith [e], rfl⟩)
  subst hv
  simp only [List.cons_append, List.nil_append] at la
  have al : allD [.list (l.prs.map fun _ => .bool true)] = some (.val (.bool true)) := by rw [allD_fun, all_true]
  (refine WS.seq (WS.ifF (by simp_all_arith [ne, la, al]; rfl) (WS.next ?_)); dsimp only)
  have e1 := ev_is_integer' l.yr 0
  rw [decide_eq_true h.yr] at e1
  (refine WS.seq (WS.ifF (by simp_all_arith [e1]; rfl) (WS.next ?_)); dsimp only)
  have e2 : callV 2 m_are_letters [.str l.lt] = some (.val (.bool true)) := by
    rw [ev_are_letters _ h.lt.2]
    congr 3
    exact List.all_eq_true.mpr h.lt.1
  cases ht : l.ttl with
  | none =>
    refine WS.ret (by simp_all_arith [eO, e2]; rfl) ?_
    rfl
  | some t =>
    have e3 := ev_is_title (h.ttl t ht)
    refine WS.ret (by simp_all_arith [eO, e3, e2]; rfl) ?_
    rfl
theorem ev_check_label {l : Lab} (h : LabV l) : callV 1 m_check_label [eL l] = some (.val .none) := by
  refine callV_eq ?_
  unfold m_check_label
  exact WS.ifF (by simp_all_arith [ev_is_label h]; rfl) (WS.next rfl)
/-! ### narrower -/
def pw (p o : Str) : Bool := (decide (o = "") || decide (o = p)) || (!decide (p = "") && decide (o = ini p))
def nw (l o : Lab) : Bool := if o.more = true then decide (o.prs.length < l.prs.length) || (l.more && decide (l.prs.length = o.prs.length)) else !l.more && decide (l.prs.length = o.prs.length)
def narrower (l o : Lab) : Bool := decide (l.yr = o.yr) && ((decide (o.ttl = none) || decide (o.ttl = l.ttl)) && (nw l o && (l.prs.zip o.prs).all fun q => decide (q.1.1 = q.2.1) && pw q.1.2 q.2.2))
theorem mem2 {p a b : Str} (hp : sok p) (ha : sok a) (hb : sok b) : inA false (.str p) (.tuple [.str a, .str b]) = some (.val (.bool (decide (p = a) || decide (p = b)))) := by
  unfold inA
  dsimp only
  rw [okD_of (n := 0) (Ok.str hp), okD_of (n := 1) (Ok.list fun d hd => by
    simp only [List.mem_cons, List.not_mem_nil, or_false] at hd
    rcases hd with rfl | rfl
    · exact Ok.str ha
    · exact Ok.str hb)]
  unfold memD
  simp only [List.any_cons, List.any_nil, Bool.or_false, PyData.eqv, Bool.and_self, if_true, Bool.false_eq_true, if_false]
  congr 3
  have e : ∀ x y : Str, (x == y) = decide (y = x) := fun x y => by
    rw [Bool.eq_iff_iff, beq_iff_eq, decide_eq_true_eq]
    exact eq_comm
  rw [e, e]
theorem ix_first {g : Str} (h1 : 1 ≤ g.cps.size) (h2 : g.cps.size ≤ 4096) : ixD (.str g) (.int 0) = some (.val (.str ⟨#[g.cps.getD 0 0]⟩)) := by
  unfold ixD
  dsimp only
  rw [if_pos (by show g.cps.size ≤ sizeLine; rw [sizeLine_eq]; omega), show (0 : Int) = ((0 : Nat) : Int) from rfl, atI_nat (x := g.cps.getD 0 0)]
  · rfl
  · rw [Array.getElem?_toList, Array.getElem?_eq_getElem (by omega), Array.getD_eq_getD_getElem?, Array.getElem?_eq_getElem (by omega)]
    rfl
theorem PartOk.first {p : Str} (h : PartOk p) (hn : p ≠ "") : 1 ≤ p.cps.size ∧ lowC (p.cps.getD 0 0) = true := by
  rcases h with rfl | h | ⟨g, h, rfl⟩
  · exact absurd rfl hn
  · exact ⟨h.lo, first_ok1 h⟩
  · refine ⟨by rw [ini_sz]; decide, ?_⟩
    have : (ini g).cps.getD 0 0 = g.cps.getD 0 0 := rfl
    rw [this]; exact first_ok1 h
theorem ini_sok' {p : Str} (h : PartOk p) (hn : p ≠ "") : sok (ini p) := by
  have := (h.first hn).2
  refine sok_append ?_ dot_sok
  unfold lowC at this
  simp only [Bool.and_eq_true, decide_eq_true_eq] at this
  unfold sok PyData.strOk
  show (#[p.cps.getD 0 0].all fun c => decide (c < 0x110000)) = true
  rw [← Array.all_toList]
  simp only [List.all_cons, List.all_nil, Bool.and_true, decide_eq_true_eq]
  omega
theorem ev_part_within {p o : Str} (hp : PartOk p) (ho : PartOk o) : callV 2 m_part_within [.str p, .str o] = some (.val (.bool (pw p o))) := by
  refine callV_eq ?_
  unfold m_part_within
  have m := mem2 (p := o) (a := "") (b := p) ho.sok (by unfold sok; decide +kernel) hp.sok
  unfold pw
  refine WS.seq (WS.ifB (by simp_all_arith [m]; rfl) (fun t => ?_) fun t => ?_)
  · refine WS.ret (by simp_all_arith []; rfl) ?_
    rw [t]
    rfl
  · refine WS.next ?_
    dsimp only
    rw [t, Bool.false_or]
    by_cases e : p = ""
    · have e1 : neD (.str p) (.str "") = some (.val (.bool false)) := by rw [ne_str hp.sok (by decide +kernel), decide_eq_true e]; rfl
      refine WS.ret (by simp_all_arith [e1]; rfl) ?_
      rw [decide_eq_true e]
      rfl
    · have e1 : neD (.str p) (.str "") = some (.val (.bool true)) := by rw [ne_str hp.sok (by decide +kernel), decide_eq_false e]; rfl
      have e2 := ix_first (hp.first e).1 (by have := hp.size; omega)
      have ad := add_str (a := ⟨#[p.cps.getD 0 0]⟩) (b := ".") (by rw [dot_size]; exact (by decide : 1 + 1 ≤ 4096))
      have e3 := eq_str (a := o) (b := ini p) ho.sok (ini_sok' hp e)
      unfold ini at e3
      refine WS.ret (by simp_all_arith [e1, e2, ad, e3]; rfl) ?_
      rw [decide_eq_false e]
      rfl
theorem ix_L0 {l : Lab} : ixD (eL l) (.int 0) = some (.val (.tuple (l.prs.map eP))) := ix0
theorem ix_L1 {l : Lab} : ixD (eL l) (.int 1) = some (.val (.bool l.more)) := ix1
theorem ix_L2 {l : Lab} : ixD (eL l) (.int 2) = some (.val (.int l.yr)) := ix2
theorem ix_L3 {l : Lab} : ixD (eL l) (.int 3) = some (.val (eO l.ttl)) := ix3
theorem ev_number_within (l o : Lab) : callV 4 m_number_within [eL l, eL o] = some (.val (.bool (nw l o))) := by
  refine callV_eq ?_
  unfold m_number_within
  refine WS.go (ρ1 := [.val (eL l), .val (eL o), .val (.int l.prs.length), .val (.bool l.more)]) (by simp_all_arith [ix_L0, ix_L1]) ?_
  have q : decide (((l.prs.length : Nat) : Int) = ((o.prs.length : Nat) : Int)) = decide (l.prs.length = o.prs.length) := by
    rw [Bool.eq_iff_iff, decide_eq_true_eq, decide_eq_true_eq]; omega
  unfold nw
  refine WS.seq (WS.ifB (by simp_all_arith [ix_L1]; rfl) (fun t => ?_) fun t => ?_)
  · rw [if_pos t]
    cases h1 : decide (o.prs.length < l.prs.length) with
    | true =>
      refine WS.ret (by simp_all_arith [ix_L0, h1]; rfl) ?_
      rfl
    | false =>
      cases h2 : l.more with
      | true =>
        refine WS.ret (by simp_all_arith [ix_L0, h1, h2, q]; rfl) ?_
        rfl
      | false =>
        refine WS.ret (by simp_all_arith [ix_L0, h1, h2, q]; rfl) ?_
        rfl
  · refine WS.next ?_
    dsimp only
    rw [if_neg (by rw [t]; decide)]
    cases h2 : l.more with
    | true =>
      refine WS.ret (by simp_all_arith [ix_L0, h2, q]; rfl) ?_
      rfl
    | false =>
      refine WS.ret (by simp_all_arith [ix_L0, h2, q]; rfl) ?_
      rfl
theorem ttl_notin2 {o t : Option Str} (ho : ∀ x, o = some x → sok x) (ht : ∀ x, t = some x → sok x) : inA true (eO o) (.tuple [.none, eO t]) = some (.val (.bool (!(decide (o = none) || decide (o = t))))) := by
  unfold inA
  have ok : ∀ (u : Option Str), (∀ x, u = some x → sok x) → Ok 0 (eO u) := fun u h => by
    cases u with
    | none => exact Ok.none
    | some x => exact Ok.str (h x rfl)
  dsimp only
  rw [okD_of (ok o ho), okD_of (n := 1) (Ok.list fun d hd => by
    simp only [List.mem_cons, List.not_mem_nil, or_false] at hd
    rcases hd with rfl | rfl
    · exact Ok.none
    · exact ok t ht)]
  unfold memD
  have e0 : PyData.eqv (PyData.none) (eO o) = decide (o = none) := by cases o <;> simp [eO, PyData.eqv]
  have e1 : PyData.eqv (eO t) (eO o) = decide (o = t) := by
    cases o <;> cases t <;> simp only [eO, PyData.eqv, reduceCtorEq, decide_false, decide_true, Option.some.injEq]
    rw [Bool.eq_iff_iff, beq_iff_eq, decide_eq_true_eq]
    exact eq_comm
  simp only [List.any_cons, List.any_nil, Bool.or_false, e0, e1, Bool.and_self, if_true]
theorem ev_is_narrower {l o : Lab} (hl : LabV l) (ho : LabV o) : callV 4 m_is_narrower [eL l, eL o] = some (.val (.bool (narrower l o))) := by
  refine callV_eq ?_
  unfold m_is_narrower
  have tn := ttl_notin2 (o := o.ttl) (t := l.ttl) ho.ok.ttl hl.ok.ttl
  have nw' := ev_number_within l o
  have c0 : (mTOr (mB (m2 neD (m2 ixD (mVar 0) (mC (.int 2))) (m2 ixD (mVar 1) (mC (.int 2))))) (mTOr (mB (m2 (inA true) (m2 ixD (mVar 1) (mC (.int 3))) (mTup (mCons (mC .none) (mCons (m2 ixD (mVar 0) (mC (.int 3))) (mNil)))))) (mTNot (mB (mFn' 2 4 m_number_within [false, false] [] (mCons (mVar 0) (mCons (mVar 1) (mNil))))))))
      [.val (eL l), .val (eL o), .un, .un] = some (!(decide (l.yr = o.yr) && ((decide (o.ttl = none) || decide (o.ttl = l.ttl)) && nw l o)), [.val (eL l), .val (eL o), .un, .un]) := by
    cases e1 : decide (l.yr = o.yr) with
    | false => simp_all_arith [ix_L2, e1]
    | true =>
      cases e2 : (decide (o.ttl = none) || decide (o.ttl = l.ttl)) with
      | false =>
        rw [e2] at tn
        simp_all_arith [ix_L2, ix_L3, e1, tn]
      | true =>
        rw [e2] at tn
        simp_all_arith [ix_L2, ix_L3, e1, tn, nw']
  refine WS.seq (WS.ifB c0 (fun t => ?_) fun t => ?_)
  · refine WS.ret (by simp_all_arith []; rfl) ?_
    rw [Bool.not_eq_true'] at t
    unfold narrower
    rw [← Bool.and_assoc (decide (o.ttl = none) || decide (o.ttl = l.ttl)), ← Bool.and_assoc, t]
    rfl
  · refine WS.next ?_
    dsimp only
    rw [Bool.not_eq_false'] at t
    have la := lc_all (vs := [2, 3]) (mi := mZip (mCons (m2 ixD (mVar 0) (mC (.int 0))) (mCons (m2 ixD (mVar 1) (mC (.int 0))) (mNil)))) (g := gTp 2 (gsCons (gNm 2) (gsCons (gNm 3) gsNil)))
      (e := mAndV (m2 eqD (m2 ixD (mVar 2) (mC (.int 0))) (m2 ixD (mVar 3) (mC (.int 0)))) (mFn' 2 2 m_part_within [false, false] [] (mCons (m2 ixD (mVar 2) (mC (.int 1))) (mCons (m2 ixD (mVar 3) (mC (.int 1))) (mNil)))))
      (ρ := [.val (eL l), .val (eL o), .un, .un]) (ρ1 := [.val (eL l), .val (eL o), .un, .un]) (xs := l.prs.zip o.prs) (enc := fun q => .tuple [eP q.1, eP q.2]) (by simp_arith [mZip, ix_L0, zipD_map]) (fun q => .bool (decide (q.1.1 = q.2.1) && pw q.1.2 q.2.2)) (fun q hq => by
        have o1 := hl.prs q.1 (List.of_mem_zip hq).1
        have o2 := ho.prs q.2 (List.of_mem_zip hq).2
        refine ⟨[.val (eL l), .val (eL o), .val (eP q.1), .val (eP q.2)], rfl, rfl, .val (.bool (decide (q.1.1 = q.2.1) && pw q.1.2 q.2.2)), ?_, rfl⟩
        have e := eq_str o1.1.low.ok o2.1.low.ok
        have w := ev_part_within o1.2 o2.2
        cases h : decide (q.1.1 = q.2.1) with
        | true =>
          rw [h] at e
          simp_all_arith [ixP0, ixP1, e, w]
        | false =>
          rw [h] at e
          simp_all_arith [ixP0, ixP1, e, w])
    have al := allD_fun (fun q : Pr × Pr => decide (q.1.1 = q.2.1) && pw q.1.2 q.2.2) (l.prs.zip o.prs)
    refine WS.ret (by simp_all_arith [la, al]; rfl) ?_
    unfold narrower
    rw [← Bool.and_assoc (decide (o.ttl = none) || decide (o.ttl = l.ttl)), ← Bool.and_assoc, t, Bool.true_and]
    rfl
set_option Elab.async false
set_option linter.all false
set_option maxRecDepth 100000
set_option maxHeartbeats 4000000
open PySem PySem.Spec PyProof.Rows L2
def nA : Str := "a"
def nB : Str := "b"
theorem okA : NameOk nA := ⟨by unfold lowS; decide +kernel, by decide +kernel, by decide +kernel⟩
theorem okB : NameOk nB := ⟨by unfold lowS; decide +kernel, by decide +kernel, by decide +kernel⟩
/-! ### a given name that fits a part, and not another one -/
theorem fits_iff {p g : Str} : partFits p g = true ↔ p = "" ∨ p = g ∨ p = ini g := by
  unfold partFits
  simp only [Bool.or_eq_true, decide_eq_true_eq]
theorem pw_iff {p o : Str} : pw p o = true ↔ o = "" ∨ o = p ∨ (p ≠ "" ∧ o = ini p) := by
  unfold pw
  simp only [Bool.or_eq_true, Bool.and_eq_true, Bool.not_eq_true', decide_eq_true_eq, decide_eq_false_iff_not, or_assoc]
theorem ini_of {g h : Str} (e : g.cps.getD 0 0 = h.cps.getD 0 0) : ini g = ini h := by unfold ini; rw [e]
theorem ini_ini (g : Str) : ini (ini g) = ini g := ini_of rfl
theorem ini_name {g h : Str} (hh : NameOk h) : ini g ≠ h := fun e => by
  have m : (46 : Nat) ∈ (ini g).cps.toList := by rw [ini_cps]; simp
  rw [e] at m
  exact absurd (hh.low 46 m) (by decide)
/-- a name of one or two equal signs -/
def one1 (c : Nat) : Str := ⟨#[c]⟩
def two2 (c : Nat) : Str := ⟨#[c, c]⟩
theorem one_ok {c : Nat} (h : lowC c = true) : NameOk (one1 c) := ⟨fun d hd => by
  have : d = c := by simpa [one1] using hd
  rw [this]; exact h, by show 1 ≤ 1; decide, by show 1 ≤ 12; decide⟩
theorem two_ok {c : Nat} (h : lowC c = true) : NameOk (two2 c) := ⟨fun d hd => by
  have : d = c := by simpa [two2] using hd
  rw [this]; exact h, by show 1 ≤ 2; decide, by show 2 ≤ 12; decide⟩
/-- the names that are asked for a part -/
def namesOf (p : Str) : List Str := if p = "" then [nA, nB] else if p.cps.toList.getLast? = some 46 then [one1 (p.cps.getD 0 0), two2 (p.cps.getD 0 0)] else [p]
def pickG (p o : Str) : Str := ((namesOf p).filter fun n => !partFits o n).head?.getD ((namesOf p).headD "")
theorem names_of {p : Str} (h : PartOk p) : namesOf p ≠ [] ∧ ∀ n ∈ namesOf p, NameOk n ∧ partFits p n = true := by
  unfold namesOf
  by_cases e : p = ""
  · rw [if_pos e]
    refine ⟨by simp, fun n hn => ?_⟩
    simp only [List.mem_cons, List.not_mem_nil, or_false] at hn
    rcases hn with rfl | rfl
    · exact ⟨okA, fits_iff.mpr (.inl e)⟩
    · exact ⟨okB, fits_iff.mpr (.inl e)⟩
  · rw [if_neg e]
    have hf := (h.first e).2
    rcases h with h | h | ⟨g, h, rfl⟩
    · exact absurd h e
    · rw [if_neg]
      · refine ⟨by simp, fun n hn => ?_⟩
        rw [List.mem_singleton.mp hn]
        exact ⟨h, fits_iff.mpr (.inr (.inl rfl))⟩
      · intro z
        have := h.low 46 (List.mem_of_getLast? z)
        exact absurd this (by decide)
    · rw [if_pos (by rw [ini_cps]; simp)]
      refine ⟨by simp, fun n hn => ?_⟩
      have e2 : (ini g).cps.getD 0 0 = g.cps.getD 0 0 := rfl
      simp only [List.mem_cons, List.not_mem_nil, or_false] at hn
      rcases hn with rfl | rfl
      · exact ⟨one_ok hf, fits_iff.mpr (.inr (.inr (ini_of rfl)))⟩
      · exact ⟨two_ok hf, fits_iff.mpr (.inr (.inr (ini_of rfl)))⟩
theorem pick_mem {p o : Str} (h : PartOk p) : pickG p o ∈ namesOf p := by
  unfold pickG
  cases e : ((namesOf p).filter fun n => !partFits o n).head? with
  | some n => exact (List.mem_filter.mp (List.mem_of_mem_head? e)).1
  | none =>
    have := (names_of h).1
    cases q : namesOf p with
    | nil => exact absurd q this
    | cons a r => exact List.mem_cons_self
theorem pick_ok {p o : Str} (h : PartOk p) : NameOk (pickG p o) ∧ partFits p (pickG p o) = true := (names_of h).2 _ (pick_mem h)
theorem size_ab : nA ≠ nB := by decide +kernel
theorem ini_ab : ini nA ≠ ini nB := by decide +kernel
theorem one_two (c : Nat) : one1 c ≠ two2 c := fun e => by
  have : (one1 c).cps.size = (two2 c).cps.size := congrArg (fun x : Str => x.cps.size) e
  exact absurd this (by show (1 : Nat) ≠ 2; decide)
theorem not_both {o a b : Str} (ha : NameOk a) (hb : NameOk b) (hab : a ≠ b) (ho : o ≠ "") (hi : ini a = ini b → o ≠ ini a) : ¬ (partFits o a = true ∧ partFits o b = true) := by
  rintro ⟨h1, h2⟩
  rcases fits_iff.mp h1 with h1 | h1 | h1
  · exact ho h1
  · rcases fits_iff.mp h2 with h2 | h2 | h2
    · exact ho h2
    · exact hab (h1.symm.trans h2)
    · exact ini_name ha (h2.symm.trans h1)
  · rcases fits_iff.mp h2 with h2 | h2 | h2
    · exact ho h2
    · exact ini_name hb (h1.symm.trans h2)
    · exact hi (h1.symm.trans h2) h1
theorem pick_two {o a b : Str} (h : ¬ (partFits o a = true ∧ partFits o b = true)) : partFits o (((([a, b] : List Str).filter fun n => !partFits o n).head?).getD a) = false := by
  cases e1 : partFits o a with
  | false => simp [e1]
  | true =>
    cases e2 : partFits o b with
    | false => simp [e1, e2]
    | true => exact absurd ⟨e1, e2⟩ h
theorem pick_not {p o : Str} (h : PartOk p) (ho : PartOk o) (hw : pw p o = false) : partFits o (pickG p o) = false := by
  have w : ¬ (o = "" ∨ o = p ∨ (p ≠ "" ∧ o = ini p)) := fun z => by rw [pw_iff.mpr z] at hw; cases hw
  have w1 : o ≠ "" := fun z => w (.inl z)
  have w2 : o ≠ p := fun z => w (.inr (.inl z))
  unfold pickG namesOf
  by_cases e : p = ""
  · rw [if_pos e]
    exact pick_two (not_both okA okB size_ab w1 fun z => absurd z ini_ab)
  · rw [if_neg e]
    have w3 : o ≠ ini p := fun z => w (.inr (.inr ⟨e, z⟩))
    have hf := (h.first e).2
    rcases h with h | h | ⟨g, h, rfl⟩
    · exact absurd h e
    · rw [if_neg]
      · have : partFits o p = false := by
          cases q : partFits o p with
          | false => rfl
          | true =>
            rcases fits_iff.mp q with q | q | q
            · exact absurd q w1
            · exact absurd q w2
            · exact absurd q w3
        simp [this]
      · intro z
        have := h.low 46 (List.mem_of_getLast? z)
        exact absurd this (by decide)
    · rw [if_pos (by rw [ini_cps]; simp)]
      exact pick_two (not_both (one_ok hf) (two_ok hf) (one_two _) w1 fun _ z => w2 (z.trans (ini_of rfl)))
theorem lc_filter {vs : List Nat} {mi : Sl → Option (List D × Sl)} {g : D → Sl → Option Sl} {t : Sl → Option (Bool × Sl)} {e : Sl → Option (RV × Sl)} {ρ ρ1 : Sl} {α : Type} {enc : α → D} (xs : List α) (p : α → Bool) (hi : mi ρ = some (xs.map enc, ρ1))
    (h : ∀ x ∈ xs, ∃ ρa, g (enc x) (hide ρ1 vs) = some ρa ∧ hide ρa vs = hide ρ1 vs ∧ t ρa = some (p x, ρa) ∧ e ρa = some (.val (enc x), ρa)) :
    mLc vs mi g t e ρ = some (.tmp (.lst ((xs.filter p).map enc)), ρ1) := lc_if hi p enc fun x hx => by
  obtain ⟨ρa, h1, h2, h3, h4⟩ := h x hx
  exact ⟨ρa, h1, h2, h3, fun _ => ⟨.val (enc x), h4, rfl⟩⟩
theorem ix_last_str {x : Str} {c : Nat} (h : x.cps.toList.getLast? = some c) (hs : x.cps.size ≤ 4096) : ixD (.str x) (.int (-1)) = some (.val (.str ⟨#[c]⟩)) := by
  unfold ixD
  dsimp only
  have hn : 0 < x.cps.toList.length := by
    cases q : x.cps.toList with
    | nil => rw [q] at h; cases h
    | cons a r => simp
  rw [if_pos (by show x.cps.size ≤ sizeLine; rw [sizeLine_eq]; omega)]
  have e : atI x.cps.toList (-1) = some c := by
    unfold atI ixN
    rw [if_neg (by omega), if_pos (by omega)]
    simp only [Option.bind_some]
    rw [show ((-1 : Int) + (x.cps.toList.length : Nat)).toNat = x.cps.toList.length - 1 by omega, ← List.getLast?_eq_getElem?]
    exact h
  rw [e]
  rfl
theorem mul_two (c : Nat) : mulB (.str ⟨#[c]⟩) (.int 2) = some (.val (.str (two2 c))) := by
  rw [mulB_str]
  · rfl
  · refine ⟨by decide, fun _ _ => ?_, fun _ _ => ?_⟩
    · show ¬ (((1 : Nat) : Int) > (2 ^ 63 - 1) / 2)
      decide
    · show Builtin.Str.tooLong (1 * 2) = false
      decide
theorem ev_fresh_given {p o : Str} (hp : PartOk p) (ho : PartOk o) : callV 5 m_fresh_given [.str p, .str o] = some (.val (.str (pickG p o))) := by
  refine callV_eq ?_
  unfold m_fresh_given
  have hn := names_of hp
  refine WS.seq (WS.nxI (P := fun ρ => ρ = [.val (.str p), .val (.str o), .val (.tuple ((namesOf p).map .str)), .un, .un]) ?_ ?_)
  · have e1 := eq_str hp.sok (show PyData.strOk "" = true by decide +kernel)
    unfold namesOf
    by_cases e : p = ""
    · rw [decide_eq_true e] at e1
      rw [if_pos e]
      refine WS.ifT (by simp_all_arith [e1]; rfl) (WS.set (by simp_all_arith []; rfl) (by simp_all_arith []; rfl) rfl)
    · rw [decide_eq_false e] at e1
      rw [if_neg e]
      refine WS.ifF (by simp_all_arith [e1]; rfl) ?_
      have hf := hp.first e
      have hz := hp.size
      have i0 := ix_first hf.1 (by omega)
      rcases hp with h | h | ⟨g, h, rfl⟩
      · exact absurd h e
      · have ne : p.cps.toList ≠ [] := fun z => by
          have := congrArg List.length z
          rw [Array.length_toList, List.length_nil] at this
          omega
        have il := ix_last_str (x := p) (List.getLast?_eq_some_getLast ne) (by omega)
        have hc := h.low _ (List.getLast_mem ne)
        have e2 : eqD (.str ⟨#[p.cps.toList.getLast ne]⟩) (.str ".") = some (.val (.bool false)) := by
          show eqD (.str (one1 (p.cps.toList.getLast ne))) (.str ".") = _
          rw [eq_str (one_ok hc).low.ok dot_sok, decide_eq_false]
          intro z
          have z2 : (⟨#[p.cps.toList.getLast ne]⟩ : Str).cps.toList = (Str.ofString ".").cps.toList := congrArg (fun x : Str => x.cps.toList) z
          have z3 : [p.cps.toList.getLast ne] = [46] := z2.trans (by decide +kernel)
          have z4 := List.singleton_inj.mp z3
          rw [z4] at hc
          exact absurd hc (by decide)
        have ng : ¬ p.cps.toList.getLast? = some 46 := fun z => by
          have := h.low 46 (List.mem_of_getLast? z)
          exact absurd this (by decide)
        rw [if_neg ng]
        refine WS.ifF (by simp_all_arith [il, e2]; rfl) (WS.set (by simp_all_arith []; rfl) (by simp_all_arith []; rfl) ?_)
        rfl
      · have gl : (ini g).cps.toList.getLast? = some 46 := by rw [ini_cps]; simp
        have il := ix_last_str gl (by rw [ini_sz]; decide)
        have e2 : eqD (.str ⟨#[46]⟩) (.str ".") = some (.val (.bool true)) := by
          rw [eq_str (by decide +kernel) dot_sok]
          rfl
        rw [if_pos gl]
        have m2' := mul_two ((ini g).cps.getD 0 0)
        refine WS.ifT (by simp_all_arith [il, e2]; rfl) (WS.set (by simp_all_arith [i0, m2']; rfl) (by simp_all_arith []; rfl) ?_)
        rfl
  · rintro ρ' rfl
    dsimp only
    have lc := lc_filter (vs := [4]) (g := gNm 4) (t := mTNot (mB (mFn' 2 2 m_part_fits [false, false] [] (mCons (mVar 1) (mCons (mVar 4) (mNil)))))) (e := mVar 4) (mi := mItA (mVar 2)) (enc := .str) (namesOf p) (fun n => !partFits o n)
      (ρ := [.val (.str p), .val (.str o), .val (.tuple ((namesOf p).map .str)), .un, .un]) (ρ1 := [.val (.str p), .val (.str o), .val (.tuple ((namesOf p).map .str)), .un, .un]) (by simp_all_arith []) (fun n hn' => by
        have e := ev_part_fits ho.sok (hn.2 n hn').1
        exact ⟨[.val (.str p), .val (.str o), .val (.tuple ((namesOf p).map .str)), .un, .val (.str n)], rfl, rfl, by simp_all_arith [e], by simp_all_arith []⟩)
    refine WS.setK (by simp_all_arith [lc]; rfl) (by simp_all_arith []; rfl) ?_
    have ix0 : ixD (.tuple ((namesOf p).map .str)) (.int 0) = some (.val (.str ((namesOf p).headD ""))) := by
      cases q : namesOf p with
      | nil => exact absurd q hn.1
      | cons a r => exact Wk.ix0
    have okF : ∀ d ∈ ((namesOf p).filter fun n => !partFits o n).map PyData.str, Ok 0 d := fun d hd => by
      obtain ⟨n, hn', rfl⟩ := List.mem_map.mp hd
      exact Ok.str (hn.2 n (List.mem_filter.mp hn').1).1.low.ok
    have nn : neD (.list (((namesOf p).filter fun n => !partFits o n).map .str)) (.list []) = some (.val (.bool (!(((namesOf p).filter fun n => !partFits o n).map PyData.str).isEmpty))) := by
      unfold neD
      rw [okD_of (Ok.list okF) (by decide), okD_of (n := 1) (Ok.list (n := 0) (ds := []) fun d h => by cases h)]
      cases ((namesOf p).filter fun n => !partFits o n) <;> rfl
    unfold pickG
    generalize (namesOf p).filter (fun n => !partFits o n) = F at nn
    cases F with
    | nil =>
      have nn' : neD (.list (([] : List Str).map .str)) (.list []) = some (.val (.bool false)) := nn
      generalize (namesOf p).map PyData.str = N at ix0
      generalize ([] : List Str).map PyData.str = M at nn'
      refine WS.ret (by simp_all_arith [nn', ix0]; rfl) ?_
      rfl
    | cons a r =>
      have nn' : neD (.list ((a :: r).map .str)) (.list []) = some (.val (.bool true)) := nn
      have i1 : ixD (.list ((a :: r).map .str)) (.int 0) = some (.val (.str a)) := ixl (i := 0) rfl
      generalize (namesOf p).map PyData.str = N at ix0
      generalize (a :: r).map PyData.str = M at nn' i1
      refine WS.ret (by simp_all_arith [nn', i1]; rfl) ?_
      rfl
set_option Elab.async false
set_option linter.all false
set_option maxRecDepth 100000
set_option maxHeartbeats 4000000
open PySem PySem.Spec PyProof.Rows L2
/-! ### a source outside -/
def partAt (o : Lab) (i : Nat) : Str := (o.prs[i]?.map (·.2)).getD ""
def famAt (o : Lab) (i : Nat) : Str := (o.prs[i]?.map (·.1)).getD ""
def unA (x : Str) : Str := if x = nA then nB else nA
def outFst (l o : Lab) : List Pr := l.prs.zipIdx.map fun q => (q.1.1, pickG q.1.2 (partAt o q.2))
def outExt (l o : Lab) (n : Nat) : List Pr := (List.range n).map fun i => (unA (famAt o (l.prs.length + i)), nA)
def outN (l o : Lab) : Nat := if l.more = true then max l.prs.length o.prs.length + 1 - l.prs.length else 0
def outTtl (l o : Lab) : Str := match l.ttl with
  | some t => t
  | none => if o.ttl = some nA then nB else nA
def outS (l o : Lab) : Bk := ⟨outFst l o ++ outExt l o (outN l o), l.yr, outTtl l o⟩
theorem partAt_ok {o : Lab} (h : LabV o) (i : Nat) : PartOk (partAt o i) := by
  unfold partAt
  cases e : o.prs[i]? with
  | none => exact .inl rfl
  | some p => exact (h.prs p (List.mem_of_getElem? e)).2
theorem famAt_sok {o : Lab} (h : LabV o) (i : Nat) : sok (famAt o i) := by
  unfold famAt
  cases e : o.prs[i]? with
  | none => unfold sok; decide +kernel
  | some p => exact (h.prs p (List.mem_of_getElem? e)).1.low.ok
def FR : D := .tuple [.str "a", .str "b"]
theorem fr_ix (b : Bool) : ixD (.tuple [.str "a", .str "b"]) (.int (if b = true then 1 else 0)) = some (.val (.str (if b = true then nB else nA))) := by
  cases b
  · exact ix0
  · exact ix1
theorem eq_eO {t : Option Str} (h : ∀ x, t = some x → sok x) : eqD (eO t) (.str "a") = some (.val (.bool (decide (t = some nA)))) := by
  cases t with
  | none =>
    unfold eqD
    rw [show okD (eO none) = true from rfl, show okD (.str "a") = true from okD_of (n := 0) (Ok.str okA.low.ok)]
    rfl
  | some x =>
    have e := eq_str (h x rfl) okA.low.ok
    show eqD (.str x) (.str nA) = _
    rw [e]
    congr 3
    rw [Bool.eq_iff_iff, decide_eq_true_eq, decide_eq_true_eq, Option.some.injEq]
theorem ev_source_outside {l o : Lab} (hl : LabV l) (ho : LabV o) (nl : l.prs.length ≤ 1000) (no : o.prs.length ≤ 1000) : callV 14 m_source_outside [eL l, eL o] = some (.val (eS (outS l o))) := by
  refine callV_eq ?_
  unfold m_source_outside
  refine WS.go (ρ1 := [.val (eL l), .val (eL o), .val (.tuple (l.prs.map eP)), .val (.bool l.more), .val (.int l.yr), .val (eO l.ttl), .un, .un, .un, .un, .un, .un, .un, .un]) (by simp_all_arith [sl4_L]) ?_
  refine WS.setK (by simp_all_arith [ix_L0]; rfl) (by simp_all_arith []; rfl) ?_
  refine WS.setK (by simp_all_arith []; rfl) (by simp_all_arith []; rfl) ?_
  refine WS.seq (WS.for_ (xs := l.prs.zipIdx) (enc := fun q => .tuple [.int (q.2 : Nat), eP q.1]) (ρ1 := [.val (eL l), .val (eL o), .val (.tuple (l.prs.map eP)), .val (.bool l.more), .val (.int l.yr), .val (eO l.ttl), .val (.tuple (o.prs.map eP)), .own none (.lst []), .un, .un, .un, .un, .un, .un]) (by simp_all_arith [enumD_map])
    (fun j ρ => ∃ s8 s9 s10, ρ = [.val (eL l), .val (eL o), .val (.tuple (l.prs.map eP)), .val (.bool l.more), .val (.int l.yr), .val (eO l.ttl), .val (.tuple (o.prs.map eP)), .own none (.lst (((outFst l o).take j).map eP)), s8, s9, s10, .un, .un, .un])
    ⟨.un, .un, .un, rfl⟩ ?_ ?_)
  · rintro j q ρ' hq ⟨s8, s9, s10, rfl⟩
    have hj := (List.getElem?_eq_some_iff.mp hq).1
    rw [List.length_zipIdx] at hj
    have hm := ix_mem (List.mem_of_getElem? hq)
    have hp := hl.prs q.1 (List.mem_of_getElem? hm)
    have tk : (outFst l o).take (j + 1) = (outFst l o).take j ++ [(q.1.1, pickG q.1.2 (partAt o q.2))] := by
      rw [List.take_add_one]
      congr 1
      unfold outFst
      rw [List.getElem?_map, hq]
      rfl
    refine ⟨[.val (eL l), .val (eL o), .val (.tuple (l.prs.map eP)), .val (.bool l.more), .val (.int l.yr), .val (eO l.ttl), .val (.tuple (o.prs.map eP)), .own none (.lst (((outFst l o).take j).map eP)), .val (.int (q.2 : Nat)), .val (eP q.1), s10, .un, .un, .un], rfl, ?_⟩
    have fg := ev_fresh_given hp.2 (partAt_ok ho q.2)
    have fl : ((outFst l o).take j).length ≤ 1000 := by
      rw [List.length_take]
      unfold outFst
      rw [List.length_map, List.length_zipIdx]
      omega
    have ap := app_ok (ds := ((outFst l o).take j).map eP) (d := .tuple [.str q.1.1, .str (pickG q.1.2 (partAt o q.2))]) (by rw [List.length_map]; omega)
    refine WS.setK (r := .val (.str (partAt o q.2))) (ρ1 := [.val (eL l), .val (eL o), .val (.tuple (l.prs.map eP)), .val (.bool l.more), .val (.int l.yr), .val (eO l.ttl), .val (.tuple (o.prs.map eP)), .own none (.lst (((outFst l o).take j).map eP)), .val (.int (q.2 : Nat)), .val (eP q.1), s10, .un, .un, .un]) ?_ (by simp_all_arith []; rfl) ?_
    · unfold partAt
      by_cases c : q.2 < o.prs.length
      · have c' : decide (q.2 < o.prs.length) = true := decide_eq_true c
        have ixo : ixD (.tuple (o.prs.map eP)) (.int (q.2 : Nat)) = some (.val (eP o.prs[q.2])) := ixn (by rw [List.getElem?_map, List.getElem?_eq_getElem c]; rfl)
        rw [List.getElem?_eq_getElem c]
        simp_all_arith [c', ixo, ixP1]
        rfl
      · have c' : decide (q.2 < o.prs.length) = false := decide_eq_false c
        rw [List.getElem?_eq_none (by omega)]
        simp_all_arith [c']
        rfl
    · refine WS.drop (by simp_all_arith [ixP0, ixP1, fg, ap]; rfl) ?_
      dsimp only
      rw [tk, List.map_append]
      exact ⟨_, _, _, rfl⟩
  · rintro ρF ⟨s8, s9, s10, rfl⟩
    have ol : (outFst l o).length = l.prs.length := by unfold outFst; rw [List.length_map, List.length_zipIdx]
    rw [List.length_zipIdx, List.take_of_length_le (Nat.le_of_eq ol)]
    dsimp only
    refine WS.seq (WS.nxI (P := fun ρ => ∃ s8 s9 s10 s11 s12, ρ = [.val (eL l), .val (eL o), .val (.tuple (l.prs.map eP)), .val (.bool l.more), .val (.int l.yr), .val (eO l.ttl), .val (.tuple (o.prs.map eP)), .own none (.lst ((outFst l o ++ outExt l o (outN l o)).map eP)), s8, s9, s10, s11, s12, .un]) ?_ ?_)
    · cases hm : l.more with
      | false =>
        refine WS.ifF (by simp_all_arith []; rfl) (WS.next ?_)
        unfold outN outExt
        rw [hm]
        simp only [Bool.false_eq_true, if_false, List.range_zero, List.map_nil, List.append_nil]
        exact ⟨_, _, _, _, _, rfl⟩
      | true =>
        refine WS.ifT (by simp_all_arith []; rfl) ?_
        have em : max (l.prs.length : Int) (o.prs.length : Int) = ((max l.prs.length o.prs.length : Nat) : Int) := by omega
        have mxi : maxD [.int (l.prs.length : Nat), .int (o.prs.length : Nat)] = some (.val (.int ((max l.prs.length o.prs.length : Nat) : Int))) := by
          rw [← em]
          unfold maxD
          dsimp only
          congr 3
          split <;> omega
        refine WS.setK (by simp_all_arith [ix_L0, mxi]; rfl) (by simp_all_arith []; rfl) ?_
        have rg := rng2_ok (bd := false) (ma := mCons (mCall lenD (mCons (mVar 2) (mNil))) (mCons (mVar 11) (mNil))) (ρ := [.val (eL l), .val (eL o), .val (.tuple (l.prs.map eP)), .val (.bool true), .val (.int l.yr), .val (eO l.ttl), .val (.tuple (o.prs.map eP)), .own none (.lst ((outFst l o).map eP)), s8, s9, s10, .val (.int (((max l.prs.length o.prs.length : Nat) : Int) + 1)), .un, .un])
          (ρ1 := [.val (eL l), .val (eL o), .val (.tuple (l.prs.map eP)), .val (.bool true), .val (.int l.yr), .val (eO l.ttl), .val (.tuple (o.prs.map eP)), .own none (.lst ((outFst l o).map eP)), s8, s9, s10, .val (.int (((max l.prs.length o.prs.length : Nat) : Int) + 1)), .un, .un])
          (lo := (l.prs.length : Int)) (hi := ((max l.prs.length o.prs.length : Nat) : Int) + 1) (by simp_all_arith []) (by omega) (by omega) (by omega) (by omega)
        have en : (((max l.prs.length o.prs.length : Nat) : Int) + 1 - (l.prs.length : Int)).toNat = outN l o := by
          unfold outN
          rw [if_pos hm]
          omega
        rw [en, rangeD_map] at rg
        refine WS.for_ rg (fun j ρ => ∃ s8 s12, ρ = [.val (eL l), .val (eL o), .val (.tuple (l.prs.map eP)), .val (.bool true), .val (.int l.yr), .val (eO l.ttl), .val (.tuple (o.prs.map eP)), .own none (.lst ((outFst l o ++ outExt l o j).map eP)), s8, s9, s10, .val (.int (((max l.prs.length o.prs.length : Nat) : Int) + 1)), s12, .un])
          ⟨s8, .un, by unfold outExt; rw [List.range_zero, List.map_nil, List.append_nil]⟩ ?_ ?_
        · rintro j i ρ' hi ⟨s8, s12, rfl⟩
          have hj := (List.getElem?_eq_some_iff.mp hi).1
          have ei := (List.getElem?_eq_some_iff.mp hi).2
          rw [List.getElem_range] at ei
          subst ei
          rw [List.length_range] at hj
          have hjn : j ≤ 2000 := by unfold outN at hj; rw [if_pos hm] at hj; omega
          refine ⟨_, rfl, ?_⟩
          have ea : ((l.prs.length : Int) + (j : Int)) = ((l.prs.length + j : Nat) : Int) := rfl
          have tk : outFst l o ++ outExt l o (j + 1) = (outFst l o ++ outExt l o j) ++ [(unA (famAt o (l.prs.length + j)), nA)] := by
            unfold outExt
            rw [List.range_succ, List.map_append, List.append_assoc]
            rfl
          have ap := app_ok (ds := (outFst l o ++ outExt l o j).map eP) (d := eP (unA (famAt o (l.prs.length + j)), nA)) (by
            rw [List.length_map, List.length_append, ol]
            unfold outExt
            rw [List.length_map, List.length_range]
            omega)
          have eqf := eq_str (famAt_sok ho (l.prs.length + j)) okA.low.ok
          have eqf' : eqD (.str (famAt o (l.prs.length + j))) (.str "a") = some (.val (.bool (decide (famAt o (l.prs.length + j) = nA)))) := eqf
          have fi := fr_ix (decide (famAt o (l.prs.length + j) = nA))
          have eu : (if decide (famAt o (l.prs.length + j) = nA) = true then nB else nA) = unA (famAt o (l.prs.length + j)) := by
            unfold unA
            by_cases z : famAt o (l.prs.length + j) = nA
            · rw [if_pos (decide_eq_true z), if_pos z]
            · rw [if_neg (by rw [decide_eq_false z]; decide), if_neg z]
          rw [eu] at fi
          refine WS.setK (r := .val (.str (famAt o (l.prs.length + j)))) (ρ1 := [.val (eL l), .val (eL o), .val (.tuple (l.prs.map eP)), .val (.bool true), .val (.int l.yr), .val (eO l.ttl), .val (.tuple (o.prs.map eP)), .own none (.lst ((outFst l o ++ outExt l o j).map eP)), .val (.int ((l.prs.length + j : Nat) : Int)), s9, s10, .val (.int (((max l.prs.length o.prs.length : Nat) : Int) + 1)), s12, .un]) ?_ (by simp_all_arith []; rfl) ?_
          · unfold famAt
            by_cases c : l.prs.length + j < o.prs.length
            · have c' : decide (l.prs.length + j < o.prs.length) = true := decide_eq_true c
              have ixo : ixD (.tuple (o.prs.map eP)) (.int ((l.prs.length + j : Nat) : Int)) = some (.val (eP o.prs[l.prs.length + j])) := ixn (by rw [List.getElem?_map, List.getElem?_eq_getElem c]; rfl)
              rw [List.getElem?_eq_getElem c]
              simp_all_arith [ea, c', ixo, ixP0]
              rfl
            · have c' : decide (l.prs.length + j < o.prs.length) = false := decide_eq_false c
              rw [List.getElem?_eq_none (by omega)]
              simp_all_arith [ea, c']
              rfl
          · refine WS.drop (r := .val .none) (ρ1 := [.val (eL l), .val (eL o), .val (.tuple (l.prs.map eP)), .val (.bool true), .val (.int l.yr), .val (eO l.ttl), .val (.tuple (o.prs.map eP)), .own none (.lst ((outFst l o ++ outExt l o j).map eP ++ [eP (unA (famAt o (l.prs.length + j)), nA)])), .val (.int ((l.prs.length + j : Nat) : Int)), s9, s10, .val (.int (((max l.prs.length o.prs.length : Nat) : Int) + 1)), .val (.str (famAt o (l.prs.length + j))), .un]) ?_ ?_
            · have ap' := ap
              unfold eP at ap' ⊢
              simp_all_arith [eqf', int_bool, fi]
              have e3 : appD (List.map (fun p : Pr => PyData.tuple [PyData.str p.fst, PyData.str p.snd]) (outFst l o ++ outExt l o j)) [PyData.tuple [PyData.str (unA (famAt o (l.prs.length + j))), PyData.str "a"]] = _ := ap'
              rw [e3]
            · dsimp only
              rw [tk, List.map_append (l₁ := outFst l o ++ outExt l o j)]
              exact ⟨_, _, rfl⟩
        · rintro ρF ⟨s8, s12, rfl⟩
          rw [List.length_range]
          exact ⟨_, _, _, _, _, rfl⟩
    · rintro ρ3 ⟨s8, s9, s10, s11, s12, rfl⟩
      dsimp only
      refine WS.setK (r := .val (.str (outTtl l o))) (ρ1 := [.val (eL l), .val (eL o), .val (.tuple (l.prs.map eP)), .val (.bool l.more), .val (.int l.yr), .val (eO l.ttl), .val (.tuple (o.prs.map eP)), .own none (.lst ((outFst l o ++ outExt l o (outN l o)).map eP)), s8, s9, s10, s11, s12, .un]) ?_ (by simp_all_arith []; rfl) ?_
      · unfold outTtl
        cases ht : l.ttl with
        | some t => simp_all_arith [eO]
        | none =>
          have e1 := eq_eO ho.ok.ttl
          have fi := fr_ix (decide (o.ttl = some nA))
          have eu : (if decide (o.ttl = some nA) = true then nB else nA) = (if o.ttl = some nA then nB else nA) := by
            by_cases z : o.ttl = some nA
            · rw [if_pos (decide_eq_true z), if_pos z]
            · rw [if_neg (by rw [decide_eq_false z]; decide), if_neg z]
          rw [eu] at fi
          have en : eO none = PyData.none := rfl
          rw [en]
          simp_all_arith [ix_L3, e1, int_bool, fi]
      · refine WS.ret (by simp_all_arith [tup_list]; rfl) ?_
        rfl
set_option Elab.async false
set_option linter.all false
set_option maxRecDepth 100000
set_option maxHeartbeats 4000000
open PySem PySem.Spec PyProof.Rows L2
/-! ### what a source outside fits -/
theorem unA_ne (x : Str) : unA x ≠ x := fun e => by
  unfold unA at e
  by_cases h : x = nA
  · rw [if_pos h, h] at e; exact size_ab e.symm
  · rw [if_neg h] at e; exact h e.symm
theorem unA_ok (x : Str) : NameOk (unA x) := by
  unfold unA
  split
  · exact okB
  · exact okA
theorem outFst_len (l o : Lab) : (outFst l o).length = l.prs.length := by unfold outFst; rw [List.length_map, List.length_zipIdx]
theorem outExt_len (l o : Lab) (n : Nat) : (outExt l o n).length = n := by unfold outExt; rw [List.length_map, List.length_range]
theorem out_len (l o : Lab) : (outS l o).ppl.length = l.prs.length + outN l o := by
  show (outFst l o ++ outExt l o (outN l o)).length = _
  rw [List.length_append, outFst_len, outExt_len]
theorem out_at {l o : Lab} {k : Nat} (h : k < l.prs.length) : (outS l o).ppl[k]? = some (l.prs[k].1, pickG l.prs[k].2 (partAt o k)) := by
  show (outFst l o ++ outExt l o (outN l o))[k]? = _
  rw [List.getElem?_append_left (by rw [outFst_len]; exact h)]
  unfold outFst
  rw [List.getElem?_map, List.getElem?_zipIdx, List.getElem?_eq_getElem h]
  simp
theorem out_ext {l o : Lab} (h : 0 < outN l o) : (outS l o).ppl[l.prs.length]? = some (unA (famAt o l.prs.length), nA) := by
  show (outFst l o ++ outExt l o (outN l o))[l.prs.length]? = _
  rw [List.getElem?_append_right (by rw [outFst_len]; exact Nat.le_refl _), outFst_len, Nat.sub_self]
  unfold outExt
  rw [List.getElem?_map, List.getElem?_range h]
  rfl
theorem fits_iff4 {l : Lab} {s : Bk} : fits l s = true ↔ l.yr = s.yr ∧ ttlFits l.ttl s.ttl = true ∧ l.prs.length ≤ s.ppl.length ∧ (decide (l.prs.length < s.ppl.length) = l.more) ∧ ∀ k, k < l.prs.length → pairFits l s k = true := by
  unfold fits
  rw [Bool.and_eq_true, Bool.and_eq_true, Bool.and_eq_true, Bool.and_eq_true, decide_eq_true_eq, decide_eq_true_eq, beq_iff_eq]
  constructor
  · rintro ⟨h1, h2, h3, h4, h5⟩
    exact ⟨h1, h2, h3, h4, (zip_all_at h3).mp h5⟩
  · rintro ⟨h1, h2, h3, h4, h5⟩
    exact ⟨h1, h2, h3, h4, (zip_all_at h3).mpr h5⟩
theorem out_fits {l o : Lab} (hl : LabV l) : fits l (outS l o) = true := by
  rw [fits_iff4]
  refine ⟨rfl, ?_, by rw [out_len]; omega, ?_, fun k hk => ?_⟩
  · show ttlFits l.ttl (outTtl l o) = true
    unfold outTtl ttlFits
    cases l.ttl with
    | none => rfl
    | some t => exact decide_eq_true rfl
  · rw [out_len]
    unfold outN
    cases l.more with
    | false => rw [if_neg (by decide)]; exact decide_eq_false (by omega)
    | true => rw [if_pos rfl]; exact decide_eq_true (by omega)
  · unfold pairFits
    rw [List.getElem?_eq_getElem hk, out_at hk]
    dsimp only
    rw [(pick_ok (hl.prs _ (List.getElem_mem hk)).2).2, decide_eq_true rfl]
    rfl
theorem out_not {l o : Lab} (hl : LabV l) (ho : LabV o) (h : narrower l o = false) : fits o (outS l o) = false := by
  cases q : fits o (outS l o) with
  | false => rfl
  | true =>
    rw [fits_iff4] at q
    obtain ⟨q1, q2, q3, q4, q5⟩ := q
    rw [out_len] at q3 q4
    have z : narrower l o = true := by
      unfold narrower
      rw [Bool.and_eq_true, Bool.and_eq_true, Bool.and_eq_true, decide_eq_true_eq]
      refine ⟨q1.symm, ?_, ?_, ?_⟩
      · rw [Bool.or_eq_true, decide_eq_true_eq, decide_eq_true_eq]
        have q2' : ttlFits o.ttl (outTtl l o) = true := q2
        unfold ttlFits outTtl at q2'
        cases hO : o.ttl with
        | none => exact .inl rfl
        | some t =>
          rw [hO] at q2'
          cases hL : l.ttl with
          | some t' =>
            rw [hL] at q2'
            right
            rw [of_decide_eq_true q2']
          | none =>
            rw [hL] at q2'
            have e := of_decide_eq_true q2'
            by_cases c : (some t : Option Str) = some nA
            · rw [if_pos c] at e
              rw [e] at c
              exact absurd (Option.some.inj c).symm size_ab
            · rw [if_neg c] at e
              exact absurd (by rw [e]) c
      · unfold nw
        have hext : l.more = true → l.prs.length < o.prs.length → False := fun hm hlt => by
          have h0 : 0 < outN l o := by unfold outN; rw [if_pos hm]; omega
          have := q5 l.prs.length hlt
          unfold pairFits at this
          rw [List.getElem?_eq_getElem hlt, out_ext h0] at this
          dsimp only at this
          rw [Bool.and_eq_true, decide_eq_true_eq] at this
          have e := this.1
          unfold famAt at e
          rw [List.getElem?_eq_getElem hlt] at e
          exact unA_ne _ e.symm
        unfold outN at q3 q4
        cases hM : o.more with
        | true =>
          rw [if_pos rfl]
          rw [hM] at q4
          have q4' := of_decide_eq_true q4
          cases hL : l.more with
          | false =>
            rw [hL, if_neg (by decide)] at q4'
            rw [Bool.or_eq_true, decide_eq_true_eq]
            exact .inl (by omega)
          | true =>
            rw [Bool.or_eq_true, decide_eq_true_eq, Bool.true_and, decide_eq_true_eq]
            have : ¬ l.prs.length < o.prs.length := hext hL
            omega
        | false =>
          rw [if_neg (by decide)]
          rw [hM] at q4
          have q4' := of_decide_eq_false q4
          cases hL : l.more with
          | true =>
            rw [hL, if_pos rfl] at q4'
            omega
          | false =>
            rw [hL, if_neg (by decide)] at q3 q4'
            rw [Bool.not_false, Bool.true_and, decide_eq_true_eq]
            omega
      · rw [List.all_eq_true]
        intro p hp
        obtain ⟨k, hk⟩ := List.mem_iff_getElem?.mp hp
        rw [List.getElem?_zip_eq_some] at hk
        obtain ⟨k1, k2⟩ := hk
        obtain ⟨hk1, e1⟩ := List.getElem?_eq_some_iff.mp k1
        obtain ⟨hk2, e2⟩ := List.getElem?_eq_some_iff.mp k2
        have := q5 k hk2
        unfold pairFits at this
        rw [List.getElem?_eq_getElem hk2, out_at hk1] at this
        dsimp only at this
        rw [Bool.and_eq_true, decide_eq_true_eq] at this
        rw [Bool.and_eq_true, decide_eq_true_eq, ← e1, ← e2]
        refine ⟨this.1.symm, ?_⟩
        cases w : pw l.prs[k].2 o.prs[k].2 with
        | true => rfl
        | false =>
          have pa : partAt o k = o.prs[k].2 := by unfold partAt; rw [List.getElem?_eq_getElem hk2]; rfl
          have := this.2
          rw [pa, pick_not (hl.prs _ (List.getElem_mem hk1)).2 (ho.prs _ (List.getElem_mem hk2)).2 w] at this
          cases this
    rw [h] at z
    cases z
def titleB2 (t : Str) : Bool := decide (1 ≤ t.cps.size) && (decide (t.cps.size ≤ 40) && ((Txt.split t " ").all (fun x => x.cps.toList.all lowC && (decide (1 ≤ x.cps.size) && decide (x.cps.size ≤ 40))) && PyData.strOk t))
theorem titleB2_ok {t : Str} (h : titleB2 t = true) : TitleOk t := by
  unfold titleB2 at h
  simp only [Bool.and_eq_true, decide_eq_true_eq, List.all_eq_true] at h
  exact ⟨h.1, h.2.1, h.2.2.1, h.2.2.2⟩
theorem out_ok {l o : Lab} (hl : LabV l) : BkOk (outS l o) where
  ne := fun e => by
    have := congrArg List.length e
    rw [out_len, List.length_nil] at this
    have := List.length_pos_iff.mpr hl.ne
    omega
  ppl := fun p hp => by
    have hp' : p ∈ outFst l o ++ outExt l o (outN l o) := hp
    rcases List.mem_append.mp hp' with q | q
    · unfold outFst at q
      obtain ⟨z, hz, rfl⟩ := List.mem_map.mp q
      have hm := List.mem_of_getElem? (ix_mem hz)
      exact ⟨(hl.prs _ hm).1, (pick_ok (hl.prs _ hm).2).1⟩
    · unfold outExt at q
      obtain ⟨i, _, rfl⟩ := List.mem_map.mp q
      exact ⟨unA_ok _, okA⟩
  yr := hl.yr
  ttl := by
    show TitleOk (outTtl l o)
    unfold outTtl
    cases e : l.ttl with
    | some t => exact hl.ttl t e
    | none =>
      dsimp only
      split
      · exact titleB2_ok (by decide +kernel)
      · exact titleB2_ok (by decide +kernel)
set_option Elab.async false
set_option linter.all false
set_option maxRecDepth 100000
set_option maxHeartbeats 4000000
open PySem PySem.Spec PyProof.Rows L2
/-! ### the order of states, of the labels of a path -/
structure LeS (t u : Stat) : Prop where
  m : t.many ≤ u.many
  f : t.first ≤ u.first
  r : t.rest ≤ u.rest
  t : t.ttl = true → u.ttl = true
theorem LeS.refl (t : Stat) : LeS t t := ⟨Nat.le_refl _, Nat.le_refl _, Nat.le_refl _, id⟩
theorem LeS.trans {a b c : Stat} (h : LeS a b) (k : LeS b c) : LeS a c := ⟨Nat.le_trans h.m k.m, Nat.le_trans h.f k.f, Nat.le_trans h.r k.r, fun z => k.t (h.t z)⟩
theorem nxt_le {n : Nat} {t : Stat} {a : Wd} (h : StOk n t) : ∀ u ∈ nxtS t a n, LeS t u := by
  intro u hu
  have h1 := h.hi
  have h2 := h.lvl
  unfold Lvl at h2
  cases a <;> simp only [nxtS, List.mem_singleton, List.mem_map, List.mem_range] at hu
  · obtain ⟨i, hi, rfl⟩ := hu
    exact ⟨by show t.many ≤ t.many + 1 + i; omega, Nat.le_refl _, Nat.le_refl _, id⟩
  all_goals subst hu
  · exact ⟨h1, Nat.le_refl _, Nat.le_refl _, id⟩
  · exact ⟨Nat.le_refl _, Nat.le_max_left _ _, Nat.le_refl _, id⟩
  · exact ⟨Nat.le_refl _, Nat.le_max_left _ _, Nat.le_max_left _ _, id⟩
  · exact ⟨Nat.le_refl _, h2.1, Nat.le_refl _, id⟩
  · exact ⟨Nat.le_refl _, h2.1, h2.2, id⟩
  · exact ⟨Nat.le_refl _, Nat.le_refl _, Nat.le_refl _, fun _ => rfl⟩
theorem nxt_pw {n : Nat} {t : Stat} {a : Wd} : (nxtS t a n).Pairwise LeS := by
  cases a <;> simp only [nxtS, List.pairwise_singleton]
  rw [List.pairwise_map]
  refine List.Pairwise.imp (R := fun a b => a < b) (fun {i j} hij => ⟨by show t.many + 1 + i ≤ t.many + 1 + j; omega, Nat.le_refl _, Nat.le_refl _, id⟩) ?_
  exact List.pairwise_lt_range
theorem lastD_ge {n : Nat} {t : Stat} {a : Wd} (h : StOk n t) : LeS t ((nxtS t a n).getLastD t) ∧ ∀ u ∈ nxtS t a n, LeS u ((nxtS t a n).getLastD t) := by
  rcases List.eq_nil_or_concat (nxtS t a n) with e | ⟨ys, y, e⟩
  · rw [e]
    exact And.intro (LeS.refl t) fun u hu => by cases hu
  · have hl : (nxtS t a n).getLastD t = y := by rw [e]; simp
    rw [hl]
    have hy : y ∈ nxtS t a n := by rw [e]; simp
    refine ⟨nxt_le h y hy, fun u hu => ?_⟩
    have pw := nxt_pw (n := n) (t := t) (a := a)
    rw [e, List.concat_eq_append] at pw hu
    rw [List.pairwise_append] at pw
    rcases List.mem_append.mp hu with q | q
    · exact pw.2.2 u q y List.mem_cons_self
    · rw [List.mem_singleton.mp q]; exact LeS.refl y
theorem from_pw {n : Nat} (hn : 1 ≤ n) : ∀ (ws : List Wd) (t : Stat), StOk n t → (∀ u ∈ statesFrom t ws n, LeS t u) ∧ (statesFrom t ws n).Pairwise LeS
  | [], _, _ => ⟨fun u hu => (nomatch hu), List.Pairwise.nil⟩
  | a :: ws, t, h => by
    obtain ⟨h1, h2⟩ := from_pw hn ws _ (lastD_ok (a := a) hn h)
    obtain ⟨g1, g2⟩ := lastD_ge (a := a) h
    unfold statesFrom
    refine ⟨fun u hu => ?_, ?_⟩
    · rcases List.mem_append.mp hu with q | q
      · exact nxt_le h u q
      · exact g1.trans (h1 u q)
    · rw [List.pairwise_append]
      exact ⟨nxt_pw, h2, fun u hu v hv => (g2 u hu).trans (h1 v hv)⟩
theorem states_pw {y : Sty} (hy : StyOk y) {n : Nat} (hn : 1 ≤ n) : (statesOf y n).Pairwise LeS := by
  unfold statesOf
  obtain ⟨h1, h2⟩ := from_pw hn y.steps _ (first_ok hy hn)
  exact List.Pairwise.cons h1 h2
theorem shown_le {t u : Stat} (h : LeS t u) : LeS (shownS t) (shownS u) := by
  refine ⟨h.m, h.f, ?_, h.t⟩
  unfold shownS
  dsimp only
  have := h.m
  have := h.r
  split <;> split <;> omega
section
variable {α : Type} [DecidableEq α]
theorem fold_sub : ∀ (xs A : List α), (xs.foldl pushN A).Sublist (A ++ xs)
  | [], A => by simp
  | x :: xs, A => by
    rw [List.foldl_cons]
    refine (fold_sub xs (pushN A x)).trans ?_
    have : (pushN A x).Sublist (A ++ [x]) := by
      unfold pushN
      split
      · exact List.sublist_append_left _ _
      · exact List.Sublist.refl _
    have := this.append (List.Sublist.refl xs)
    rwa [List.append_assoc] at this
theorem noRep_sublist (xs : List α) : (noRep xs).Sublist xs := by
  have := fold_sub xs []
  rwa [List.nil_append] at this
def NC (l : List α) : Prop := ∀ i, i + 1 < l.length → l[i]? ≠ l[i + 1]?
theorem NC.push {A : List α} (h : NC A) (x : α) : NC (pushN A x) := by
  unfold pushN
  split
  · exact h
  · rename_i hx
    intro i hi
    rw [List.length_append, List.length_singleton] at hi
    by_cases e : i + 1 < A.length
    · rw [List.getElem?_append_left (by omega), List.getElem?_append_left e]
      exact h i e
    · have : i + 1 = A.length := by omega
      rw [List.getElem?_append_left (by omega), List.getElem?_append_right (by omega), this, Nat.sub_self]
      intro z
      refine hx ?_
      rw [List.getLast?_eq_getElem?, show A.length - 1 = i by omega, z]
      rfl
theorem noRep_nc (xs : List α) : NC (noRep xs) := by
  have : ∀ (xs A : List α), NC A → NC (xs.foldl pushN A) := by
    intro xs
    induction xs with
    | nil => intro A h; exact h
    | cons x xs ih => intro A h; exact ih _ (h.push x)
  exact this xs [] fun i hi => absurd hi (by simp)
end
theorem seen_pw {y : Sty} (hy : StyOk y) {n : Nat} (hn : 1 ≤ n) : (seenOf y n).Pairwise LeS := by
  refine List.Pairwise.sublist (noRep_sublist _) ?_
  rw [List.pairwise_map]
  exact (states_pw hy hn).imp shown_le
theorem seen_ok {y : Sty} (hy : StyOk y) {n : Nat} (hn : 1 ≤ n) : ∀ u ∈ seenOf y n, StOk n u ∧ shownS u = u := fun u hu => by
  obtain ⟨t, ht, rfl⟩ := List.mem_map.mp (noRep_sub hu)
  refine ⟨shown_ok (states_ok hy hn t ht), ?_⟩
  unfold shownS
  dsimp only
  split <;> rfl
/-! ### labels of one source -/
theorem part_mono {g h : Str} (hg : NameOk g) (hh : NameOk h) {a b : Nat} (hb : b ≤ 2) (ab : a ≤ b) (k : partFits (partBy g b) h = true) : partFits (partBy g a) h = true := by
  rw [fits_iff] at k ⊢
  rcases (by omega : b = 0 ∨ b = 1 ∨ b = 2) with rfl | rfl | rfl
  · rw [show a = 0 by omega]; exact .inl rfl
  · rcases (by omega : a = 0 ∨ a = 1) with rfl | rfl
    · exact .inl rfl
    · exact k
  · have k' : g = "" ∨ g = h ∨ g = ini h := k
    have e : g = h := by
      rcases k' with k | k | k
      · exact absurd k (name_ne hg)
      · exact k
      · exact absurd k.symm (ini_name hg)
    subst e
    rcases (by omega : a = 0 ∨ a = 1 ∨ a = 2) with rfl | rfl | rfl
    · exact .inl rfl
    · exact .inr (.inr rfl)
    · exact .inr (.inl rfl)
theorem lab_prs_len {s : Bk} {t : Stat} (h : StOk s.ppl.length t) : (labelBy s t).prs.length = t.many := by
  show (labPairs s t).length = _
  rw [labPairs_len]
  have := h.hi
  omega
theorem lab_at {s : Bk} {t : Stat} (h : StOk s.ppl.length t) {i : Nat} (hi : i < t.many) : ∃ hj : i < s.ppl.length, (labelBy s t).prs[i]? = some (s.ppl[i].1, partBy s.ppl[i].2 (if 0 < i then t.rest else t.first)) := by
  have := h.hi
  exact ⟨by omega, prOf_at hi (by omega)⟩
theorem lvl_at {t u : Stat} (h : LeS t u) (i : Nat) : (if 0 < i then t.rest else t.first) ≤ (if 0 < i then u.rest else u.first) := by
  split
  · exact h.r
  · exact h.f
theorem lvl_le2 {n : Nat} {u : Stat} (h : StOk n u) (i : Nat) : (if 0 < i then u.rest else u.first) ≤ 2 := by
  split
  · exact h.lvl.2
  · exact h.lvl.1
theorem fits_mono {s o : Bk} (hs : BkOk s) (ho : BkOk o) {t u : Stat} (ht : StOk s.ppl.length t) (hu : StOk s.ppl.length u) (h : LeS t u) (k : fits (labelBy s u) o = true) : fits (labelBy s t) o = true := by
  rw [fits_iff4] at k ⊢
  obtain ⟨k1, k2, k3, k4, k5⟩ := k
  rw [lab_prs_len hu] at k3 k4 k5
  rw [lab_prs_len ht]
  have hm := h.m
  have tu := hu.hi
  have tt := ht.hi
  have em : (labelBy s u).more = decide (u.many < s.ppl.length) := rfl
  rw [em] at k4
  refine ⟨k1, ?_, by omega, ?_, fun i hi => ?_⟩
  · show ttlFits (if t.ttl = true then some s.ttl else none) o.ttl = true
    have k2' : ttlFits (if u.ttl = true then some s.ttl else none) o.ttl = true := k2
    by_cases c : t.ttl = true
    · rw [if_pos c]
      rw [if_pos (h.t c)] at k2'
      exact k2'
    · rw [if_neg c]; rfl
  · show _ = decide (t.many < s.ppl.length)
    by_cases c : u.many < s.ppl.length
    · rw [decide_eq_true c] at k4
      have := of_decide_eq_true k4
      rw [decide_eq_true (by omega), decide_eq_true (by omega)]
    · rw [decide_eq_false c] at k4
      have := of_decide_eq_false k4
      by_cases c2 : t.many < s.ppl.length
      · rw [decide_eq_true (by omega), decide_eq_true c2]
      · rw [decide_eq_false (by omega), decide_eq_false c2]
  · have ki := k5 i (by omega)
    obtain ⟨hj, e1⟩ := lab_at ht hi
    obtain ⟨_, e2⟩ := lab_at hu (i := i) (by omega)
    unfold pairFits at ki ⊢
    rw [e2] at ki
    rw [e1]
    have ho' : i < o.ppl.length := by omega
    rw [List.getElem?_eq_getElem ho'] at ki ⊢
    dsimp only at ki ⊢
    rw [Bool.and_eq_true] at ki ⊢
    exact ⟨ki.1, part_mono (hs.ppl _ (List.getElem_mem hj)).2 (ho.ppl _ (List.getElem_mem ho')).2 (lvl_le2 hu i) (lvl_at h i) ki.2⟩
theorem self_fits {s : Bk} (hs : BkOk s) {t : Stat} (ht : StOk s.ppl.length t) : fits (labelBy s t) s = true := by
  rw [fits_iff4, lab_prs_len ht]
  refine ⟨rfl, ?_, ht.hi, rfl, fun i hi => ?_⟩
  · show ttlFits (if t.ttl = true then some s.ttl else none) s.ttl = true
    split
    · exact decide_eq_true rfl
    · rfl
  · obtain ⟨hj, e1⟩ := lab_at ht hi
    unfold pairFits
    rw [e1, List.getElem?_eq_getElem hj]
    dsimp only
    rw [decide_eq_true rfl, Bool.true_and, fits_iff]
    have := lvl_le2 ht i
    rcases (by omega : (if 0 < i then t.rest else t.first) = 0 ∨ (if 0 < i then t.rest else t.first) = 1 ∨ (if 0 < i then t.rest else t.first) = 2) with e | e | e <;> rw [e]
    · exact .inl rfl
    · exact .inr (.inr rfl)
    · exact .inr (.inl rfl)
theorem partBy_ok {g : Str} (h : NameOk g) (n : Nat) : PartOk (partBy g n) := by
  unfold partBy
  split
  · exact .inl rfl
  · exact .inr (.inr ⟨g, h, rfl⟩)
  · exact .inr (.inl h)
theorem labelV {s : Bk} (hs : BkOk s) {t : Stat} (ht : StOk s.ppl.length t) : LabV (labelBy s t) where
  ne := fun e => by
    have := congrArg List.length e
    rw [lab_prs_len ht, List.length_nil] at this
    have := ht.lo
    omega
  prs := fun p hp => by
    have hp2 : p ∈ labPairs s t := hp
    unfold labPairs at hp2
    obtain ⟨q, hq, rfl⟩ := List.mem_map.mp (List.mem_of_mem_take hp2)
    have := List.mem_zipIdx hq
    have ho := hs.ppl q.1 (by rw [this.2.2]; exact List.getElem_mem _)
    exact ⟨ho.1, partBy_ok ho.2 _⟩
  yr := hs.yr
  ttl := fun u hu => by
    have hu' : (if t.ttl = true then some s.ttl else none) = some u := hu
    split at hu'
    · cases hu'; exact hs.ttl
    · cases hu'
  lt := ⟨fun c hc => (by cases hc), by show ("" : Str).cps.size ≤ 4096; decide⟩
theorem pw_le {g : Str} (hg : NameOk g) {a b : Nat} (hb : b ≤ 2) (ab : a ≤ b) (k : pw (partBy g a) (partBy g b) = true) : partBy g a = partBy g b := by
  rw [pw_iff] at k
  rcases (by omega : b = 0 ∨ b = 1 ∨ b = 2) with rfl | rfl | rfl
  · rw [show a = 0 by omega]
  · rcases (by omega : a = 0 ∨ a = 1) with rfl | rfl
    · have k' : ini g = "" ∨ ini g = "" ∨ (("" : Str) ≠ "" ∧ ini g = ini "") := k
      rcases k' with k | k | k
      · exact absurd k (ini_ne0 g)
      · exact absurd k (ini_ne0 g)
      · exact absurd rfl k.1
    · rfl
  · rcases (by omega : a = 0 ∨ a = 1 ∨ a = 2) with rfl | rfl | rfl
    · have k' : g = "" ∨ g = "" ∨ (("" : Str) ≠ "" ∧ g = ini "") := k
      rcases k' with k | k | k
      · exact absurd k (name_ne hg)
      · exact absurd k (name_ne hg)
      · exact absurd rfl k.1
    · have k' : g = "" ∨ g = ini g ∨ (ini g ≠ "" ∧ g = ini (ini g)) := k
      rcases k' with k | k | k
      · exact absurd k (name_ne hg)
      · exact absurd k.symm (ini_name hg)
      · exact absurd (k.2.trans (ini_ini g)).symm (ini_name hg)
    · rfl
theorem narrower_same {s : Bk} (hs : BkOk s) {t u : Stat} (ht : StOk s.ppl.length t) (hu : StOk s.ppl.length u) (h : LeS t u) (k : narrower (labelBy s t) (labelBy s u) = true) : labelBy s t = labelBy s u := by
  unfold narrower at k
  rw [Bool.and_eq_true, Bool.and_eq_true, Bool.and_eq_true] at k
  obtain ⟨_, k2, k3, k4⟩ := k
  have hm := h.m
  have em : t.many = u.many := by
    unfold nw at k3
    rw [lab_prs_len ht, lab_prs_len hu] at k3
    split at k3
    · rw [Bool.or_eq_true, decide_eq_true_eq, Bool.and_eq_true, decide_eq_true_eq] at k3
      omega
    · rw [Bool.and_eq_true, decide_eq_true_eq] at k3
      exact k3.2
  have et : (labelBy s t).ttl = (labelBy s u).ttl := by
    show (if t.ttl = true then some s.ttl else none) = (if u.ttl = true then some s.ttl else none)
    have k2' : (decide ((if u.ttl = true then some s.ttl else none) = none) || decide ((if u.ttl = true then some s.ttl else none) = (if t.ttl = true then some s.ttl else none))) = true := k2
    rw [Bool.or_eq_true, decide_eq_true_eq, decide_eq_true_eq] at k2'
    rcases k2' with k | k
    · split at k
      · cases k
      · rename_i c
        rw [if_neg (fun z => c (h.t z)), if_neg c]
    · exact k.symm
  have ep : (labelBy s t).prs = (labelBy s u).prs := by
    apply List.ext_getElem?
    intro i
    by_cases hi : i < t.many
    · obtain ⟨hj, e1⟩ := lab_at ht hi
      obtain ⟨_, e2⟩ := lab_at hu (i := i) (by omega)
      rw [e1, e2]
      have hz : ((labelBy s t).prs.zip (labelBy s u).prs)[i]? = some ((s.ppl[i].1, partBy s.ppl[i].2 (if 0 < i then t.rest else t.first)), (s.ppl[i].1, partBy s.ppl[i].2 (if 0 < i then u.rest else u.first))) := by
        rw [List.getElem?_zip_eq_some]
        exact ⟨e1, e2⟩
      have := List.all_eq_true.mp k4 _ (List.mem_of_getElem? hz)
      rw [Bool.and_eq_true] at this
      rw [pw_le (hs.ppl _ (List.getElem_mem hj)).2 (lvl_le2 hu i) (lvl_at h i) this.2]
    · rw [List.getElem?_eq_none (by rw [lab_prs_len ht]; omega), List.getElem?_eq_none (by rw [lab_prs_len hu]; omega)]
  have eM : (labelBy s t).more = (labelBy s u).more := by
    show decide (t.many < s.ppl.length) = decide (u.many < s.ppl.length)
    rw [em]
  have : ∀ a b : Lab, a.prs = b.prs → a.more = b.more → a.yr = b.yr → a.ttl = b.ttl → a.lt = b.lt → a = b := fun a b h1 h2 h3 h4 h5 => by
    cases a; cases b; simp_all
  exact this _ _ ep eM rfl et rfl
theorem narrower_refl (l : Lab) : narrower l l = true := by
  unfold narrower nw
  rw [Bool.and_eq_true, Bool.and_eq_true, Bool.and_eq_true]
  refine ⟨decide_eq_true rfl, by rw [Bool.or_eq_true]; exact .inr (decide_eq_true rfl), ?_, ?_⟩
  · cases l.more <;> simp
  · rw [List.all_eq_true]
    intro q hq
    obtain ⟨k, hk⟩ := List.mem_iff_getElem?.mp hq
    rw [List.getElem?_zip_eq_some] at hk
    have e : q.1 = q.2 := by
      have := hk.1.symm.trans hk.2
      exact Option.some.inj this
    rw [e, Bool.and_eq_true, pw_iff]
    exact ⟨decide_eq_true rfl, .inr (.inl rfl)⟩
/-! ### paths -/
structure PathOk (s : Bk) (p : List Lab) : Prop where
  st : ∃ ts : List Stat, p = ts.map (labelBy s) ∧ ts.Pairwise LeS ∧ (∀ t ∈ ts, StOk s.ppl.length t) ∧ NC p
theorem path_ok {y : Sty} {s : Bk} (hy : StyOk y) (hs : BkOk s) : PathOk s (pathOf y s) := by
  have hn : 1 ≤ s.ppl.length := List.length_pos_iff.mpr hs.ne
  refine ⟨seenOf y s.ppl.length, rfl, seen_pw hy hn, fun t ht => (seen_ok hy hn t ht).1, ?_⟩
  rw [path_raw hy hs]
  exact noRep_nc _
/-- what a label of a path fits, the ones ahead fit -/
theorem path_chain {s o : Bk} {p : List Lab} (h : PathOk s p) (hs : BkOk s) (ho : BkOk o) {i j : Nat} (hij : i ≤ j) (hj : j < p.length) (k : fits p[j] o = true) : fits (p[i]'(by omega)) o = true := by
  obtain ⟨ts, rfl, pw, ok, _⟩ := h
  rw [List.length_map] at hj
  rw [List.getElem_map] at k ⊢
  rcases Nat.lt_or_ge i j with q | q
  · exact fits_mono hs ho (ok _ (List.getElem_mem _)) (ok _ (List.getElem_mem _)) (List.pairwise_iff_getElem.mp pw i j (by omega) hj q) k
  · have : i = j := by omega
    subst this
    exact k
theorem path_narrow {s : Bk} {p : List Lab} (h : PathOk s p) (hs : BkOk s) {k : Nat} (h1 : 1 ≤ k) (hk : k < p.length) : narrower (p[k - 1]'(by omega)) p[k] = false := by
  obtain ⟨ts, rfl, pw, ok, nc⟩ := h
  have hk' : k < ts.length := by rwa [List.length_map] at hk
  cases q : narrower ((ts.map (labelBy s))[k - 1]'(by omega)) (ts.map (labelBy s))[k] with
  | false => rfl
  | true =>
    exfalso
    rw [List.getElem_map, List.getElem_map] at q
    have e := narrower_same hs (ok _ (List.getElem_mem _)) (ok _ (List.getElem_mem _)) (List.pairwise_iff_getElem.mp pw (k - 1) k (by omega) hk' (by omega)) q
    have := nc (k - 1) (by omega)
    rw [show k - 1 + 1 = k by omega, List.getElem?_map, List.getElem?_map, List.getElem?_eq_getElem (show k - 1 < ts.length by omega), List.getElem?_eq_getElem hk'] at this
    exact this (congrArg some e)
theorem path_V {s : Bk} {p : List Lab} (h : PathOk s p) (hs : BkOk s) : ∀ l ∈ p, LabV l ∧ fits l s = true ∧ l.prs.length ≤ s.ppl.length := by
  obtain ⟨ts, rfl, _, ok, _⟩ := h
  intro l hl
  obtain ⟨t, ht, rfl⟩ := List.mem_map.mp hl
  exact ⟨labelV hs (ok t ht), self_fits hs (ok t ht), by rw [lab_prs_len (ok t ht)]; exact (ok t ht).hi⟩
/-- the label that says all -/
def topS (n : Nat) : Stat := ⟨n, 2, 2, true⟩
theorem topS_ok {n : Nat} (h : 1 ≤ n) : StOk n (topS n) := ⟨h, Nat.le_refl _, Nat.le_refl _, Nat.le_refl _⟩
theorem le_top {n : Nat} {t : Stat} (h : StOk n t) : LeS t (topS n) := ⟨h.hi, h.lvl.1, h.lvl.2, fun _ => rfl⟩
theorem top_eq (s : Bk) : labelBy s (topS s.ppl.length) = ⟨s.ppl, false, s.yr, some s.ttl, ""⟩ := by
  have e : labPairs s (topS s.ppl.length) = s.ppl := by
    apply List.ext_getElem?
    intro i
    by_cases h : i < s.ppl.length
    · rw [prOf_at (t := topS s.ppl.length) h h, List.getElem?_eq_getElem h]
      have : (if 0 < i then (topS s.ppl.length).rest else (topS s.ppl.length).first) = 2 := by split <;> rfl
      rw [this]
      rfl
    · rw [List.getElem?_eq_none (by rw [labPairs_len]; show min s.ppl.length _ ≤ i; omega), List.getElem?_eq_none (by omega)]
  unfold labelBy
  rw [e]
  show Lab.mk s.ppl (decide (s.ppl.length < s.ppl.length)) s.yr (some s.ttl) "" = _
  rw [decide_eq_false (Nat.lt_irrefl _)]
theorem last_narrow {s : Bk} {p : List Lab} (h : PathOk s p) (hs : BkOk s) {l : Lab} (hl : l ∈ p) : narrower l ⟨s.ppl, false, s.yr, some s.ttl, ""⟩ = true ↔ l = ⟨s.ppl, false, s.yr, some s.ttl, ""⟩ := by
  have hn : 1 ≤ s.ppl.length := List.length_pos_iff.mpr hs.ne
  obtain ⟨ts, rfl, _, ok, _⟩ := h
  obtain ⟨t, ht, rfl⟩ := List.mem_map.mp hl
  rw [← top_eq]
  constructor
  · exact narrower_same hs (ok t ht) (topS_ok hn) (le_top (ok t ht))
  · intro e; rw [e]; exact narrower_refl _
set_option Elab.async false
set_option linter.all false
set_option maxRecDepth 100000
set_option maxHeartbeats 2000000
open PySem PySem.Spec PyProof.Rows L2
/-! ### labels compared -/
theorem eqvO (a b : Option Str) : PyData.eqv (eO a) (eO b) = decide (a = b) := by
  cases a <;> cases b <;> simp only [eO, PyData.eqv, reduceCtorEq, decide_false, decide_true, Option.some.injEq]
  rw [Bool.eq_iff_iff, beq_iff_eq, decide_eq_true_eq]
theorem eqvL (a b : Lab) : PyData.eqv (eL a) (eL b) = decide (a = b) := by
  obtain ⟨a1, a2, a3, a4, a5⟩ := a
  obtain ⟨b1, b2, b3, b4, b5⟩ := b
  unfold eL
  simp only [PyData.eqv, PyData.eqvAll, Bool.and_true, Lab.mk.injEq, eqvAll_map eP eqvP, eqvO]
  rw [Bool.eq_iff_iff]
  simp only [Bool.and_eq_true, beq_iff_eq, decide_eq_true_eq]
theorem okL {l : Lab} (h : LabOk l) (ht : sok l.lt) : Ok 3 (eL l) := Ok.tuple fun d hd => by
  simp only [List.mem_cons, List.not_mem_nil, or_false] at hd
  rcases hd with rfl | rfl | rfl | rfl | rfl
  · exact Ok.tuple fun d hd => by
      obtain ⟨p, hp, rfl⟩ := List.mem_map.mp hd
      exact okP (h.prs p hp).1 (h.prs p hp).2
  · exact Ok.bool
  · exact Ok.int
  · cases e : l.ttl with
    | none => exact Ok.none
    | some t => exact Ok.str (h.ttl t e)
  · exact Ok.str ht
theorem sok_nil : sok "" := by unfold sok; decide +kernel
theorem neL {a b : Lab} (ha : LabOk a) (hb : LabOk b) (ta : sok a.lt) (tb : sok b.lt) : neD (eL a) (eL b) = some (.val (.bool (!decide (a = b)))) := by
  unfold neD
  rw [okD_of (okL ha ta), okD_of (okL hb tb), eqvL]
  rfl
/-! ### the law's same, of a value with itself -/
def PlainD : Nat → D → Prop
  | _, .none => True
  | _, .bool _ => True
  | _, .int _ => True
  | _, .str x => sok x
  | 0, .list _ => False
  | 0, .tuple _ => False
  | n + 1, .list ds => ds.length ≤ 4096 ∧ ∀ d ∈ ds, PlainD n d
  | n + 1, .tuple ds => ds.length ≤ 4096 ∧ ∀ d ∈ ds, PlainD n d
  | _, .dict _ => False
theorem PlainD.ok : ∀ {n : Nat} {d : D}, PlainD n d → Ok n d
  | _, .none, _ => Ok.none
  | _, .bool _, _ => Ok.bool
  | _, .int _, _ => Ok.int
  | _, .str x, h => by
    have : sok x := by cases n_of : (0 : Nat) <;> (unfold PlainD at h; exact h)
    exact Ok.str this
  | 0, .list _, h => by unfold PlainD at h; exact h.elim
  | 0, .tuple _, h => by unfold PlainD at h; exact h.elim
  | n + 1, .list ds, h => by unfold PlainD at h; exact Ok.list fun d hd => (h.2 d hd).ok
  | n + 1, .tuple ds, h => by unfold PlainD at h; exact Ok.tuple fun d hd => (h.2 d hd).ok
  | _, .dict _, h => by unfold PlainD at h; exact h.elim
theorem plain_int {n : Nat} {i : Int} : PlainD n (.int i) := by unfold PlainD; trivial
theorem plain_none {n : Nat} : PlainD n .none := by unfold PlainD; trivial
theorem plain_bool {n : Nat} {b : Bool} : PlainD n (.bool b) := by unfold PlainD; trivial
theorem plain_str {n : Nat} {x : Str} (h : sok x) : PlainD n (.str x) := by unfold PlainD; exact h
theorem plain_list {n : Nat} {ds : List D} (hl : ds.length ≤ 4096) (h : ∀ d ∈ ds, PlainD n d) : PlainD (n + 1) (.list ds) := by unfold PlainD; exact ⟨hl, h⟩
theorem plain_tuple {n : Nat} {ds : List D} (hl : ds.length ≤ 4096) (h : ∀ d ∈ ds, PlainD n d) : PlainD (n + 1) (.tuple ds) := by unfold PlainD; exact ⟨hl, h⟩
theorem plain_N {n : Nat} (o : Option Nat) : PlainD n (eN o) := by cases o; exact plain_none; exact plain_int
/-- a label cut ahead of its letters -/
def eL4 (l : Lab) : D := .tuple [.tuple (l.prs.map eP), .bool l.more, .int l.yr, eO l.ttl]
theorem cut_L (l : Lab) : slD none (some 4) (eL l) = some (.val (eL4 l)) := rfl
theorem plain_P {p : Pr} {n : Nat} (h : sok p.1 ∧ sok p.2) : PlainD (n + 1) (eP p) := plain_tuple (by show 2 ≤ 4096; decide) fun d hd => by
  simp only [List.mem_cons, List.not_mem_nil, or_false] at hd
  rcases hd with rfl | rfl
  · exact plain_str h.1
  · exact plain_str h.2
theorem plain_L4 {l : Lab} {n : Nat} (h : LabOk l) (hn : l.prs.length ≤ 4096) : PlainD (n + 3) (eL4 l) := plain_tuple (by show 4 ≤ 4096; decide) fun d hd => by
  simp only [List.mem_cons, List.not_mem_nil, or_false] at hd
  rcases hd with rfl | rfl | rfl | rfl
  · refine plain_tuple (by rwa [List.length_map]) fun d hd => ?_
    obtain ⟨p, hp, rfl⟩ := List.mem_map.mp hd
    exact plain_P (h.prs p hp)
  · exact plain_bool
  · exact plain_int
  · cases e : l.ttl with
    | none => exact plain_none
    | some t => exact plain_str (h.ttl t e)
set_option Elab.async false
set_option linter.all false
set_option maxRecDepth 100000
set_option maxHeartbeats 2000000
open PySem PySem.Spec PyProof.Rows L2
noncomputable def sameB (m : Sl → Option Fl) : Sl → Option Fl := mSeq (mIf (mTOr (mB (mIsi "bool" (mVar 0))) (mB (mIsi "bool" (mVar 1)))) (mRet (mAndV (mIsi "bool" (mVar 0)) (mAndV (mIsi "bool" (mVar 1)) (m2 eqD (mVar 0) (mVar 1))))) (mNext)) (mSeq (mIf (mB (m2 neD (mIsi "list" (mVar 0)) (mIsi "list" (mVar 1)))) (mRet (mC (.bool false))) (mNext)) (mSeq (mIf (mTAnd (mB (mIsi2 "list" "tuple" (mVar 0))) (mB (mIsi2 "list" "tuple" (mVar 1)))) (mSeq (mIf (mB (m2 neD (mCall lenD (mCons (mVar 0) (mNil))) (mCall lenD (mCons (mVar 1) (mNil))))) (mRet (mC (.bool false))) (mNext)) (mRet (m2 eqD (mLc [2] (mRng1 true (mCons (mCall lenD (mCons (mVar 1) (mNil))) (mNil))) (gNm 2) (mTNot (mB (mFn' 2 3 m [false, false] [] (mCons (m2 ixD (mVar 0) (mVar 2)) (mCons (m2 ixD (mVar 1) (mVar 2)) (mNil)))))) (mVar 2)) (mLst (mNil))))) (mNext)) (mRet (mAndV (m2 eqD (mVar 0) (mVar 1)) (m2 eqD (mIsi "int" (mVar 0)) (mIsi "int" (mVar 1)))))))
theorem eq_nil0 : eqD (.list []) (.list []) = some (.val (.bool true)) := by
  have := eq_nil (n := 0) (ds := []) (fun d h => by cases h) (by decide)
  exact this
theorem same_seq {m : Sl → Option Fl} {n : Nat} (H : ∀ d, PlainD n d → callV 3 m [d, d] = some (.val (.bool true))) {ds : List D} (hl : ds.length ≤ 4096) (hd : ∀ d ∈ ds, PlainD n d) (c : List D → D) (hc : c = .list ∨ c = .tuple) :
    mLc [2] (mRng1 true (mCons (mCall lenD (mCons (mVar 1) (mNil))) (mNil))) (gNm 2) (mTNot (mB (mFn' 2 3 m [false, false] [] (mCons (m2 ixD (mVar 0) (mVar 2)) (mCons (m2 ixD (mVar 1) (mVar 2)) (mNil)))))) (mVar 2) [.val (c ds), .val (c ds), .un] = some (.tmp (.lst []), [.val (c ds), .val (c ds), .un]) := by
  have h := lc_if (vs := [2]) (g := gNm 2) (t := mTNot (mB (mFn' 2 3 m [false, false] [] (mCons (m2 ixD (mVar 0) (mVar 2)) (mCons (m2 ixD (mVar 1) (mVar 2)) (mNil)))))) (e := mVar 2) (ρ1 := [.val (c ds), .val (c ds), .un])
    (rng1_ix ds (bd := true) (ma := mCons (mCall lenD (mCons (mVar 1) (mNil))) (mNil)) (ρ := [.val (c ds), .val (c ds), .un]) (ρ1 := [.val (c ds), .val (c ds), .un]) (by rcases hc with rfl | rfl <;> simp_all_arith []) (by omega)) (fun _ => false) (fun q => .int (q.2 : Nat)) (fun q hq => by
      have hi := ix_mem hq
      have hs := H q.1 (hd _ (List.mem_of_getElem? hi))
      refine ⟨[.val (c ds), .val (c ds), .val (.int (q.2 : Nat))], rfl, rfl, ?_, fun z => (nomatch z)⟩
      rcases hc with rfl | rfl
      · have ix := ixl hi
        simp_all_arith [ix, hs]
      · have ix := ixn hi
        simp_all_arith [ix, hs])
  rw [h]
  simp
theorem same_step {m : Sl → Option Fl} {n : Nat} (H : ∀ d, PlainD n d → callV 3 m [d, d] = some (.val (.bool true))) : ∀ d, PlainD (n + 1) d → callV 3 (sameB m) [d, d] = some (.val (.bool true)) := by
  intro d hd
  refine callV_eq ?_
  unfold sameB
  cases d with
  | dict _ => unfold PlainD at hd; exact hd.elim
  | none =>
    (refine WS.seq (WS.ifF (by simp_all_arith []; rfl) (WS.next ?_)); dsimp only)
    (refine WS.seq (WS.ifF (by simp_all_arith []; rfl) (WS.next ?_)); dsimp only)
    (refine WS.seq (WS.ifF (by simp_all_arith []; rfl) (WS.next ?_)); dsimp only)
    have e : eqD .none .none = some (.val (.bool true)) := rfl
    refine WS.ret (by simp_all_arith [e]; rfl) ?_
    rfl
  | bool b =>
    refine WS.seq (WS.ifT (by simp_all_arith []; rfl) ?_)
    refine WS.ret (by simp_all_arith []; rfl) ?_
    rfl
  | int i =>
    (refine WS.seq (WS.ifF (by simp_all_arith []; rfl) (WS.next ?_)); dsimp only)
    (refine WS.seq (WS.ifF (by simp_all_arith []; rfl) (WS.next ?_)); dsimp only)
    (refine WS.seq (WS.ifF (by simp_all_arith []; rfl) (WS.next ?_)); dsimp only)
    refine WS.ret (by simp_all_arith []; rfl) ?_
    rfl
  | str x =>
    have hx : sok x := by unfold PlainD at hd; exact hd
    have e := eq_str hx hx
    (refine WS.seq (WS.ifF (by simp_all_arith []; rfl) (WS.next ?_)); dsimp only)
    (refine WS.seq (WS.ifF (by simp_all_arith []; rfl) (WS.next ?_)); dsimp only)
    (refine WS.seq (WS.ifF (by simp_all_arith []; rfl) (WS.next ?_)); dsimp only)
    refine WS.ret (by simp_all_arith [e]; rfl) ?_
    rfl
  | list ds =>
    unfold PlainD at hd
    have e := same_seq H hd.1 hd.2 .list (.inl rfl)
    (refine WS.seq (WS.ifF (by simp_all_arith []; rfl) (WS.next ?_)); dsimp only)
    (refine WS.seq (WS.ifF (by simp_all_arith []; rfl) (WS.next ?_)); dsimp only)
    refine WS.seq (WS.ifT (by simp_all_arith []; rfl) ?_)
    (refine WS.seq (WS.ifF (by simp_all_arith []; rfl) (WS.next ?_)); dsimp only)
    refine WS.ret (by simp_all_arith [e, eq_nil0]; rfl) ?_
    rfl
  | tuple ds =>
    unfold PlainD at hd
    have e := same_seq H hd.1 hd.2 .tuple (.inr rfl)
    (refine WS.seq (WS.ifF (by simp_all_arith []; rfl) (WS.next ?_)); dsimp only)
    (refine WS.seq (WS.ifF (by simp_all_arith []; rfl) (WS.next ?_)); dsimp only)
    refine WS.seq (WS.ifT (by simp_all_arith []; rfl) ?_)
    (refine WS.seq (WS.ifF (by simp_all_arith []; rfl) (WS.next ?_)); dsimp only)
    refine WS.ret (by simp_all_arith [e, eq_nil0]; rfl) ?_
    rfl
theorem same_zero {m : Sl → Option Fl} : ∀ d, PlainD 0 d → callV 3 (sameB m) [d, d] = some (.val (.bool true)) := by
  intro d hd
  have : PlainD 0 d → ∃ n, False ∨ True := fun _ => ⟨0, .inr trivial⟩
  refine callV_eq ?_
  unfold sameB
  cases d with
  | dict _ => unfold PlainD at hd; exact hd.elim
  | list _ => unfold PlainD at hd; exact hd.elim
  | tuple _ => unfold PlainD at hd; exact hd.elim
  | none =>
    (refine WS.seq (WS.ifF (by simp_all_arith []; rfl) (WS.next ?_)); dsimp only)
    (refine WS.seq (WS.ifF (by simp_all_arith []; rfl) (WS.next ?_)); dsimp only)
    (refine WS.seq (WS.ifF (by simp_all_arith []; rfl) (WS.next ?_)); dsimp only)
    have e : eqD .none .none = some (.val (.bool true)) := rfl
    refine WS.ret (by simp_all_arith [e]; rfl) ?_
    rfl
  | bool b =>
    refine WS.seq (WS.ifT (by simp_all_arith []; rfl) ?_)
    refine WS.ret (by simp_all_arith []; rfl) ?_
    rfl
  | int i =>
    (refine WS.seq (WS.ifF (by simp_all_arith []; rfl) (WS.next ?_)); dsimp only)
    (refine WS.seq (WS.ifF (by simp_all_arith []; rfl) (WS.next ?_)); dsimp only)
    (refine WS.seq (WS.ifF (by simp_all_arith []; rfl) (WS.next ?_)); dsimp only)
    refine WS.ret (by simp_all_arith []; rfl) ?_
    rfl
  | str x =>
    have hx : sok x := by unfold PlainD at hd; exact hd
    have e := eq_str hx hx
    (refine WS.seq (WS.ifF (by simp_all_arith []; rfl) (WS.next ?_)); dsimp only)
    (refine WS.seq (WS.ifF (by simp_all_arith []; rfl) (WS.next ?_)); dsimp only)
    (refine WS.seq (WS.ifF (by simp_all_arith []; rfl) (WS.next ?_)); dsimp only)
    refine WS.ret (by simp_all_arith [e]; rfl) ?_
    rfl
theorem same1 : ∀ d, PlainD 0 d → callV 3 m__law_same_1 [d, d] = some (.val (.bool true)) := same_zero (m := m__law_same_0)
theorem same2 : ∀ d, PlainD 1 d → callV 3 m__law_same_2 [d, d] = some (.val (.bool true)) := same_step same1
theorem same3 : ∀ d, PlainD 2 d → callV 3 m__law_same_3 [d, d] = some (.val (.bool true)) := same_step same2
theorem same4 : ∀ d, PlainD 3 d → callV 3 m__law_same_4 [d, d] = some (.val (.bool true)) := same_step same3
theorem same5 : ∀ d, PlainD 4 d → callV 3 m__law_same_5 [d, d] = some (.val (.bool true)) := same_step same4
theorem same6 : ∀ d, PlainD 5 d → callV 3 m__law_same_6 [d, d] = some (.val (.bool true)) := same_step same5
theorem same7 : ∀ d, PlainD 6 d → callV 3 m__law_same_7 [d, d] = some (.val (.bool true)) := same_step same6
theorem same_refl : ∀ d, PlainD 7 d → callV 3 m__law_same [d, d] = some (.val (.bool true)) := same_step same7
set_option Elab.async false
set_option linter.all false
set_option maxRecDepth 100000
set_option maxHeartbeats 2000000
open PySem PySem.Spec PyProof.Rows L2
theorem same_N (o : Option Nat) : callV 3 m__law_same [eN o, eN o] = some (.val (.bool true)) := same_refl _ (plain_N o)
theorem same_Ns (ns : List Nat) (h : ns.length ≤ 4096) : callV 3 m__law_same [.list (ns.map fun n => .int (n : Nat)), .list (ns.map fun n => .int (n : Nat))] = some (.val (.bool true)) := same_refl _ (plain_list (by rwa [List.length_map]) fun d hd => by
  obtain ⟨n, _, rfl⟩ := List.mem_map.mp hd
  exact plain_int)
set_option Elab.async false
set_option linter.all false
set_option maxRecDepth 100000
set_option maxHeartbeats 4000000
open PySem PySem.Spec PyProof.Rows L2
theorem ev_rules {w : Well} {B : Nat} (h : OkW B w) {greatest : Nat} (hm : 1 ≤ greatest ∧ greatest ≤ 50) (hB : 100 ≤ B := by omega) :
    ∃ (y : Sty) (w' : Well), callW 6 m__law_rules (eWl w) [.int greatest] = some (.val (eY y), eWl w') ∧ (SmallY y ∧ y.most ≤ greatest) ∧ OkW (B - 100) w' := by
  suffices hh : ∃ r o', callW 6 m__law_rules (eWl w) [.int greatest] = some (r, o') ∧ ∃ (y : Sty) (w' : Well), r = .val (eY y) ∧ o' = eWl w' ∧ (SmallY y ∧ y.most ≤ greatest) ∧ OkW (B - 100) w' by
    obtain ⟨r, o', q, x, w', rfl, rfl, q2, q3⟩ := hh
    exact ⟨x, w', q, q2, q3⟩
  refine callW_of ?_
  unfold m__law_rules
  obtain ⟨d1, w1, e1, b1, o1⟩ := ev_draw h (greatest : Int)
  refine WS.setK (by simp_all_arith [e1]; rfl) (by simp_all_arith []; rfl) ?_
  refine WS.setK (by simp_all_arith []; rfl) (by simp_all_arith []; rfl) ?_
  refine WS.setK (by simp_all_arith []; rfl) (by simp_all_arith []; rfl) ?_
  obtain ⟨d3, w3, e3, b3, o3⟩ := ev_draw o1 8
  refine WS.seq (WS.for_ (rng1_n (n := d3) (ρ1 := [.own (some 0) (eWl w3), .val (.int greatest), .val (.int (1 + (d1 : Int))), .own none (.lst (allW.map eW)), .own none (.lst []), .un]) (by simp_all_arith [e3]; rfl) (by omega))
    (fun j ρ => ∃ w' st ws s6, ρ = [.own (some 0) (eWl w'), .val (.int greatest), .val (.int (1 + (d1 : Int))), .own none (.lst (ws.map eW)), .own none (.lst (st.map eW)), s6] ∧ OkW (B - 2 - j) w' ∧ st.length = j ∧ (st ++ ws).Perm allW)
    ⟨w3, [], allW, .un, rfl, o3.le (by omega), rfl, by simp⟩ ?_ ?_)
  · rintro j i ρ' hi ⟨w', st, ws, s6, rfl, o4, f1, f2⟩
    have hj := (List.getElem?_eq_some_iff.mp hi).1
    rw [List.length_range] at hj
    have hl : st.length + ws.length = 7 := by
      have := f2.length_eq
      rw [List.length_append] at this
      exact this
    obtain ⟨d5, w5, e5, b5, o5⟩ := ev_draw o4 (ws.length : Int)
    have hd : d5 < ws.length := by omega
    have pp := popAt_map (f := eW) (xs := ws) (i := d5) hd (by omega)
    have ap := app_ok (ds := st.map eW) (d := eW ws[d5]) (by rw [List.length_map]; omega)
    refine ⟨_, rfl, WS.drop (by simp_all_arith [e5, pp, ap]; rfl) ⟨w5, st ++ [ws[d5]], ws.eraseIdx d5, _, by rw [List.map_append]; rfl, o5.le (by omega), by simp [f1], (pop_perm hd).trans f2⟩⟩
  · rintro ρF ⟨w', st, ws, s6, rfl, o4, f1, f2⟩
    rw [List.length_range] at o4 f1
    obtain ⟨d2, w2, e2, b2, o2⟩ := ev_draw o4 (1 + (d1 : Int))
    refine WS.ret (by simp_all_arith [e2, tup_list]; rfl) ?_
    refine ⟨_, _, rfl, rfl, ⟨1 + d1, 1 + d2, st⟩, w2, rfl, rfl, ⟨⟨⟨by show 1 ≤ 1 + d2; omega, by show 1 + d2 ≤ 1 + d1; omega, ?_⟩, by show 1 + d2 ≤ 100; omega, by show st.length ≤ 7; omega⟩, by show 1 + d1 ≤ greatest; omega⟩, o2.le (by omega)⟩
    have nd : (st ++ ws).Nodup := f2.nodup_iff.mpr (by decide)
    exact (List.nodup_append.mp nd).1
theorem ev_path {y : Sty} {s : Bk} (hy : SmallY y) (hs : BkOk s) (hp : s.ppl.length ≤ 100) : callV 2 m_path [eY y, eS s] = some (.tmp (.lst ((pathOf y s).map eL))) := by
  refine callV_eq ?_
  unfold m_path
  refine WS.go (by simp_all_arith [ev_check_style hy]; rfl) ?_
  refine WS.go (by simp_all_arith [ev_check_source hs]; rfl) ?_
  refine WS.ret (by simp_all_arith [ev_path_of hy hs hp]; rfl) ?_
  rfl
theorem ev_labels {y : Sty} {lib : List Bk} (hy : SmallY y) (hl : LibOk lib) : callV 2 m_labels [eY y, eLib lib] = some (.tmp (.lst (lib.map fun s => eL (labelOf y lib s)))) := by
  refine callV_eq ?_
  unfold m_labels
  refine WS.go (by simp_all_arith [ev_check_style hy]; rfl) ?_
  refine WS.go (by simp_all_arith [ev_check_library hl]; rfl) ?_
  refine WS.ret (by simp_all_arith [ev_all_labels hy hl]; rfl) ?_
  rfl
theorem ev_outside {l o : Lab} (hl : LabV l) (ho : LabV o) (nl : l.prs.length ≤ 1000) (no : o.prs.length ≤ 1000) : callV 2 m_outside [eL l, eL o] = some (.val (if narrower l o = true then .none else eS (outS l o))) := by
  refine callV_eq ?_
  unfold m_outside
  refine WS.go (by simp_all_arith [ev_check_label hl]; rfl) ?_
  refine WS.go (by simp_all_arith [ev_check_label ho]; rfl) ?_
  refine WS.seq (WS.ifB (by simp_all_arith [ev_is_narrower hl ho]; rfl) (fun t => ?_) fun t => ?_)
  · rw [if_pos t]
    refine WS.ret (by simp_all_arith []; rfl) ?_
    rfl
  · refine WS.next ?_
    dsimp only
    rw [if_neg (by rw [t]; decide)]
    refine WS.ret (by simp_all_arith [ev_source_outside hl ho nl no]; rfl) ?_
    rfl
/-! ### two sources -/
theorem needs_two {y : Sty} {s m : Bk} (h : s ≠ m) : needsOf y [s, m] s = [0, needVal y s m] ∧ needsOf y [m, s] s = [needVal y s m, 0] := by
  rw [needsOf_eq, needsOf_eq]
  have e : needVal y s s = 0 := by unfold needVal; rw [if_pos rfl]
  exact ⟨by simp [e], by simp [e]⟩
theorem max_two (k : Nat) : maxN [0, k] = k ∧ maxN [k, 0] = k := by
  unfold maxN
  simp
theorem lib_two {s m : Bk} (hs : BkOk s) (hm : BkOk m) (ls : s.ppl.length ≤ 100) (lm : m.ppl.length ≤ 100) (h : s ≠ m) : LibOk [s, m] := by
  refine ⟨fun b hb => ?_, fun b hb => ?_, ?_, by show 2 < 64; decide⟩
  · simp only [List.mem_cons, List.not_mem_nil, or_false] at hb
    rcases hb with rfl | rfl
    · exact hs
    · exact hm
  · simp only [List.mem_cons, List.not_mem_nil, or_false] at hb
    rcases hb with rfl | rfl
    · exact ls
    · exact lm
  · simpa using h
/-- a lone place: the label without letters -/
theorem label_plain {y : Sty} {P : List Bk} {s : Bk} {k : Nat} (hk : maxN (needsOf y P s) = k) (h : k < (pathOf y s).length) : labelOf y P s = (pathOf y s)[k] := by
  have e : plainAt y s k = (pathOf y s)[k] := by
    unfold plainAt
    rw [show min k ((pathOf y s).length - 1) = k by omega, List.getD_eq_getElem?_getD, List.getElem?_eq_getElem h]
    rfl
  have hlt : ((pathOf y s)[k]).lt = "" := by
    have hm : (pathOf y s)[k] ∈ pathOf y s := List.getElem_mem h
    obtain ⟨t, _, e⟩ := List.mem_map.mp (show (pathOf y s)[k] ∈ (seenOf y s.ppl.length).map (labelBy s) from hm)
    rw [← e]
    rfl
  show tailW _ (rowOf y P s) = _
  unfold tailW rowOf
  dsimp only
  rw [hk, e, decide_eq_false (by omega), if_neg (by decide)]
  rw [← hlt]
theorem place_of_k {y : Sty} {P : List Bk} {s : Bk} {k : Nat} (hk : maxN (needsOf y P s) = k) : placeOf y P s = if k < (pathOf y s).length then some k else none := by
  unfold placeOf
  rw [hk]
theorem plain_L {l : Lab} {n : Nat} (h : LabOk l) (ht : sok l.lt) (hn : l.prs.length ≤ 4096) : PlainD (n + 3) (eL l) := plain_tuple (by show 5 ≤ 4096; decide) fun d hd => by
  simp only [List.mem_cons, List.not_mem_nil, or_false] at hd
  rcases hd with rfl | rfl | rfl | rfl | rfl
  · refine plain_tuple (by rwa [List.length_map]) fun d hd => ?_
    obtain ⟨p, hp, rfl⟩ := List.mem_map.mp hd
    exact plain_P (h.prs p hp)
  · exact plain_bool
  · exact plain_int
  · cases e : l.ttl with
    | none => exact plain_none
    | some t => exact plain_str (h.ttl t e)
  · exact plain_str ht
theorem same_two (a b : D) (ha : PlainD 6 a) (hb : PlainD 6 b) : callV 3 m__law_same [.list [a, b], .list [a, b]] = some (.val (.bool true)) := same_refl _ (plain_list (by show 2 ≤ 4096; decide) fun d hd => by
  simp only [List.mem_cons, List.not_mem_nil, or_false] at hd
  rcases hd with rfl | rfl
  · exact ha
  · exact hb)
theorem path_V' {y : Sty} {s : Bk} (hy : SmallY y) (hs : BkOk s) {l : Lab} (hl : l ∈ pathOf y s) : LabV l ∧ fits l s = true ∧ l.prs.length ≤ s.ppl.length := path_V (path_ok hy.ok hs) hs l hl
theorem ev_forced {y : Sty} {s m : Bk} {k : Nat} (hy : SmallY y) (hs : BkOk s) (hm : BkOk m) (ls : s.ppl.length ≤ 100) (lm : m.ppl.length ≤ 100) (hne : s ≠ m) (hk : needIn (pathOf y s) m = some k) (h1 : 1 ≤ k) (h2 : k < (pathOf y s).length) :
    callV 7 m__law_forced [eY y, eS s, eS m, .list ((pathOf y s).map eL), .int k] = some (.val (.bool true)) := by
  have nv : needVal y s m = k := by unfold needVal; rw [if_neg (fun z => hne z.symm), hk]; rfl
  have nd := ev_need hy hs hm ls hne
  rw [hk] at nd
  have sm := same_N (some k)
  unfold eN at nd sm
  dsimp only at nd sm
  have P1 := lib_two hs hm ls lm hne
  have P2 := lib_two hm hs lm ls (fun z => hne z.symm)
  have n1 := (needs_two (y := y) hne).1
  have n2 := (needs_two (y := y) hne).2
  rw [nv] at n1 n2
  have x1 : maxN (needsOf y [s, m] s) = k := by rw [n1]; exact (max_two k).1
  have x2 : maxN (needsOf y [m, s] s) = k := by rw [n2]; exact (max_two k).2
  have pl1 : callV 3 m_place_of [eY y, eLib [s, m], .int 0] = some (.val (.int k)) := by
    have := ev_place_of (i := 0) (s := s) hy P1 rfl
    rw [place_of_k x1, if_pos h2] at this
    exact this
  have pl2 : callV 3 m_place_of [eY y, eLib [m, s], .int 1] = some (.val (.int k)) := by
    have := ev_place_of (i := 1) (s := s) hy P2 rfl
    rw [place_of_k x2, if_pos h2] at this
    exact this
  have re1 : callV 5 m_reason [eY y, eLib [s, m], .int 0] = some (.val (.int 1)) := by
    have := ev_reason (i := 0) (s := s) hy P1 rfl
    unfold reasonOf at this
    rw [x1, if_pos (by omega), n1] at this
    have e : List.idxOf k [0, k] = 1 := by
      rw [List.idxOf_cons, beq_eq_false_iff_ne.mpr (by omega), List.idxOf_cons, beq_self_eq_true]
      rfl
    rw [e] at this
    exact this
  have re2 : callV 5 m_reason [eY y, eLib [m, s], .int 1] = some (.val (.int 0)) := by
    have := ev_reason (i := 1) (s := s) hy P2 rfl
    unfold reasonOf at this
    rw [x2, if_pos (by omega), n2] at this
    have e : List.idxOf k [k, 0] = 0 := by rw [List.idxOf_cons, beq_self_eq_true]; rfl
    rw [e] at this
    exact this
  have la1 : callV 3 m_label_of [eY y, eLib [s, m], .int 0] = some (.val (eL (pathOf y s)[k])) := by
    have := ev_label_of (i := 0) (s := s) hy P1 rfl
    rw [label_plain x1 h2] at this
    exact this
  have la2 : callV 3 m_label_of [eY y, eLib [m, s], .int 1] = some (.val (eL (pathOf y s)[k])) := by
    have := ev_label_of (i := 1) (s := s) hy P2 rfl
    rw [label_plain x2 h2] at this
    exact this
  have hV := path_V' hy hs (List.getElem_mem h2)
  have ix : ixD (.list ((pathOf y s).map eL)) (.int k) = some (.val (eL (pathOf y s)[k])) := ixl (by rw [List.getElem?_map, List.getElem?_eq_getElem h2]; rfl)
  have sL := same_refl _ (plain_L (n := 4) hV.1.ok hV.1.lt.1.ok (by omega))
  have s01 := same_two (.int k) (.int 1) plain_int plain_int
  have s00 := same_two (.int k) (.int 0) plain_int plain_int
  generalize hR : (pathOf y s).map eL = R at ix
  generalize (pathOf y s)[k] = lk at *
  refine callV_eq ?_
  unfold m__law_forced
  (refine WS.seq (WS.ifF (by simp_all_arith [nd, sm]; rfl) (WS.next ?_)); dsimp only)
  refine WS.seq (WS.for_ (rng1_n (n := 2) (ρ1 := [.val (eY y), .val (eS s), .val (eS m), .val (.list R), .val (.int k), .un, .un]) (by simp_all_arith []) (by decide))
    (fun j ρ => ∃ s5 s6, ρ = [.val (eY y), .val (eS s), .val (eS m), .val (.list R), .val (.int k), s5, s6]) ⟨_, _, rfl⟩ ?_ ?_)
  · rintro j i ρ' hi ⟨s5, s6, rfl⟩
    have hj := (List.getElem?_eq_some_iff.mp hi).1
    have ei := (List.getElem?_eq_some_iff.mp hi).2
    rw [List.getElem_range] at ei
    subst ei
    rw [List.length_range] at hj
    refine ⟨_, rfl, ?_⟩
    rcases (by omega : j = 0 ∨ j = 1) with rfl | rfl
    · refine WS.setK (r := .val (eLib [s, m])) (ρ1 := [.val (eY y), .val (eS s), .val (eS m), .val (.list R), .val (.int k), .val (.int 0), s6]) (by simp_all_arith []; rfl) (by simp_all_arith []; rfl) ?_
      (refine WS.seq (WS.ifF (by simp_all_arith [pl1, re1, Int.sub_zero, s01]; rfl) (WS.next ?_)); dsimp only)
      refine WS.ifF (by simp_all_arith [la1, ix, sL]; rfl) (WS.next ?_)
      exact ⟨_, _, rfl⟩
    · refine WS.setK (r := .val (eLib [m, s])) (ρ1 := [.val (eY y), .val (eS s), .val (eS m), .val (.list R), .val (.int k), .val (.int 1), s6]) (by simp_all_arith []; rfl) (by simp_all_arith []; rfl) ?_
      (refine WS.seq (WS.ifF (by simp_all_arith [pl2, re2, Int.sub_self, s00]; rfl) (WS.next ?_)); dsimp only)
      refine WS.ifF (by simp_all_arith [la2, ix, sL]; rfl) (WS.next ?_)
      exact ⟨_, _, rfl⟩
  · rintro ρF ⟨s5, s6, rfl⟩
    refine WS.ret (by simp_all_arith []; rfl) ?_
    rfl
set_option Elab.async false
set_option linter.all false
set_option maxRecDepth 100000
set_option maxHeartbeats 4000000
open PySem PySem.Spec PyProof.Rows L2
/-! ### two sources that share a last label -/
theorem wl1 : wl (0 + 1) "" = "a" := by rw [wl_succ, show 0 / 26 = 0 from rfl, wl_zero]; decide +kernel
theorem wl2 : wl (1 + 1) "" = "b" := by rw [wl_succ, show 1 / 26 = 0 from rfl, wl_zero]; decide +kernel
theorem ab_ne : ("a" : Str) ≠ "b" := by decide +kernel
theorem plain_mem {y : Sty} {s : Bk} {n : Nat} : plainAt y s n ∈ pathOf y s := by
  have h : 0 < (pathOf y s).length := List.length_pos_iff.mpr (pathOf_ne y s)
  unfold plainAt
  rw [List.getD_eq_getElem?_getD, List.getElem?_eq_getElem (show min n ((pathOf y s).length - 1) < (pathOf y s).length by omega)]
  exact List.getElem_mem _
theorem path_lt0 {y : Sty} {s : Bk} {l : Lab} (hl : l ∈ pathOf y s) : l.lt = "" := by
  unfold pathOf at hl
  obtain ⟨t, _, rfl⟩ := List.mem_map.mp hl
  rfl
def Two (lib : List Bk) (s m : Bk) : Prop := lib = [s, m] ∨ lib = [m, s]
theorem two_max {y : Sty} {lib : List Bk} {s m : Bk} (h : Two lib s m) (hne : s ≠ m) : maxN (needsOf y lib s) = needVal y s m ∧ maxN (needsOf y lib m) = needVal y m s := by
  have a := needs_two (y := y) hne
  have b := needs_two (y := y) (fun z => hne z.symm : m ≠ s)
  rcases h with rfl | rfl
  · rw [a.1, b.2]; exact ⟨(max_two _).1, (max_two _).2⟩
  · rw [a.2, b.1]; exact ⟨(max_two _).2, (max_two _).1⟩
theorem rank_two {y : Sty} {lib : List Bk} {s m : Bk} (h : Two lib s m) : rankR (rowsOf y lib) (rowOf y lib s) = if bkLt m s = true ∧ (rowOf y lib m).2.2 = true ∧ (rowOf y lib m).2.1 = (rowOf y lib s).2.1 then 1 else 0 := by
  have e0 : (rowOf y lib s).1 = s := rfl
  have e1 : (rowOf y lib m).1 = m := rfl
  have ir := bkLt_irrefl s
  have er : rowsOf y lib = [rowOf y lib s, rowOf y lib m] ∨ rowsOf y lib = [rowOf y lib m, rowOf y lib s] := by
    rcases h with h | h
    · exact .inl (congrArg (List.map (rowOf y lib)) h)
    · exact .inr (congrArg (List.map (rowOf y lib)) h)
  generalize rowsOf y lib = R at *
  generalize rowOf y lib s = a at *
  generalize rowOf y lib m = b at *
  unfold rankR cnt
  rcases er with rfl | rfl <;>
  · simp only [List.filter_cons, List.filter_nil, e0, e1, ir]
    by_cases h1 : bkLt m s = true <;> by_cases h2 : b.2.2 = true <;> by_cases h3 : b.2.1 = a.2.1 <;> simp [h1, h2, h3]
def lab4 (l : Lab) : Lab := ⟨l.prs, l.more, l.yr, l.ttl, ""⟩
theorem lab4_row {y : Sty} {lib : List Bk} {s : Bk} {n : Nat} : lab4 (tailW n (rowOf y lib s)) = (rowOf y lib s).2.1 := by
  have e : ((rowOf y lib s).2.1).lt = "" := path_lt0 plain_mem
  show (⟨((rowOf y lib s).2.1).prs, ((rowOf y lib s).2.1).more, ((rowOf y lib s).2.1).yr, ((rowOf y lib s).2.1).ttl, ""⟩ : Lab) = _
  rw [← e]
theorem needIn_none {p : List Lab} {o : Bk} (h : needIn p o = none) : ∀ l ∈ p, fits l o = true := fun l hl => by
  unfold needIn at h
  have := List.findIdx?_eq_none_iff.mp h l hl
  simpa using this
theorem needIn_some {p : List Lab} {o : Bk} {k : Nat} (h : needIn p o = some k) : ∃ hk : k < p.length, fits p[k] o = false := by
  unfold needIn at h
  obtain ⟨hk, h1, _⟩ := List.findIdx?_eq_some_iff_getElem.mp h
  exact ⟨hk, by simpa using h1⟩
theorem path_last {y : Sty} {s : Bk} : (pathOf y s).getLast? = some (plainAt y s (pathOf y s).length) := by
  have h : 0 < (pathOf y s).length := List.length_pos_iff.mpr (pathOf_ne y s)
  unfold plainAt
  rw [List.getLast?_eq_getElem?, List.getD_eq_getElem?_getD, show min (pathOf y s).length ((pathOf y s).length - 1) = (pathOf y s).length - 1 by omega, List.getElem?_eq_getElem (show (pathOf y s).length - 1 < (pathOf y s).length by omega)]
  rfl
theorem ix_lastL {xs : List Lab} {l : Lab} (h : xs.getLast? = some l) : ixD (.list (xs.map eL)) (.int (-1)) = some (.val (eL l)) := by
  obtain ⟨ys, rfl⟩ := List.getLast?_eq_some_iff.mp h
  rw [List.map_append]
  exact ix_last
theorem lettered_plain {y : Sty} {lib : List Bk} {s m : Bk} (hy : SmallY y) (hs : BkOk s) (hne : s ≠ m) (h : Two lib s m) (hk : needIn (pathOf y s) m = none) :
    labelOf y lib s = { plainAt y s (pathOf y s).length with lt := if lab4 (labelOf y lib m) = lab4 (labelOf y lib s) ∧ bkLt m s = true then ("b" : Str) else ("a" : Str) } ∧ labelOf y lib s ≠ labelOf y lib m := by
  have nv : needVal y s m = (pathOf y s).length := by unfold needVal; rw [if_neg (fun z => hne z.symm), hk]; rfl
  have h2 : Two lib m s := h.symm
  have mx := two_max (y := y) h hne
  have rs := rank_two (y := y) h
  have rm := rank_two (y := y) h2
  have fs : (rowOf y lib s).2.2 = true := decide_eq_true (by rw [mx.1, nv])
  have ps : (rowOf y lib s).2.1 = plainAt y s (pathOf y s).length := by
    show plainAt y s (maxN (needsOf y lib s)) = _
    rw [mx.1, nv]
  have full : (rowOf y lib m).2.1 = (rowOf y lib s).2.1 → (rowOf y lib m).2.2 = true := fun e => by
    refine decide_eq_true ?_
    rw [mx.2]
    unfold needVal
    rw [if_neg hne]
    cases q : needIn (pathOf y m) s with
    | none => rfl
    | some k =>
      exfalso
      obtain ⟨hk2, nf⟩ := needIn_some q
      have pm : (rowOf y lib m).2.1 = (pathOf y m)[k] := by
        show plainAt y m (maxN (needsOf y lib m)) = _
        rw [mx.2]
        unfold needVal plainAt
        rw [if_neg hne, q]
        show (pathOf y m).getD (min k _) lab0 = _
        rw [show min k ((pathOf y m).length - 1) = k by omega, List.getD_eq_getElem?_getD, List.getElem?_eq_getElem hk2]
        rfl
      rw [← pm, e, ps, (path_V' hy hs plain_mem).2.1] at nf
      cases nf
  have l4s : lab4 (labelOf y lib s) = (rowOf y lib s).2.1 := lab4_row
  have l4m : lab4 (labelOf y lib m) = (rowOf y lib m).2.1 := lab4_row
  have es : labelOf y lib s = { (rowOf y lib s).2.1 with lt := wl (rankR (rowsOf y lib) (rowOf y lib s) + 1) "" } := by
    show tailW _ _ = _
    unfold tailW
    rw [if_pos fs]
  have ltr : wl (rankR (rowsOf y lib) (rowOf y lib s) + 1) "" = if lab4 (labelOf y lib m) = lab4 (labelOf y lib s) ∧ bkLt m s = true then ("b" : Str) else ("a" : Str) := by
    rw [rs, l4s, l4m]
    by_cases q : (rowOf y lib m).2.1 = (rowOf y lib s).2.1 ∧ bkLt m s = true
    · rw [if_pos ⟨q.2, full q.1, q.1⟩, if_pos q]; exact wl2
    · rw [if_neg (fun z => q ⟨z.2.2, z.1⟩), if_neg q]; exact wl1
  refine ⟨by have q := es; rw [ltr, ps] at q; exact q, fun e => ?_⟩
  have e4 : (rowOf y lib m).2.1 = (rowOf y lib s).2.1 := by rw [← l4s, ← l4m, e]
  have em : labelOf y lib m = { (rowOf y lib m).2.1 with lt := wl (rankR (rowsOf y lib) (rowOf y lib m) + 1) "" } := by
    show tailW _ _ = _
    unfold tailW
    rw [if_pos (full e4)]
  have el : wl (rankR (rowsOf y lib) (rowOf y lib s) + 1) "" = wl (rankR (rowsOf y lib) (rowOf y lib m) + 1) "" := by
    have := congrArg Lab.lt e
    rw [es, em] at this
    exact this
  rw [rs, rm] at el
  cases b1 : bkLt m s with
  | true =>
    rw [if_pos ⟨b1, full e4, e4⟩, if_neg (fun z => by rw [bkLt_asymm b1] at z; cases z.1), wl1, wl2] at el
    exact ab_ne el.symm
  | false =>
    cases b2 : bkLt s m with
    | true =>
      rw [if_neg (fun z => by rw [b1] at z; cases z.1), if_pos ⟨b2, fs, e4.symm⟩, wl1, wl2] at el
      exact ab_ne el
    | false => exact hne (bkLt_total b2 b1)
theorem eqvL4 (a b : Lab) : PyData.eqv (eL4 a) (eL4 b) = decide (lab4 a = lab4 b) := by
  obtain ⟨a1, a2, a3, a4, a5⟩ := a
  obtain ⟨b1, b2, b3, b4, b5⟩ := b
  unfold eL4 lab4
  simp only [PyData.eqv, PyData.eqvAll, Bool.and_true, Lab.mk.injEq, and_true, eqvAll_map eP eqvP, eqvO]
  rw [Bool.eq_iff_iff]
  simp only [Bool.and_eq_true, beq_iff_eq, decide_eq_true_eq]
theorem okL4 {l : Lab} (h : LabOk l) : Ok 3 (eL4 l) := Ok.tuple fun d hd => by
  simp only [List.mem_cons, List.not_mem_nil, or_false] at hd
  rcases hd with rfl | rfl | rfl | rfl
  · exact Ok.tuple fun d hd => by
      obtain ⟨p, hp, rfl⟩ := List.mem_map.mp hd
      exact okP (h.prs p hp).1 (h.prs p hp).2
  · exact Ok.bool
  · exact Ok.int
  · cases e : l.ttl with
    | none => exact Ok.none
    | some t => exact Ok.str (h.ttl t e)
theorem eqL4 {a b : Lab} (ha : LabOk a) (hb : LabOk b) : eqD (eL4 a) (eL4 b) = some (.val (.bool (decide (lab4 a = lab4 b)))) := by
  unfold eqD
  rw [okD_of (okL4 ha), okD_of (okL4 hb), eqvL4]
  rfl
theorem eqL {a b : Lab} (ha : LabOk a) (hb : LabOk b) (ta : sok a.lt) (tb : sok b.lt) : eqD (eL a) (eL b) = some (.val (.bool (decide (a = b)))) := by
  unfold eqD
  rw [okD_of (okL ha ta), okD_of (okL hb tb), eqvL]
  rfl
theorem lt_S (a b : Bk) (h : (eS a).depth ≤ 60) : ltB (eS a) (eS b) = some (.val (.bool (bkLt a b))) := ltB_tup (alikeS a b) h (nd_of_alike _ (alikeS a a)) (nd_of_alike _ (alikeS b b))
set_option Elab.async false
set_option linter.all false
set_option maxRecDepth 100000
set_option maxHeartbeats 4000000
open PySem PySem.Spec PyProof.Rows L2
theorem depth_S0 (s : Bk) : (eS s).depth ≤ 60 := by
  have := depth_Ps s.ppl
  simp [eS, PyData.depth, PyData.depthAll]
  omega
theorem sok_a : sok "a" := okA.low.ok
theorem sok_b : sok "b" := okB.low.ok
theorem ev_lettered {y : Sty} {s m : Bk} (hy : SmallY y) (hs : BkOk s) (hm : BkOk m) (ls : s.ppl.length ≤ 100) (lm : m.ppl.length ≤ 100) (hne : s ≠ m) (hk : needIn (pathOf y s) m = none) :
    callV 10 m__law_lettered [eY y, eS s, eS m, .list ((pathOf y s).map eL)] = some (.val (.bool true)) := by
  have nv : needVal y s m = (pathOf y s).length := by unfold needVal; rw [if_neg (fun z => hne z.symm), hk]; rfl
  have lp : 0 < (pathOf y s).length := List.length_pos_iff.mpr (pathOf_ne y s)
  have nd := ev_need hy hs hm ls hne
  rw [hk] at nd
  unfold eN at nd
  dsimp only at nd
  have il := ix_lastL (path_last (y := y) (s := s))
  have hV := path_V' hy hs (plain_mem (y := y) (s := s) (n := (pathOf y s).length))
  have h0 : (plainAt y s (pathOf y s).length).lt = "" := path_lt0 plain_mem
  have ft := ev_lfits hV.1.ok hm (by have := hV.2.2; omega)
  rw [needIn_none hk _ plain_mem] at ft
  have hlt := lt_S m s (depth_S0 m)
  have facts : ∀ (j : Nat) (lib : List Bk), ((j = 0 ∧ lib = [s, m]) ∨ (j = 1 ∧ lib = [m, s])) →
      callV 3 m_place_of [eY y, eLib lib, .int j] = some (.val .none) ∧ callV 5 m_reason [eY y, eLib lib, .int j] = some (.val (.int (1 - (j : Int)))) ∧
      (∃ Ls, callV 2 m_labels [eY y, eLib lib] = some (.tmp (.lst Ls)) ∧ ixD (.list Ls) (.int j) = some (.val (eL (labelOf y lib s))) ∧ ixD (.list Ls) (.int (1 - (j : Int))) = some (.val (eL (labelOf y lib m)))) ∧ Two lib s m := by
    intro j lib hj
    have tw : Two lib s m := by rcases hj with ⟨_, h⟩ | ⟨_, h⟩; exact .inl h; exact .inr h
    have mx := (two_max (y := y) tw hne).1
    have P : LibOk lib := by
      rcases hj with ⟨_, rfl⟩ | ⟨_, rfl⟩
      · exact lib_two hs hm ls lm hne
      · exact lib_two hm hs lm ls fun z => hne z.symm
    have hi : lib[j]? = some s := by rcases hj with ⟨rfl, rfl⟩ | ⟨rfl, rfl⟩ <;> rfl
    have a := ev_place_of hy P hi
    have b := ev_reason hy P hi
    have c := ev_labels hy P
    rw [place_of_k (mx.trans nv), if_neg (Nat.lt_irrefl _)] at a
    have n1 := (needs_two (y := y) hne).1
    have n2 := (needs_two (y := y) hne).2
    rw [nv] at n1 n2
    have rr : reasonOf y lib s = some (1 - j) := by
      unfold reasonOf
      rw [mx, nv, if_pos lp]
      rcases hj with ⟨rfl, rfl⟩ | ⟨rfl, rfl⟩
      · rw [n1, List.idxOf_cons, beq_eq_false_iff_ne.mpr (by omega), List.idxOf_cons, beq_self_eq_true]
        rfl
      · rw [n2, List.idxOf_cons, beq_self_eq_true]
        rfl
    rw [rr] at b
    have e1 : ((1 - j : Nat) : Int) = 1 - (j : Int) := by rcases hj with ⟨rfl, _⟩ | ⟨rfl, _⟩ <;> rfl
    refine ⟨a, by rw [← e1]; exact b, ⟨_, c, ?_, ?_⟩, tw⟩
    · exact ixl (by rw [List.getElem?_map, hi]; rfl)
    · rw [← e1]
      refine ixl ?_
      rw [List.getElem?_map]
      rcases hj with ⟨rfl, rfl⟩ | ⟨rfl, rfl⟩ <;> rfl
  have okL1 : ∀ (l : Lab) (x : Str), LabOk l → LabOk { l with lt := x } := fun l x h => ⟨h.prs, h.ttl⟩
  have okt : ∀ (lib : List Bk) (b : Bk), BkOk b → LabOk (labelOf y lib b) := fun lib b hb => by
    have := (path_V' hy hb (plain_mem (y := y) (s := b) (n := maxN (needsOf y lib b)))).1.ok
    exact okL1 _ _ this
  have oks := okt
  generalize hL : plainAt y s (pathOf y s).length = L at *
  generalize hR : (pathOf y s).map eL = R at *
  refine callV_eq ?_
  unfold m__law_lettered
  (refine WS.seq (WS.ifF (by simp_all_arith [nd, il, ft]; rfl) (WS.next ?_)); dsimp only)
  refine WS.seq (WS.for_ (rng1_n (n := 2) (ρ1 := [.val (eY y), .val (eS s), .val (eS m), .val (.list R), .un, .un, .un, .un, .un, .un]) (by simp_all_arith []) (by decide))
    (fun j ρ => ∃ s4 s5 s6 s7 s8 s9, ρ = [.val (eY y), .val (eS s), .val (eS m), .val (.list R), s4, s5, s6, s7, s8, s9]) ⟨_, _, _, _, _, _, rfl⟩ ?_ ?_)
  · rintro j i ρ' hi ⟨s4, s5, s6, s7, s8, s9, rfl⟩
    have hj := (List.getElem?_eq_some_iff.mp hi).1
    have ei := (List.getElem?_eq_some_iff.mp hi).2
    rw [List.getElem_range] at ei
    subst ei
    rw [List.length_range] at hj
    obtain ⟨lib, hl⟩ : ∃ lib, (j = 0 ∧ lib = [s, m]) ∨ (j = 1 ∧ lib = [m, s]) := by
      rcases (by omega : j = 0 ∨ j = 1) with rfl | rfl
      · exact ⟨_, .inl ⟨rfl, rfl⟩⟩
      · exact ⟨_, .inr ⟨rfl, rfl⟩⟩
    obtain ⟨pl, re, ⟨Ls, la, i1, i2⟩, tw⟩ := facts j lib hl
    obtain ⟨eA, nAB⟩ := lettered_plain hy hs hne tw hk
    rw [hL] at eA
    refine ⟨_, rfl, ?_⟩
    refine WS.setK (r := .val (eLib lib)) (ρ1 := [.val (eY y), .val (eS s), .val (eS m), .val (.list R), .val (.int j), s5, s6, s7, s8, s9]) (by rcases hl with ⟨rfl, rfl⟩ | ⟨rfl, rfl⟩ <;> (simp_all_arith []; rfl)) (by simp_all_arith []; rfl) ?_
    (refine WS.seq (WS.ifF (by simp_all_arith [pl, re]; rfl) (WS.next ?_)); dsimp only)
    refine WS.setK (by simp_all_arith [la]; rfl) (by simp_all_arith []; rfl) ?_
    refine WS.go (by simp_all_arith [i1, i2]; rfl) ?_
    refine WS.setK (by simp_all_arith []; rfl) (by simp_all_arith []; rfl) ?_
    have qa := okt lib s hs
    have qb := okt lib m hm
    have ta := labelOf_lt y lib s
    have tb := labelOf_lt y lib m
    have e4 := eqL4 qb qa
    have eAB := eqL qa qb ta tb
    rw [decide_eq_false nAB] at eAB
    have plA := same_refl _ (plain_L (n := 4) qa ta (by
      show (plainAt y s _).prs.length ≤ 4096
      have := (path_V' hy hs (plain_mem (y := y) (s := s) (n := maxN (needsOf y lib s)))).2.2
      omega))
    have fin : ∀ x : Str, labelOf y lib s = { L with lt := x } → WS (mIf (mTOr (mTNot (mB (mFn' 2 3 m__law_same [false, false] [] (mCons (mVar 7) (mCons (m2 addD (mSl (m2 ixD (mVar 3) (m1 negD (mC (.int 1)))) (mNoPart) (mPart (mC (.int 4)))) (mTup (mCons (mVar 9) (mNil)))) (mNil)))))) (mB (m2 eqD (mVar 7) (mVar 8)))) (mRet (mC (.bool false))) (mNext))
        [.val (eY y), .val (eS s), .val (eS m), .val (.list R), .val (.int j), .val (eLib lib), .own none (.lst Ls), .val (eL (labelOf y lib s)), .val (eL (labelOf y lib m)), .val (.str x)] (fun f => ∃ ρ', f = .nx ρ' ∧ ∃ s4 s5 s6 s7 s8 s9, ρ' = [.val (eY y), .val (eS s), .val (eS m), .val (.list R), s4, s5, s6, s7, s8, s9]) := by
      intro x ex
      have ad : addD (eL4 L) (.tuple [.str x]) = some (.val (eL (labelOf y lib s))) := by
        rw [ex]
        exact add_t (by show 4 + 1 ≤ 4096; decide)
      refine WS.ifF (by simp_all_arith [il, cut_L, ad, plA, eAB]; rfl) (WS.next ?_)
      exact ⟨_, rfl, _, _, _, _, _, _, rfl⟩
    have fin2 : ∀ x : Str, labelOf y lib s = { L with lt := x } → WS (mIf (mTOr (mTNot (mB (mFn' 2 3 m__law_same [false, false] [] (mCons (mVar 7) (mCons (m2 addD (mSl (m2 ixD (mVar 3) (m1 negD (mC (.int 1)))) (mNoPart) (mPart (mC (.int 4)))) (mTup (mCons (mVar 9) (mNil)))) (mNil)))))) (mB (m2 eqD (mVar 7) (mVar 8)))) (mRet (mC (.bool false))) (mNext))
        [.val (eY y), .val (eS s), .val (eS m), .val (.list R), .val (.int j), .val (eLib lib), .own none (.lst Ls), .val (eL (labelOf y lib s)), .val (eL (labelOf y lib m)), .val (.str x)] (fun f => match f with
          | .nx ρ' => ∃ s4 s5 s6 s7 s8 s9, ρ' = [.val (eY y), .val (eS s), .val (eS m), .val (.list R), s4, s5, s6, s7, s8, s9]
          | _ => False) := fun x ex => (fin x ex).imp fun f ⟨ρ', h1, h2⟩ => by rw [h1]; exact h2
    refine WS.seq (WS.ifB (t := decide (lab4 (labelOf y lib m) = lab4 (labelOf y lib s) ∧ bkLt m s = true)) (ρ1 := [.val (eY y), .val (eS s), .val (eS m), .val (.list R), .val (.int j), .val (eLib lib), .own none (.lst Ls), .val (eL (labelOf y lib s)), .val (eL (labelOf y lib m)), .val (.str "a")]) ?_ (fun t => ?_) fun t => ?_)
    · by_cases q1 : lab4 (labelOf y lib m) = lab4 (labelOf y lib s)
      · rw [decide_eq_true q1] at e4
        cases q2 : bkLt m s with
        | true =>
          rw [q2] at hlt
          rw [decide_eq_true ⟨q1, rfl⟩]
          simp_all_arith [cut_L, e4, hlt]
        | false =>
          rw [q2] at hlt
          rw [decide_eq_false (fun z => by cases z.2)]
          simp_all_arith [cut_L, e4, hlt]
      · rw [decide_eq_false q1] at e4
        rw [decide_eq_false (fun z => q1 z.1)]
        simp_all_arith [cut_L, e4]
    · refine WS.set (by simp_all_arith []; rfl) (by simp_all_arith []; rfl) ?_
      dsimp only
      rw [if_pos (of_decide_eq_true t)] at eA
      exact (fin _ eA).imp fun f ⟨ρ', h1, h2⟩ => by rw [h1]; exact h2
    · refine WS.next ?_
      dsimp only
      rw [if_neg (of_decide_eq_false t)] at eA
      exact (fin _ eA).imp fun f ⟨ρ', h1, h2⟩ => by rw [h1]; exact h2
  · rintro ρF ⟨s4, s5, s6, s7, s8, s9, rfl⟩
    refine WS.ret (by simp_all_arith []; rfl) ?_
    rfl
set_option Elab.async false
set_option linter.all false
set_option maxRecDepth 100000
set_option maxHeartbeats 4000000
open PySem PySem.Spec PyProof.Rows L2
/-! ### several sources in a drawn order -/
theorem firstD_S (b : Bk) : ∀ {bs : List Bk}, b ∈ bs → firstD (eS b) (bs.map eS) = some (bs.idxOf b)
  | [], h => nomatch h
  | m :: bs, h => by
    rw [List.map_cons, firstD, List.idxOf_cons, eqvS]
    by_cases q : m = b
    · rw [if_pos (decide_eq_true q), beq_iff_eq.mpr q]
      rfl
    · have hn : b ∈ bs := (List.mem_cons.mp h).resolve_left fun z => q z.symm
      rw [if_neg (by simpa using q), firstD_S b hn, beq_eq_false_iff_ne.mpr q]
      rfl
theorem index_S {b : Bk} {bs : List Bk} (h : b ∈ bs) (ok : ∀ b ∈ bs, BkOk b) : indexD (.list (bs.map eS)) [eS b] = some (.val (.int (bs.idxOf b : Nat))) := by
  unfold indexD
  have o1 : okD (.list (bs.map eS)) = true := okD_of (n := 4) (Ok.list fun d hd => by
    obtain ⟨m, hm, rfl⟩ := List.mem_map.mp hd
    exact okS (ok m hm))
  have o2 : okD (eS b) = true := okD_of (okS (ok b h))
  dsimp only
  rw [o1, o2, firstD_S b h]
  rfl
def eM (q : Nat × Bk) : D := .tuple [.int (q.1 : Nat), eS q.2]
structure Mates (y : Sty) (s : Bk) (ms : List (Nat × Bk)) : Prop where
  ok : ∀ q ∈ ms, BkOk q.2 ∧ q.2.ppl.length ≤ 100
  nv : ∀ q ∈ ms, needVal y s q.2 = q.1
  at_ : ∀ j q, ms[j]? = some q → q.1 = j + 1
  few : ms.length ≤ 62
theorem need_self {y : Sty} {s : Bk} : needVal y s s = 0 := by unfold needVal; rw [if_pos rfl]
theorem ev_several {w : Well} {B : Nat} (h : OkW B w) {y : Sty} {s : Bk} {ms : List (Nat × Bk)} (hy : SmallY y) (hs : BkOk s) (ls : s.ppl.length ≤ 100) (hm : Mates y s ms) (hB : 200 ≤ B := by omega) :
    ∃ (w' : Well), callW 12 m__law_several (eWl w) [eY y, eS s, .list ((pathOf y s).map eL), .list (ms.map eM)] = some (.val (.bool true), eWl w') ∧ OkW (B - 200) w' := by
  suffices hh : ∃ r o', callW 12 m__law_several (eWl w) [eY y, eS s, .list ((pathOf y s).map eL), .list (ms.map eM)] = some (r, o') ∧ ∃ (w' : Well), r = .val (.bool true) ∧ o' = eWl w' ∧ OkW (B - 200) w' by
    obtain ⟨r, o', q, w', rfl, rfl, q3⟩ := hh
    exact ⟨w', q, q3⟩
  have few := hm.few
  have lenR : lenD [.list ((pathOf y s).map eL)] = some (.val (.int (pathOf y s).length)) := by rw [lenD_list, List.length_map]
  have ixR : ∀ k (hk : k < (pathOf y s).length), ixD (.list ((pathOf y s).map eL)) (.int k) = some (.val (eL (pathOf y s)[k])) := fun k hk => ixl (by rw [List.getElem?_map, List.getElem?_eq_getElem hk]; rfl)
  generalize hR : (pathOf y s).map eL = R at *
  refine callW_of ?_
  unfold m__law_several
  refine WS.go (ρ1 := [.own (some 0) (eWl w), .val (eY y), .val (eS s), .val (.list R), .val (.list (ms.map eM)), .own none (.lst (([s] : List Bk).map eS)), .own none (.lst (eNs [0])), .un, .un, .un, .un, .un]) (by simp_all_arith []; rfl) ?_
  refine WS.seq (WS.for_ (xs := ms) (enc := eM) (ρ1 := [.own (some 0) (eWl w), .val (eY y), .val (eS s), .val (.list R), .val (.list (ms.map eM)), .own none (.lst (([s] : List Bk).map eS)), .own none (.lst (eNs [0])), .un, .un, .un, .un, .un]) (by simp_all_arith [])
    (fun j ρ => ∃ (w' : Well) (bs : List Bk) (ks : List Nat) (s7 s8 s9 : SV), ρ = [.own (some 0) (eWl w'), .val (eY y), .val (eS s), .val (.list R), .val (.list (ms.map eM)), .own none (.lst (bs.map eS)), .own none (.lst (eNs ks)), s7, s8, s9, .un, .un] ∧ OkW (B - 2 * j) w' ∧
      bs.Nodup ∧ s ∈ bs ∧ (∀ b ∈ bs, BkOk b ∧ b.ppl.length ≤ 100 ∧ needVal y s b ≤ j ∧ needVal y s b ∈ ks) ∧ (∀ k ∈ ks, ∃ b ∈ bs, needVal y s b = k) ∧ ks ≠ [] ∧ bs.length ≤ j + 1 ∧ ks.length ≤ j + 1)
    ⟨w, [s], [0], .un, .un, .un, rfl, h.le (by omega), by simp, by simp, fun b hb => by rw [List.mem_singleton.mp hb, need_self]; exact ⟨hs, ls, Nat.le_refl _, by simp⟩, fun k hk => by rw [List.mem_singleton.mp hk]; exact ⟨s, by simp, need_self⟩, by simp, by simp, by simp⟩ ?_ ?_)
  · rintro j q ρ' hq ⟨w', bs, ks, s7, s8, s9, rfl, o1, f1, f2, f3, f4, f5, f6, f7⟩
    have hj := (List.getElem?_eq_some_iff.mp hq).1
    have hqm := List.mem_of_getElem? hq
    have hk := hm.at_ j q hq
    have hnv := hm.nv q hqm
    refine ⟨[.own (some 0) (eWl w'), .val (eY y), .val (eS s), .val (.list R), .val (.list (ms.map eM)), .own none (.lst (bs.map eS)), .own none (.lst (eNs ks)), .val (.int (q.1 : Nat)), .val (eS q.2), s9, .un, .un], rfl, ?_⟩
    obtain ⟨d1, w1, e1, b1, o2⟩ := ev_draw o1 2
    refine WS.ifB (t := decide ((d1 : Int) = 0)) (ρ1 := [.own (some 0) (eWl w1), .val (eY y), .val (eS s), .val (.list R), .val (.list (ms.map eM)), .own none (.lst (bs.map eS)), .own none (.lst (eNs ks)), .val (.int (q.1 : Nat)), .val (eS q.2), s9, .un, .un]) (by simp_all_arith [e1, eq_int]) (fun t => ?_) fun t => ?_
    · obtain ⟨d2, w2, e2, b2, o3⟩ := ev_draw o2 ((bs.length : Int) + 1)
      have lb : lenD [.list (bs.map eS)] = some (.val (.int bs.length)) := by rw [lenD_list, List.length_map]
      refine WS.setK (by simp_all_arith [lb, e2]; rfl) (by simp_all_arith []; rfl) ?_
      have a1 := add_l (a := (bs.map eS).take d2) (b := [eS q.2]) (by rw [List.length_take, List.length_map, List.length_singleton]; omega)
      have a2 := add_l (a := (bs.map eS).take d2 ++ [eS q.2]) (b := (bs.map eS).drop d2) (by rw [List.length_append, List.length_take, List.length_drop, List.length_map, List.length_singleton]; omega)
      have eb : (bs.map eS).take d2 ++ [eS q.2] ++ (bs.map eS).drop d2 = (bs.take d2 ++ [q.2] ++ bs.drop d2).map eS := by
        rw [List.map_append, List.map_append, List.map_take, List.map_drop]
        rfl
      rw [eb] at a2
      have t1 := sl_take_l (bs.map eS) d2
      have t2 := sl_drop_l (bs.map eS) d2
      refine WS.setK (r := .tmp (.lst ((bs.take d2 ++ [q.2] ++ bs.drop d2).map eS))) (by simp_all_arith [t1, t2, a1, a2]; rfl) (by simp_all_arith []; rfl) ?_
      have ap := app_ok (ds := eNs ks) (d := .int (q.1 : Nat)) (by unfold eNs; rw [List.length_map]; omega)
      have pm : (bs.take d2 ++ [q.2] ++ bs.drop d2).Perm (q.2 :: bs) := by
        rw [List.append_assoc]
        show (bs.take d2 ++ (q.2 :: bs.drop d2)).Perm _
        have pmid := List.perm_middle (l₁ := bs.take d2) (a := q.2) (l₂ := bs.drop d2)
        rw [List.take_append_drop] at pmid
        exact pmid
      have nq : q.2 ∉ bs := fun z => by
        have := (f3 q.2 z).2.2.1
        omega
      have mm : ∀ b, b ∈ bs.take d2 ++ [q.2] ++ bs.drop d2 ↔ b = q.2 ∨ b ∈ bs := fun b => by rw [pm.mem_iff, List.mem_cons]
      have emk : eNs (ks ++ [q.1]) = eNs ks ++ [.int (q.1 : Nat)] := by unfold eNs; rw [List.map_append]; rfl
      refine WS.drop (by simp_all_arith [ap]; rfl) ⟨w2, bs.take d2 ++ [q.2] ++ bs.drop d2, ks ++ [q.1], _, _, _, by rw [emk], o3.le (by omega), pm.nodup_iff.mpr (List.nodup_cons.mpr ⟨nq, f1⟩), (mm s).mpr (.inr f2), fun b hb => ?_, fun k hk' => ?_, by simp, by rw [pm.length_eq, List.length_cons]; omega, by rw [List.length_append, List.length_singleton]; omega⟩
      · rcases (mm b).mp hb with rfl | z
        · exact ⟨(hm.ok q hqm).1, (hm.ok q hqm).2, by omega, by rw [hnv]; simp⟩
        · obtain ⟨g1, g2, g3, g4⟩ := f3 b z
          exact ⟨g1, g2, by omega, List.mem_append.mpr (.inl g4)⟩
      · rcases List.mem_append.mp hk' with z | z
        · obtain ⟨b, hb, e⟩ := f4 k z
          exact ⟨b, (mm b).mpr (.inr hb), e⟩
        · rw [List.mem_singleton.mp z]
          exact ⟨q.2, (mm _).mpr (.inl rfl), hnv⟩
    · refine WS.next ?_
      exact ⟨w1, bs, ks, _, _, _, rfl, o2.le (by omega), f1, f2, fun b hb => by
        obtain ⟨g1, g2, g3, g4⟩ := f3 b hb
        exact ⟨g1, g2, by omega, g4⟩, f4, f5, by omega, by omega⟩
  · rintro ρF ⟨w', bs, ks, s7, s8, s9, rfl, o1, f1, f2, f3, f4, f5, f6, f7⟩
    have P : LibOk bs := ⟨fun b hb => (f3 b hb).1, fun b hb => (f3 b hb).2.1, f1, by omega⟩
    have hix : bs.idxOf s < bs.length := List.idxOf_lt_length_iff.mpr f2
    have hi : bs[bs.idxOf s]? = some s := by rw [List.getElem?_eq_getElem hix, List.getElem_idxOf]
    have ne : bs ≠ [] := by rintro rfl; exact nomatch f2
    have emax : maxN (needsOf y bs s) = maxN ks := by
      have m1 := maxN_mem (needsOf_ne (y := y) (s := s) ne)
      have m2 := maxN_mem f5
      refine Nat.le_antisymm ?_ ?_
      · rw [needsOf_eq] at m1 ⊢
        obtain ⟨b, hb, e⟩ := List.mem_map.mp m1
        rw [← e]
        exact maxN_le (f3 b hb).2.2.2
      · obtain ⟨b, hb, e⟩ := f4 _ m2
        refine Nat.le_trans (Nat.le_of_eq e.symm) (maxN_le ?_)
        rw [needsOf_eq]
        exact List.mem_map_of_mem hb
    have le := max_needs_le (y := y) (s := s) ne
    rw [emax] at le
    have ix := index_S f2 fun b hb => (f3 b hb).1
    have mx := max_list f5
    have mx : maxD [.list (eNs ks)] = some (.val (.int ((maxN ks : Nat) : Int))) := mx
    have pl := ev_place_of hy P hi
    rw [place_of_k emax] at pl
    refine WS.setK (by simp_all_arith [ix]; rfl) (by simp_all_arith []; rfl) ?_
    refine WS.setK (by simp_all_arith [tup_list]; rfl) (by simp_all_arith []; rfl) ?_
    refine WS.setK (by simp_all_arith [mx]; rfl) (by simp_all_arith []; rfl) ?_
    refine WS.seq (WS.ifB (t := decide (maxN ks = (pathOf y s).length)) (ρ1 := [.own (some 0) (eWl w'), .val (eY y), .val (eS s), .val (.list R), .val (.list (ms.map eM)), .val (eLib bs), .own none (.lst (eNs ks)), s7, s8, s9, .val (.int (bs.idxOf s : Nat)), .val (.int (maxN ks : Nat))]) ?_ (fun t => ?_) fun t => ?_)
    · have e0 : decide (((maxN ks : Nat) : Int) = ((pathOf y s).length : Int)) = decide (maxN ks = (pathOf y s).length) := by
        rw [Bool.eq_iff_iff]; simp only [decide_eq_true_eq]; omega
      simp_all_arith [lenR, eq_int, e0]
      rfl
    · have t := of_decide_eq_true t
      rw [if_neg (by omega)] at pl
      unfold eN at pl
      dsimp only at pl
      refine WS.ret (by simp_all_arith [pl]; rfl) ?_
      exact ⟨_, _, rfl, rfl, w', rfl, rfl, o1.le (by omega)⟩
    · refine WS.next ?_
      dsimp only
      have t := of_decide_eq_false t
      have lt : maxN ks < (pathOf y s).length := by omega
      rw [if_pos lt] at pl
      unfold eN at pl
      dsimp only at pl
      have la := ev_label_of hy P hi
      rw [label_plain emax lt] at la
      have hV := path_V' hy hs (List.getElem_mem lt)
      have sm := same_two (.int (maxN ks : Nat)) (eL (pathOf y s)[maxN ks]) plain_int (plain_L (n := 3) hV.1.ok hV.1.lt.1.ok (by have := hV.2.2; omega))
      have ixk := ixR _ lt
      generalize (pathOf y s)[maxN ks] = lk at *
      refine WS.ret (by simp_all_arith [pl, la, ixk, sm]; rfl) ?_
      exact ⟨_, _, rfl, rfl, w', rfl, rfl, o1.le (by omega)⟩
set_option Elab.async false
set_option linter.all false
set_option maxRecDepth 100000
set_option maxHeartbeats 4000000
open PySem PySem.Spec PyProof.Rows L2
/-! ### the path of a source is forced -/
theorem max_int0 {a b : Int} : maxD [.int a, .int b] = some (.val (.int (max a b))) := by
  unfold maxD
  dsimp only
  congr 3
  omega
theorem nxt_few {n : Nat} (hn : n ≤ 6) (t : Stat) (a : Wd) : (nxtS t a n).length ≤ 6 := by
  unfold nxtS
  cases a <;> simp <;> omega
theorem from_few {n : Nat} (hn : n ≤ 6) : ∀ (ws : List Wd) (t : Stat), (statesFrom t ws n).length ≤ 6 * ws.length
  | [], _ => Nat.le_refl _
  | a :: ws, t => by
    have := nxt_few hn t a
    have := from_few hn ws ((nxtS t a n).getLastD t)
    show (nxtS t a n ++ statesFrom _ ws n).length ≤ 6 * (ws.length + 1)
    rw [List.length_append]
    omega
theorem path_few {y : Sty} {s : Bk} (hy : SmallY y) (h : s.ppl.length ≤ 6) : (pathOf y s).length ≤ 43 := by
  have h1 := from_few h y.steps (firstState y s.ppl.length)
  have h2 := hy.st
  have h3 := (noRep_sublist ((statesOf y s.ppl.length).map shownS)).length_le
  unfold pathOf seenOf
  rw [List.length_map]
  refine Nat.le_trans h3 ?_
  rw [List.length_map]
  unfold statesOf
  rw [List.length_cons]
  omega
theorem needIn_is {p : List Lab} {o : Bk} {k : Nat} (hk : k < p.length) (h1 : fits p[k] o = false) (h2 : ∀ j (hj : j < k), fits (p[j]'(by omega)) o = true) : needIn p o = some k := by
  unfold needIn
  exact List.findIdx?_eq_some_iff_getElem.mpr ⟨hk, by simp [h1], fun j hj => by simp [h2 j hj]⟩
theorem needIn_no {p : List Lab} {o : Bk} (h : ∀ l ∈ p, fits l o = true) : needIn p o = none := by
  unfold needIn
  exact List.findIdx?_eq_none_iff.mpr fun l hl => by simp [h l hl]
/-- the source that forces a label -/
def mateAt (p : List Lab) (k : Nat) : Bk := outS (p.getD (k - 1) lab0) (p.getD k lab0)
theorem getD_at {p : List Lab} {k : Nat} (h : k < p.length) : p.getD k lab0 = p[k] := by
  rw [List.getD_eq_getElem?_getD, List.getElem?_eq_getElem h]
  rfl
theorem mate_facts {y : Sty} {s : Bk} (hy : SmallY y) (hs : BkOk s) (ls : s.ppl.length ≤ 6) {k : Nat} (h1 : 1 ≤ k) (hk : k < (pathOf y s).length) :
    BkOk (mateAt (pathOf y s) k) ∧ (mateAt (pathOf y s) k).ppl.length ≤ 100 ∧ s ≠ mateAt (pathOf y s) k ∧ needIn (pathOf y s) (mateAt (pathOf y s) k) = some k ∧
    fits ((pathOf y s)[k - 1]'(by omega)) (mateAt (pathOf y s) k) = true ∧ fits (pathOf y s)[k] (mateAt (pathOf y s) k) = false := by
  have po := path_ok hy.ok hs
  have a := path_V po hs _ (List.getElem_mem (show k - 1 < (pathOf y s).length by omega))
  have b := path_V po hs _ (List.getElem_mem hk)
  have nw := path_narrow po hs h1 hk
  have e : mateAt (pathOf y s) k = outS ((pathOf y s)[k - 1]'(by omega)) (pathOf y s)[k] := by
    unfold mateAt
    rw [getD_at hk, getD_at (show k - 1 < (pathOf y s).length by omega)]
  rw [e]
  have f1 := out_fits (o := (pathOf y s)[k]) a.1
  have f2 := out_not a.1 b.1 nw
  have ok := out_ok (o := (pathOf y s)[k]) a.1
  refine ⟨ok, ?_, fun z => ?_, needIn_is hk f2 fun j hj => path_chain po hs ok (show j ≤ k - 1 by omega) (by omega) f1, f1, f2⟩
  · rw [out_len]
    unfold outN
    have := a.2.2
    have := b.2.2
    split <;> omega
  · rw [← z, b.2.1] at f2
    cases f2
def topL (s : Bk) : Lab := ⟨s.ppl, false, s.yr, some s.ttl, ""⟩
theorem top_V {s : Bk} (hs : BkOk s) : LabV (topL s) ∧ fits (topL s) s = true := by
  have hn : 1 ≤ s.ppl.length := List.length_pos_iff.mpr hs.ne
  unfold topL
  rw [← top_eq]
  exact ⟨labelV hs (topS_ok hn), self_fits hs (topS_ok hn)⟩
def lastMate (y : Sty) (s : Bk) : Bk := outS (plainAt y s (pathOf y s).length) (topL s)
theorem last_facts {y : Sty} {s : Bk} (hy : SmallY y) (hs : BkOk s) (ls : s.ppl.length ≤ 6) (h : narrower (plainAt y s (pathOf y s).length) (topL s) = false) :
    BkOk (lastMate y s) ∧ (lastMate y s).ppl.length ≤ 100 ∧ s ≠ lastMate y s ∧ needIn (pathOf y s) (lastMate y s) = none := by
  have po := path_ok hy.ok hs
  have a := path_V po hs _ (plain_mem (n := (pathOf y s).length))
  have t := top_V hs
  have f1 := out_fits (o := topL s) a.1
  have f2 := out_not a.1 t.1 h
  have ok : BkOk (lastMate y s) := out_ok (o := topL s) a.1
  have lp : 0 < (pathOf y s).length := List.length_pos_iff.mpr (pathOf_ne y s)
  have el := path_last (y := y) (s := s)
  rw [List.getLast?_eq_getElem?, List.getElem?_eq_getElem (show (pathOf y s).length - 1 < (pathOf y s).length by omega)] at el
  have el := Option.some.inj el
  refine ⟨ok, ?_, fun z => ?_, needIn_no fun l hl => ?_⟩
  · show (outS _ _).ppl.length ≤ 100
    rw [out_len]
    unfold outN
    have := a.2.2
    have : (topL s).prs.length = s.ppl.length := rfl
    split <;> omega
  · have z2 : outS (plainAt y s (pathOf y s).length) (topL s) = s := z.symm
    rw [z2, t.2] at f2
    cases f2
  · obtain ⟨i, hi, rfl⟩ := List.mem_iff_getElem.mp hl
    rw [← el] at f1
    refine path_chain po hs ok (show i ≤ (pathOf y s).length - 1 by omega) (by omega) ?_
    unfold lastMate
    rw [← el]
    exact f1
def matesTo (y : Sty) (s : Bk) (j : Nat) : List (Nat × Bk) := (List.range j).map fun i => (i + 1, mateAt (pathOf y s) (i + 1))
theorem matesTo_succ {y : Sty} {s : Bk} {j : Nat} : matesTo y s (j + 1) = matesTo y s j ++ [(j + 1, mateAt (pathOf y s) (j + 1))] := by
  unfold matesTo
  rw [List.range_succ, List.map_append]
  rfl
theorem needVal_some {y : Sty} {s m : Bk} {k : Nat} (hne : s ≠ m) (h : needIn (pathOf y s) m = some k) : needVal y s m = k := by unfold needVal; rw [if_neg (fun z => hne z.symm), h]; rfl
theorem needVal_none {y : Sty} {s m : Bk} (hne : s ≠ m) (h : needIn (pathOf y s) m = none) : needVal y s m = (pathOf y s).length := by unfold needVal; rw [if_neg (fun z => hne z.symm), h]; rfl
theorem mates_ok {y : Sty} {s : Bk} (hy : SmallY y) (hs : BkOk s) (ls : s.ppl.length ≤ 6) : Mates y s (matesTo y s ((pathOf y s).length - 1)) where
  ok := fun q hq => by
    obtain ⟨i, hi, rfl⟩ := List.mem_map.mp hq
    have := List.mem_range.mp hi
    have f := mate_facts hy hs ls (k := i + 1) (by omega) (by omega)
    exact ⟨f.1, f.2.1⟩
  nv := fun q hq => by
    obtain ⟨i, hi, rfl⟩ := List.mem_map.mp hq
    have := List.mem_range.mp hi
    have f := mate_facts hy hs ls (k := i + 1) (by omega) (by omega)
    exact needVal_some f.2.2.1 f.2.2.2.1
  at_ := fun j q hq => by
    unfold matesTo at hq
    rw [List.getElem?_map] at hq
    cases e : (List.range ((pathOf y s).length - 1))[j]? with
    | none => rw [e] at hq; cases hq
    | some i =>
      rw [e] at hq
      have := (List.getElem?_eq_some_iff.mp e).2
      rw [List.getElem_range] at this
      cases hq
      dsimp only
      omega
  few := by
    have := path_few hy ls
    unfold matesTo
    rw [List.length_map, List.length_range]
    omega
theorem mates_more {y : Sty} {s : Bk} (hy : SmallY y) (hs : BkOk s) (ls : s.ppl.length ≤ 6) (h : narrower (plainAt y s (pathOf y s).length) (topL s) = false) : Mates y s (matesTo y s ((pathOf y s).length - 1) ++ [((pathOf y s).length, lastMate y s)]) where
  ok := fun q hq => by
    rcases List.mem_append.mp hq with z | z
    · exact (mates_ok hy hs ls).ok q z
    · rw [List.mem_singleton.mp z]
      have f := last_facts hy hs ls h
      exact ⟨f.1, f.2.1⟩
  nv := fun q hq => by
    rcases List.mem_append.mp hq with z | z
    · exact (mates_ok hy hs ls).nv q z
    · rw [List.mem_singleton.mp z]
      have f := last_facts hy hs ls h
      exact needVal_none f.2.2.1 f.2.2.2
  at_ := fun j q hq => by
    have lm : (matesTo y s ((pathOf y s).length - 1)).length = (pathOf y s).length - 1 := by unfold matesTo; rw [List.length_map, List.length_range]
    have lp : 0 < (pathOf y s).length := List.length_pos_iff.mpr (pathOf_ne y s)
    by_cases hj : j < (pathOf y s).length - 1
    · rw [List.getElem?_append_left (by omega)] at hq
      exact (mates_ok hy hs ls).at_ j q hq
    · rw [List.getElem?_append_right (by omega), lm] at hq
      have hb := (List.getElem?_eq_some_iff.mp hq).1
      rw [List.length_singleton] at hb
      have e0 : j - ((pathOf y s).length - 1) = 0 := by omega
      rw [e0] at hq
      cases hq
      dsimp only
      omega
  few := by
    have := path_few hy ls
    unfold matesTo
    rw [List.length_append, List.length_map, List.length_range, List.length_singleton]
    omega
set_option Elab.async false
set_option linter.all false
set_option maxRecDepth 100000
set_option maxHeartbeats 4000000
open PySem PySem.Spec PyProof.Rows L2
theorem rng2_n {bd : Bool} {ma : Sl → Option (List RV × Sl)} {ρ ρ1 : Sl} {n : Nat} (h : ma ρ = some ([.val (.int 1), .val (.int n)], ρ1)) (h1 : 1 ≤ n) (hn : n ≤ 100000) : mRng2 bd ma ρ = some ((List.range (n - 1)).map (fun i : Nat => PyData.int ((i + 1 : Nat) : Int)), ρ1) := by
  rw [rng2_ok h (by decide) (by decide) (by omega) (by omega), rangeD_map, show ((n : Int) - 1).toNat = n - 1 by omega]
  congr 2
  refine List.map_congr_left fun i _ => ?_
  congr 1
  omega
theorem ev_right {w : Well} {B : Nat} (h : OkW B w) {y : Sty} {s : Bk} (hy : SmallY y) (hs : BkOk s) (ls : s.ppl.length ≤ 6) (hB : 400 ≤ B := by omega) :
    ∃ (w' : Well), callW 8 m__law_right (eWl w) [eY y, eS s] = some (.val (.bool true), eWl w') ∧ OkW (B - 400) w' := by
  suffices hh : ∃ r o', callW 8 m__law_right (eWl w) [eY y, eS s] = some (r, o') ∧ ∃ (w' : Well), r = .val (.bool true) ∧ o' = eWl w' ∧ OkW (B - 400) w' by
    obtain ⟨r, o', q, w', rfl, rfl, q3⟩ := hh
    exact ⟨w', q, q3⟩
  have ls2 : s.ppl.length ≤ 100 := by omega
  have lp : 0 < (pathOf y s).length := List.length_pos_iff.mpr (pathOf_ne y s)
  have lf := path_few hy ls
  have ep := ev_path hy hs ls2
  have P1 : LibOk [s] := ⟨fun b hb => by rw [List.mem_singleton.mp hb]; exact hs, fun b hb => by rw [List.mem_singleton.mp hb]; exact ls2, by simp, by show 1 < 64; decide⟩
  have m1 : maxN (needsOf y [s] s) = 0 := by
    rw [needsOf_eq]
    show maxN [needVal y s s] = 0
    rw [need_self]
    rfl
  have pl : callV 3 m_place_of [eY y, .tuple [eS s], .int 0] = some (.val (.int 0)) := by
    have := ev_place_of (i := 0) (s := s) hy P1 rfl
    rw [place_of_k m1, if_pos lp] at this
    exact this
  have re : callV 5 m_reason [eY y, .tuple [eS s], .int 0] = some (.val .none) := by
    have := ev_reason (i := 0) (s := s) hy P1 rfl
    unfold reasonOf at this
    rw [m1, if_neg (by omega)] at this
    exact this
  have s0 := same_two (.int 0) .none plain_int plain_none
  have eqn : eqD (.list ((pathOf y s).map eL)) (.list []) = some (.val (.bool false)) := by
    have := eq_nil (n := 3) (ds := (pathOf y s).map eL) (fun d hd => by
      obtain ⟨l, hl, rfl⟩ := List.mem_map.mp hd
      have hV := path_V' hy hs hl
      exact okL hV.1.ok hV.1.lt.1.ok) (by decide)
    rw [this]
    cases e : pathOf y s with
    | nil => rw [e] at lp; exact absurd lp (by decide)
    | cons a b => rfl
  have lenR : lenD [.list ((pathOf y s).map eL)] = some (.val (.int (pathOf y s).length)) := by rw [lenD_list, List.length_map]
  have ixR : ∀ k (hk : k < (pathOf y s).length), ixD (.list ((pathOf y s).map eL)) (.int k) = some (.val (eL (pathOf y s)[k])) := fun k hk => ixl (by rw [List.getElem?_map, List.getElem?_eq_getElem hk]; rfl)
  have il := ix_lastL (path_last (y := y) (s := s))
  have forced := fun k (hk1 : 1 ≤ k) (hk2 : k < (pathOf y s).length) => let f := mate_facts hy hs ls hk1 hk2
    ev_forced hy hs f.1 ls2 f.2.1 f.2.2.1 f.2.2.2.1 hk1 hk2
  have lettered := fun hn => let f := last_facts hy hs ls hn
    ev_lettered hy hs f.1 ls2 f.2.1 f.2.2.1 f.2.2.2
  have several := fun (w : Well) (B : Nat) (h : OkW B w) (ms : List (Nat × Bk)) (hm : Mates y s ms) (hB : 200 ≤ B) => ev_several h hy hs ls2 hm hB
  have i0 : ixD (eS s) (.int 0) = some (.val (.tuple (s.ppl.map eP))) := ix0
  have i1 : ixD (eS s) (.int 1) = some (.val (.int s.yr)) := ix1
  have i2 : ixD (eS s) (.int 2) = some (.val (.str s.ttl)) := ix2
  generalize hR : (pathOf y s).map eL = R at *
  refine callW_of ?_
  unfold m__law_right
  refine WS.setK (by simp_all_arith [ep]; rfl) (by simp_all_arith []; rfl) ?_
  (refine WS.seq (WS.ifF (by simp_all_arith [eqn]; rfl) (WS.next ?_)); dsimp only)
  (refine WS.seq (WS.ifF (by simp_all_arith [pl, re, s0]; rfl) (WS.next ?_)); dsimp only)
  refine WS.setK (by simp_all_arith []; rfl) (by simp_all_arith []; rfl) ?_
  refine WS.seq (WS.for_ (rng2_n (n := (pathOf y s).length) (ρ1 := [.own (some 0) (eWl w), .val (eY y), .val (eS s), .own none (.lst R), .own none (.lst []), .un, .un, .un]) (by simp_all_arith [lenR]) lp (by omega))
    (fun j ρ => ∃ s3 s5 s6, (s3 = .own none (.lst R) ∨ s3 = .val (.list R)) ∧ ρ = [.own (some 0) (eWl w), .val (eY y), .val (eS s), s3, .own none (.lst ((matesTo y s j).map eM)), s5, s6, .un])
    ⟨_, _, _, .inl rfl, rfl⟩ ?_ ?_)
  · rintro j i ρ' hi ⟨s3, s5, s6, h3, rfl⟩
    have hj := (List.getElem?_eq_some_iff.mp hi).1
    have ei := (List.getElem?_eq_some_iff.mp hi).2
    rw [List.getElem_range] at ei
    subst ei
    rw [List.length_range] at hj
    have hk : j + 1 < (pathOf y s).length := by omega
    have f := mate_facts hy hs ls (k := j + 1) (by omega) hk
    have fo := forced (j + 1) (by omega) hk
    have po := path_ok hy.ok hs
    have nw := path_narrow po hs (k := j + 1) (by omega) hk
    have a := path_V po hs _ (List.getElem_mem (show j + 1 - 1 < (pathOf y s).length by omega))
    have b := path_V po hs _ (List.getElem_mem hk)
    have eo := ev_outside a.1 b.1 (by have := a.2.2; omega) (by have := b.2.2; omega)
    rw [if_neg (by rw [nw]; decide)] at eo
    have em : outS ((pathOf y s)[j + 1 - 1]'(by omega)) (pathOf y s)[j + 1] = mateAt (pathOf y s) (j + 1) := by
      unfold mateAt
      rw [getD_at hk, getD_at (show j + 1 - 1 < (pathOf y s).length by omega)]
    rw [em] at eo
    have x1 := ixR (j + 1 - 1) (by omega)
    have x2 := ixR (j + 1) hk
    have e1 : ((j + 1 - 1 : Nat) : Int) = ((j + 1 : Nat) : Int) - 1 := by omega
    rw [e1] at x1
    have g1 := ev_lfits a.1.ok f.1 (by have := a.2.2; omega)
    have g2 := ev_lfits b.1.ok f.1 (by have := b.2.2; omega)
    rw [f.2.2.2.2.1] at g1
    rw [f.2.2.2.2.2] at g2
    have ap := app_ok (ds := (matesTo y s j).map eM) (d := .tuple [.int ((j + 1 : Nat) : Int), eS (mateAt (pathOf y s) (j + 1))]) (by unfold matesTo; rw [List.length_map, List.length_map, List.length_range]; omega)
    have emk : (matesTo y s (j + 1)).map eM = (matesTo y s j).map eM ++ [.tuple [.int ((j + 1 : Nat) : Int), eS (mateAt (pathOf y s) (j + 1))]] := by
      rw [matesTo_succ, List.map_append]
      rfl
    generalize (pathOf y s)[j + 1 - 1]'(by omega) = la at *
    generalize (pathOf y s)[j + 1] = lb at *
    generalize mateAt (pathOf y s) (j + 1) = mm at *
    obtain ⟨dm, hdm⟩ : ∃ dm, eS mm = .tuple dm := ⟨_, rfl⟩
    rw [hdm] at eo g1 g2 fo ap emk
    rw [emk]
    refine ⟨_, rfl, ?_⟩
    rcases h3 with rfl | rfl <;>
    · refine WS.setK (by simp_all_arith [x1, x2, eo]; rfl) (by simp_all_arith []; rfl) ?_
      (refine WS.seq (WS.ifF (by simp_all_arith [x1, x2, g1, g2]; rfl) (WS.next ?_)); dsimp only)
      (refine WS.seq (WS.ifF (by simp_all_arith [fo]; rfl) (WS.next ?_)); dsimp only)
      refine WS.drop (by simp_all_arith [ap]; rfl) ?_
      exact ⟨_, _, _, .inr rfl, rfl⟩
  · rintro ρF ⟨s3, s5, s6, h3, rfl⟩
    rw [List.length_range]
    have a := path_V (path_ok hy.ok hs) hs _ (plain_mem (n := (pathOf y s).length))
    have t := top_V hs
    have ln : narrower (plainAt y s (pathOf y s).length) (topL s) = true ↔ plainAt y s (pathOf y s).length = topL s := last_narrow (path_ok hy.ok hs) hs (plain_mem (n := (pathOf y s).length))
    have eo := ev_outside a.1 t.1 (by have := a.2.2; omega) (by show s.ppl.length ≤ 1000; omega)
    have eq := eqL a.1.ok t.1.ok a.1.lt.1.ok t.1.lt.1.ok
    have lm : (matesTo y s ((pathOf y s).length - 1)).length = (pathOf y s).length - 1 := by unfold matesTo; rw [List.length_map, List.length_range]
    cases q : narrower (plainAt y s (pathOf y s).length) (topL s) with
    | true =>
      rw [if_pos q] at eo
      rw [decide_eq_true (ln.mp q)] at eq
      obtain ⟨w1, e1, o1⟩ := several w B h _ (mates_ok hy hs ls) (by omega)
      obtain ⟨w2, e2, o2⟩ := several w1 _ o1 _ (mates_ok hy hs ls) (by omega)
      generalize plainAt y s (pathOf y s).length = L at *
      rcases h3 with rfl | rfl <;>
      · refine WS.setK (r := .val (eL (topL s))) (by simp_all_arith [i0, i1, i2]; rfl) (by simp_all_arith []; rfl) ?_
        refine WS.setK (by simp_all_arith [il, eo]; rfl) (by simp_all_arith []; rfl) ?_
        (refine WS.seq (WS.ifF (by simp_all_arith [il, eq]; rfl) (WS.next ?_)); dsimp only)
        (refine WS.seq (WS.ifF (by simp_all_arith []; rfl) (WS.next ?_)); dsimp only)
        refine WS.ret (by simp_all_arith [e1, e2]; rfl) ?_
        exact ⟨_, _, rfl, rfl, w2, rfl, rfl, o2.le (by omega)⟩
    | false =>
      rw [if_neg (by rw [q]; decide)] at eo
      rw [decide_eq_false (fun z => by rw [ln.mpr z] at q; cases q)] at eq
      obtain ⟨w1, e1, o1⟩ := several w B h _ (mates_more hy hs ls q) (by omega)
      obtain ⟨w2, e2, o2⟩ := several w1 _ o1 _ (mates_more hy hs ls q) (by omega)
      have lt := lettered q
      have ap := app_ok (ds := (matesTo y s ((pathOf y s).length - 1)).map eM) (d := .tuple [.int ((pathOf y s).length : Nat), eS (lastMate y s)]) (by rw [List.length_map]; omega)
      have emk : (matesTo y s ((pathOf y s).length - 1) ++ [((pathOf y s).length, lastMate y s)]).map eM = (matesTo y s ((pathOf y s).length - 1)).map eM ++ [.tuple [.int ((pathOf y s).length : Nat), eS (lastMate y s)]] := by
        rw [List.map_append]
        rfl
      rw [emk] at e1 e2
      have eo : callV 2 m_outside [eL (plainAt y s (pathOf y s).length), eL (topL s)] = some (.val (eS (lastMate y s))) := eo
      generalize plainAt y s (pathOf y s).length = L at *
      generalize lastMate y s = mm at *
      obtain ⟨dm, hdm⟩ : ∃ dm, eS mm = .tuple dm := ⟨_, rfl⟩
      rw [hdm] at eo lt ap e1 e2
      rcases h3 with rfl | rfl <;>
      · refine WS.setK (r := .val (eL (topL s))) (by simp_all_arith [i0, i1, i2]; rfl) (by simp_all_arith []; rfl) ?_
        refine WS.setK (by simp_all_arith [il, eo]; rfl) (by simp_all_arith []; rfl) ?_
        (refine WS.seq (WS.ifF (by simp_all_arith [il, eq]; rfl) (WS.next ?_)); dsimp only)
        refine WS.seq (WS.ifT (by simp_all_arith []; rfl) ?_)
        (refine WS.seq (WS.ifF (by simp_all_arith [lt]; rfl) (WS.next ?_)); dsimp only)
        refine WS.drop (by simp_all_arith [lenR, ap]; rfl) ?_
        dsimp only
        refine WS.ret (by simp_all_arith [e1, e2]; rfl) ?_
        exact ⟨_, _, rfl, rfl, w2, rfl, rfl, o2.le (by omega)⟩
theorem ev_law (ns : List Int) (hlen : ns.length ≤ 63) : callV 4 m_law [.dict (scrK ns)] = some (.val (.bool true)) := by
  refine callV_eq ?_
  unfold m_law
  have em : max (1 : Int) (min (5 : Int) (ns.length : Int)) = ((max 1 (min 5 ns.length) : Nat) : Int) := by omega
  refine WS.seq (WS.for_ (rng1_n (n := max 1 (min 5 ns.length)) (ρ1 := [.val (.dict (scrK ns)), .un, .un, .un]) (by simp_all_arith [len_scr, min_int, max_int0, em]) (by omega))
    (fun j ρ => ∃ s1 s2 s3, ρ = [.val (.dict (scrK ns)), s1, s2, s3])
    ⟨.un, .un, .un, rfl⟩ ?_ ?_)
  · rintro j i ρ' hi ⟨s1, s2, s3, rfl⟩
    have hj := (List.getElem?_eq_some_iff.mp hi).1
    have ei := (List.getElem?_eq_some_iff.mp hi).2
    rw [List.getElem_range] at ei
    rw [List.length_range] at hj
    refine ⟨_, rfl, ?_⟩
    obtain ⟨w, e1, o1⟩ := ev_well ns i (by omega)
    refine WS.setK (by simp_all_arith [e1]; rfl) (by simp_all_arith []; rfl) ?_
    refine WS.for_ (rng1_n (n := 3) (ρ1 := [.val (.dict (scrK ns)), .val (.int i), .own none (eWl w), s3]) (by simp_all_arith []) (by decide))
      (fun j ρ => ∃ w' s3, ρ = [.val (.dict (scrK ns)), .val (.int i), .own none (eWl w'), s3] ∧ OkW (900000000 - 10000 * j) w') ⟨w, s3, rfl, o1.le (by omega)⟩ ?_ ?_
    · rintro j q ρ' hq ⟨w', s3, rfl, o2⟩
      have hq2 := (List.getElem?_eq_some_iff.mp hq).1
      rw [List.length_range] at hq2
      obtain ⟨y, w1, e2, ⟨hy, _⟩, o3⟩ := ev_rules o2 (greatest := 4) (by decide)
      obtain ⟨s, w2, e3, ⟨hs, ls⟩, o4⟩ := ev_source o3 (most := 6) (by decide)
      have e2 : callW 6 m__law_rules (eWl w') [.int 4] = some (.val (eY y), eWl w1) := e2
      have e3 : callW 6 m__law_source (eWl w1) [.int 6] = some (.val (eS s), eWl w2) := e3
      obtain ⟨w3, e4, o5⟩ := ev_right o4 hy hs ls
      refine ⟨_, rfl, WS.ifF (by simp_all_arith [e2, e3, e4]; rfl) (WS.next ?_)⟩
      exact ⟨w3, _, rfl, o5.le (by omega)⟩
    · rintro ρF ⟨w', s3, rfl, _⟩
      exact ⟨_, _, _, rfl⟩
  · rintro ρF ⟨s1, s2, s3, rfl⟩
    refine WS.ret (by simp_all_arith []; rfl) ?_
    rfl
set_option Elab.async false
set_option linter.all false
set_option maxRecDepth 100000
set_option maxHeartbeats 4000000
open PySem PySem.Spec PyProof.Rows L2
def d_is_integer : He.DefD := ⟨("is_integer", none), "is_integer", "is_integer", defArgs s_is_integer, defBody s_is_integer, defScope s_is_integer, [], []⟩
def d_are_letters : He.DefD := ⟨("are_letters", none), "are_letters", "are_letters", defArgs s_are_letters, defBody s_are_letters, defScope s_are_letters, [], []⟩
def d_written_letters : He.DefD := ⟨("written_letters", none), "written_letters", "written_letters", defArgs s_written_letters, defBody s_written_letters, defScope s_written_letters, [], []⟩
def d_is_name : He.DefD := ⟨("is_name", none), "is_name", "is_name", defArgs s_is_name, defBody s_is_name, defScope s_is_name, [], []⟩
def d_is_person : He.DefD := ⟨("is_person", none), "is_person", "is_person", defArgs s_is_person, defBody s_is_person, defScope s_is_person, [], []⟩
def d_is_title : He.DefD := ⟨("is_title", none), "is_title", "is_title", defArgs s_is_title, defBody s_is_title, defScope s_is_title, [], []⟩
def d_are_people : He.DefD := ⟨("are_people", none), "are_people", "are_people", defArgs s_are_people, defBody s_are_people, defScope s_are_people, [], []⟩
def d_is_source : He.DefD := ⟨("is_source", none), "is_source", "is_source", defArgs s_is_source, defBody s_is_source, defScope s_is_source, [], []⟩
def d_is_library : He.DefD := ⟨("is_library", none), "is_library", "is_library", defArgs s_is_library, defBody s_is_library, defScope s_is_library, [], []⟩
def d_check_source : He.DefD := ⟨("check_source", none), "check_source", "check_source", defArgs s_check_source, defBody s_check_source, defScope s_check_source, [], []⟩
def d_check_library : He.DefD := ⟨("check_library", none), "check_library", "check_library", defArgs s_check_library, defBody s_check_library, defScope s_check_library, [], []⟩
def d_check_index : He.DefD := ⟨("check_index", none), "check_index", "check_index", defArgs s_check_index, defBody s_check_index, defScope s_check_index, [], []⟩
def d_is_part : He.DefD := ⟨("is_part", none), "is_part", "is_part", defArgs s_is_part, defBody s_is_part, defScope s_is_part, [], []⟩
def d_is_pair : He.DefD := ⟨("is_pair", none), "is_pair", "is_pair", defArgs s_is_pair, defBody s_is_pair, defScope s_is_pair, [], []⟩
def d_is_label : He.DefD := ⟨("is_label", none), "is_label", "is_label", defArgs s_is_label, defBody s_is_label, defScope s_is_label, [], []⟩
def d_check_label : He.DefD := ⟨("check_label", none), "check_label", "check_label", defArgs s_check_label, defBody s_check_label, defScope s_check_label, [], []⟩
def d_part_fits : He.DefD := ⟨("part_fits", none), "part_fits", "part_fits", defArgs s_part_fits, defBody s_part_fits, defScope s_part_fits, [], []⟩
def d_part_within : He.DefD := ⟨("part_within", none), "part_within", "part_within", defArgs s_part_within, defBody s_part_within, defScope s_part_within, [], []⟩
def d_fits_source : He.DefD := ⟨("fits_source", none), "fits_source", "fits_source", defArgs s_fits_source, defBody s_fits_source, defScope s_fits_source, [], []⟩
def d_number_within : He.DefD := ⟨("number_within", none), "number_within", "number_within", defArgs s_number_within, defBody s_number_within, defScope s_number_within, [], []⟩
def d_is_narrower : He.DefD := ⟨("is_narrower", none), "is_narrower", "is_narrower", defArgs s_is_narrower, defBody s_is_narrower, defScope s_is_narrower, [], []⟩
def d_fresh_given : He.DefD := ⟨("fresh_given", none), "fresh_given", "fresh_given", defArgs s_fresh_given, defBody s_fresh_given, defScope s_fresh_given, [], []⟩
def d_source_outside : He.DefD := ⟨("source_outside", none), "source_outside", "source_outside", defArgs s_source_outside, defBody s_source_outside, defScope s_source_outside, [], []⟩
def d_outside : He.DefD := ⟨("outside", none), "outside", "outside", defArgs s_outside, defBody s_outside, defScope s_outside, [], []⟩
def d_are_steps : He.DefD := ⟨("are_steps", none), "are_steps", "are_steps", defArgs s_are_steps, defBody s_are_steps, defScope s_are_steps, [], []⟩
def d_is_style : He.DefD := ⟨("is_style", none), "is_style", "is_style", defArgs s_is_style, defBody s_is_style, defScope s_is_style, [], []⟩
def d_check_style : He.DefD := ⟨("check_style", none), "check_style", "check_style", defArgs s_check_style, defBody s_check_style, defScope s_check_style, [], []⟩
def d_first_state : He.DefD := ⟨("first_state", none), "first_state", "first_state", defArgs s_first_state, defBody s_first_state, defScope s_first_state, [], []⟩
def d_states_behind : He.DefD := ⟨("states_behind", none), "states_behind", "states_behind", defArgs s_states_behind, defBody s_states_behind, defScope s_states_behind, [], []⟩
def d_states_of : He.DefD := ⟨("states_of", none), "states_of", "states_of", defArgs s_states_of, defBody s_states_of, defScope s_states_of, [], []⟩
def d_shown_state : He.DefD := ⟨("shown_state", none), "shown_state", "shown_state", defArgs s_shown_state, defBody s_shown_state, defScope s_shown_state, [], []⟩
def d_part_by : He.DefD := ⟨("part_by", none), "part_by", "part_by", defArgs s_part_by, defBody s_part_by, defScope s_part_by, [], []⟩
def d_label_by : He.DefD := ⟨("label_by", none), "label_by", "label_by", defArgs s_label_by, defBody s_label_by, defScope s_label_by, [], []⟩
def d_seen_states : He.DefD := ⟨("seen_states", none), "seen_states", "seen_states", defArgs s_seen_states, defBody s_seen_states, defScope s_seen_states, [], []⟩
def d_path_of : He.DefD := ⟨("path_of", none), "path_of", "path_of", defArgs s_path_of, defBody s_path_of, defScope s_path_of, [], []⟩
def d_path : He.DefD := ⟨("path", none), "path", "path", defArgs s_path, defBody s_path, defScope s_path, [], []⟩
def d_need_in : He.DefD := ⟨("need_in", none), "need_in", "need_in", defArgs s_need_in, defBody s_need_in, defScope s_need_in, [], []⟩
def d_as_number : He.DefD := ⟨("as_number", none), "as_number", "as_number", defArgs s_as_number, defBody s_as_number, defScope s_as_number, [], []⟩
def d_needs_in : He.DefD := ⟨("needs_in", none), "needs_in", "needs_in", defArgs s_needs_in, defBody s_needs_in, defScope s_needs_in, [], []⟩
def d_place_in : He.DefD := ⟨("place_in", none), "place_in", "place_in", defArgs s_place_in, defBody s_place_in, defScope s_place_in, [], []⟩
def d_plain_label : He.DefD := ⟨("plain_label", none), "plain_label", "plain_label", defArgs s_plain_label, defBody s_plain_label, defScope s_plain_label, [], []⟩
def d_with_letters : He.DefD := ⟨("with_letters", none), "with_letters", "with_letters", defArgs s_with_letters, defBody s_with_letters, defScope s_with_letters, [], []⟩
def d_all_labels : He.DefD := ⟨("all_labels", none), "all_labels", "all_labels", defArgs s_all_labels, defBody s_all_labels, defScope s_all_labels, [], []⟩
def d_label_at : He.DefD := ⟨("label_at", none), "label_at", "label_at", defArgs s_label_at, defBody s_label_at, defScope s_label_at, [], []⟩
def d_check_place : He.DefD := ⟨("check_place", none), "check_place", "check_place", defArgs s_check_place, defBody s_check_place, defScope s_check_place, [], []⟩
def d_need : He.DefD := ⟨("need", none), "need", "need", defArgs s_need, defBody s_need, defScope s_need, [], []⟩
def d_place_of : He.DefD := ⟨("place_of", none), "place_of", "place_of", defArgs s_place_of, defBody s_place_of, defScope s_place_of, [], []⟩
def d_label_of : He.DefD := ⟨("label_of", none), "label_of", "label_of", defArgs s_label_of, defBody s_label_of, defScope s_label_of, [], []⟩
def d_labels : He.DefD := ⟨("labels", none), "labels", "labels", defArgs s_labels, defBody s_labels, defScope s_labels, [], []⟩
def d_reason : He.DefD := ⟨("reason", none), "reason", "reason", defArgs s_reason, defBody s_reason, defScope s_reason, [], []⟩
def d__law_well : He.DefD := ⟨("_law_well", none), "_law_well", "_law_well", defArgs s__law_well, defBody s__law_well, defScope s__law_well, [], []⟩
def d__law_draw : He.DefD := ⟨("_law_draw", none), "_law_draw", "_law_draw", defArgs s__law_draw, defBody s__law_draw, defScope s__law_draw, [], []⟩
def d__law_same : He.DefD := ⟨("_law_same", none), "_law_same", "_law_same", defArgs s__law_same, defBody s__law_same, defScope s__law_same, [], []⟩
def d__law_drawn : He.DefD := ⟨("_law_drawn", none), "_law_drawn", "_law_drawn", defArgs s__law_drawn, defBody s__law_drawn, defScope s__law_drawn, [], []⟩
def d__law_person : He.DefD := ⟨("_law_person", none), "_law_person", "_law_person", defArgs s__law_person, defBody s__law_person, defScope s__law_person, [], []⟩
def d__law_source : He.DefD := ⟨("_law_source", none), "_law_source", "_law_source", defArgs s__law_source, defBody s__law_source, defScope s__law_source, [], []⟩
def d__law_rules : He.DefD := ⟨("_law_rules", none), "_law_rules", "_law_rules", defArgs s__law_rules, defBody s__law_rules, defScope s__law_rules, [], []⟩
def d__law_fits : He.DefD := ⟨("_law_fits", none), "_law_fits", "_law_fits", defArgs s__law_fits, defBody s__law_fits, defScope s__law_fits, [], []⟩
def d__law_forced : He.DefD := ⟨("_law_forced", none), "_law_forced", "_law_forced", defArgs s__law_forced, defBody s__law_forced, defScope s__law_forced, [], []⟩
def d__law_lettered : He.DefD := ⟨("_law_lettered", none), "_law_lettered", "_law_lettered", defArgs s__law_lettered, defBody s__law_lettered, defScope s__law_lettered, [], []⟩
def d__law_several : He.DefD := ⟨("_law_several", none), "_law_several", "_law_several", defArgs s__law_several, defBody s__law_several, defScope s__law_several, [], []⟩
def d__law_right : He.DefD := ⟨("_law_right", none), "_law_right", "_law_right", defArgs s__law_right, defBody s__law_right, defScope s__law_right, [], []⟩
def d_law : He.DefD := ⟨("law", none), "law", "law", defArgs s_law, defBody s_law, defScope s_law, [], []⟩
def fnE : List He.DefD := [d_is_integer, d_are_letters, d_written_letters, d_is_name, d_is_person, d_is_title, d_are_people, d_is_source, d_is_library, d_check_source, d_check_library, d_check_index, d_is_part, d_is_pair, d_is_label, d_check_label, d_part_fits, d_part_within, d_fits_source, d_number_within, d_is_narrower, d_fresh_given, d_source_outside, d_outside, d_are_steps, d_is_style, d_check_style, d_first_state, d_states_behind, d_states_of, d_shown_state, d_part_by, d_label_by, d_seen_states, d_path_of, d_path, d_need_in, d_as_number, d_needs_in, d_place_in, d_plain_label, d_with_letters, d_all_labels, d_label_at, d_check_place, d_need, d_place_of, d_label_of, d_labels, d_reason, d__law_well, d__law_draw, d__law_same, d__law_drawn, d__law_person, d__law_source, d__law_rules, d__law_fits, d__law_forced, d__law_lettered, d__law_several, d__law_right, d_law]
def faE : List He.Fa := [.glo "is_integer", .glo "are_letters", .glo "written_letters", .glo "is_name", .glo "is_person", .glo "is_title", .glo "are_people", .glo "is_source", .glo "is_library", .glo "check_source", .glo "check_library", .glo "check_index", .glo "is_part", .glo "is_pair", .glo "is_label", .glo "check_label", .glo "part_fits", .glo "part_within", .glo "fits_source", .glo "number_within", .glo "is_narrower", .glo "fresh_given", .glo "source_outside", .glo "outside", .glo "are_steps", .glo "is_style", .glo "check_style", .glo "first_state", .glo "states_behind", .glo "states_of", .glo "shown_state", .glo "part_by", .glo "label_by", .glo "seen_states", .glo "path_of", .glo "path", .glo "need_in", .glo "as_number", .glo "needs_in", .glo "place_in", .glo "plain_label", .glo "with_letters", .glo "all_labels", .glo "label_at", .glo "check_place", .glo "need", .glo "place_of", .glo "label_of", .glo "labels", .glo "reason", .glo "_law_well", .glo "_law_draw", .glo "_law_same", .glo "_law_drawn", .glo "_law_person", .glo "_law_source", .glo "_law_rules", .glo "_law_fits", .glo "_law_forced", .glo "_law_lettered", .glo "_law_several", .glo "_law_right", .glo "law", .free "ValueError", .free "abs", .free "all", .free "bool", .free "enumerate", .free "int", .free "isinstance", .free "len", .free "list", .free "max", .free "min", .free "range", .free "set", .free "sorted", .free "str", .free "tuple", .free "zip", .str "LETTERS" "abcdefghijklmnopqrstuvwxyz", .int "LONGEST_NAME" 12, .int "LONGEST_TITLE" 40, .str "POINT" ".", .glo "FRESH", .str "NAMES" "names", .str "ALL" "all", .str "FIRST_INITIAL" "first initial", .str "INITIALS" "initials", .str "FIRST_GIVEN" "first given", .str "GIVEN" "given", .str "TITLE" "title", .glo "STEPS"]
def tpE : List (Str × List He.Dv) := [("FRESH", [.str "a", .str "b"]), ("STEPS", [.str "names", .str "all", .str "first initial", .str "initials", .str "first given", .str "given", .str "title"])]
/-- facts of the top: globals, defs, tuples of constants -/
def obsM (K : PySem.W.Frag) : He.AlD × Bool := (He.obsD faE fnE K, tpE.all fun t => He.tupB K t.1 t.2)
def valM : He.AlD × Bool := (He.valD fnE, true)
def SaysM (K : PySem.W.Frag) : Prop := obsM K = valM
def obsMG (g : Addr → Option Obj) : He.AlD × Bool := obsM (He.frG g (He.asD g 4))
def hkM : PySem.W.Hook where
  α := He.AlD × Bool
  obs := fun s => obsMG s.heap.get?
  val := fun _ => valM
  says := fun _ h => ∃ K : PySem.W.Frag, K.In h ∧ SaysM K
  of := fun _ _ e => ⟨_, He.frG_in, e⟩
  keeps := fun _ _ _ ⟨K, hK, c⟩ k => ⟨K, PySem.W.Frag.In.keeps hK k, c⟩
theorem obsMG_eq {g : Addr → Option Obj} {s : Shared} (h : ∀ a, g a = s.heap.get? a) : obsMG g = hkM.obs s := by
  have e : g = s.heap.get? := funext h
  rw [e]
  rfl
theorem SaysM.d {K : PySem.W.Frag} (c : SaysM K) : He.SaysD faE fnE K := congrArg (fun z : He.AlD × Bool => z.1) c
theorem SaysM.tp {K : PySem.W.Frag} (c : SaysM K) (i : Nat) {t : Str × List He.Dv} (h : tpE[i]? = some t) : He.tupB K t.1 t.2 = true := by
  have e : (tpE.all fun t => He.tupB K t.1 t.2) = true := congrArg (fun z : He.AlD × Bool => z.2) c
  exact List.all_eq_true.mp e t (List.mem_of_getElem? h)
abbrev RE : PySem.W.OpenRow := PySem.W.OpenLaw.row PySem.Challenge.rw_sourcelabels_k66_whole_paths_forced_by_s
def obE (s : PySem.W.SharedT) : He.AlD × Bool := obsMG (HandSHeadRun.getT s)
theorem obE_eq (s : PySem.W.SharedT) : obE s = hkM.obs s.abs := obsMG_eq (HandSHeadRun.getT_eq s)
def looseE : List Str := (["LabelError", "InvalidSource", "InvalidLibrary", "InvalidLabel", "InvalidStyle", "InvalidIndex", "SameSource", "LETTERS", "is_integer", "are_letters", "written_letters", "LONGEST_NAME", "LONGEST_TITLE", "is_name", "is_person", "is_title", "are_people", "is_source", "is_library", "check_source", "check_library", "check_index", "POINT", "FRESH", "is_part", "is_pair", "is_label", "check_label", "part_fits", "part_within"] : List Str) ++ (["fits_source", "number_within", "is_narrower", "fresh_given", "source_outside", "outside", "NAMES", "ALL", "FIRST_INITIAL", "INITIALS", "FIRST_GIVEN", "GIVEN", "TITLE", "STEPS", "are_steps", "is_style", "check_style", "first_state", "states_behind", "states_of", "shown_state", "part_by", "label_by", "seen_states", "path_of", "path", "need_in", "as_number", "needs_in", "place_in"] : List Str) ++ (["plain_label", "with_letters", "all_labels", "label_at", "check_place", "need", "place_of", "label_of", "labels", "reason", "_law_well", "_law_draw", "_law_same", "_law_drawn", "_law_person", "_law_source", "_law_rules", "_law_fits", "_law_forced", "_law_lettered", "_law_several", "_law_right"] : List Str)
set_option maxHeartbeats 0 in
theorem runE (w : World) : HandSHeadRun.RunEq RE (PySem.W.view RE.prog [89]) hkM obE 8000 looseE w := by
  intro os
  kernel_rfl
theorem z_of {K : PySem.W.Frag} {h : Heap} {mg : Str → Option Value} (X : K.In h) (G : h.Ns mainGlobals mg) (c : SaysM K) : Z K mg where
  f_is_integer := by
    obtain ⟨fd, F⟩ := c.d.def_ 0 (d := d_is_integer) rfl
    exact ⟨_, fd, F, He.glo_ok X G (c.d.fact 0 (f := .glo "is_integer") rfl)⟩
  f_are_letters := by
    obtain ⟨fd, F⟩ := c.d.def_ 1 (d := d_are_letters) rfl
    exact ⟨_, fd, F, He.glo_ok X G (c.d.fact 1 (f := .glo "are_letters") rfl)⟩
  f_written_letters := by
    obtain ⟨fd, F⟩ := c.d.def_ 2 (d := d_written_letters) rfl
    exact ⟨_, fd, F, He.glo_ok X G (c.d.fact 2 (f := .glo "written_letters") rfl)⟩
  f_is_name := by
    obtain ⟨fd, F⟩ := c.d.def_ 3 (d := d_is_name) rfl
    exact ⟨_, fd, F, He.glo_ok X G (c.d.fact 3 (f := .glo "is_name") rfl)⟩
  f_is_person := by
    obtain ⟨fd, F⟩ := c.d.def_ 4 (d := d_is_person) rfl
    exact ⟨_, fd, F, He.glo_ok X G (c.d.fact 4 (f := .glo "is_person") rfl)⟩
  f_is_title := by
    obtain ⟨fd, F⟩ := c.d.def_ 5 (d := d_is_title) rfl
    exact ⟨_, fd, F, He.glo_ok X G (c.d.fact 5 (f := .glo "is_title") rfl)⟩
  f_are_people := by
    obtain ⟨fd, F⟩ := c.d.def_ 6 (d := d_are_people) rfl
    exact ⟨_, fd, F, He.glo_ok X G (c.d.fact 6 (f := .glo "are_people") rfl)⟩
  f_is_source := by
    obtain ⟨fd, F⟩ := c.d.def_ 7 (d := d_is_source) rfl
    exact ⟨_, fd, F, He.glo_ok X G (c.d.fact 7 (f := .glo "is_source") rfl)⟩
  f_is_library := by
    obtain ⟨fd, F⟩ := c.d.def_ 8 (d := d_is_library) rfl
    exact ⟨_, fd, F, He.glo_ok X G (c.d.fact 8 (f := .glo "is_library") rfl)⟩
  f_check_source := by
    obtain ⟨fd, F⟩ := c.d.def_ 9 (d := d_check_source) rfl
    exact ⟨_, fd, F, He.glo_ok X G (c.d.fact 9 (f := .glo "check_source") rfl)⟩
  f_check_library := by
    obtain ⟨fd, F⟩ := c.d.def_ 10 (d := d_check_library) rfl
    exact ⟨_, fd, F, He.glo_ok X G (c.d.fact 10 (f := .glo "check_library") rfl)⟩
  f_check_index := by
    obtain ⟨fd, F⟩ := c.d.def_ 11 (d := d_check_index) rfl
    exact ⟨_, fd, F, He.glo_ok X G (c.d.fact 11 (f := .glo "check_index") rfl)⟩
  f_is_part := by
    obtain ⟨fd, F⟩ := c.d.def_ 12 (d := d_is_part) rfl
    exact ⟨_, fd, F, He.glo_ok X G (c.d.fact 12 (f := .glo "is_part") rfl)⟩
  f_is_pair := by
    obtain ⟨fd, F⟩ := c.d.def_ 13 (d := d_is_pair) rfl
    exact ⟨_, fd, F, He.glo_ok X G (c.d.fact 13 (f := .glo "is_pair") rfl)⟩
  f_is_label := by
    obtain ⟨fd, F⟩ := c.d.def_ 14 (d := d_is_label) rfl
    exact ⟨_, fd, F, He.glo_ok X G (c.d.fact 14 (f := .glo "is_label") rfl)⟩
  f_check_label := by
    obtain ⟨fd, F⟩ := c.d.def_ 15 (d := d_check_label) rfl
    exact ⟨_, fd, F, He.glo_ok X G (c.d.fact 15 (f := .glo "check_label") rfl)⟩
  f_part_fits := by
    obtain ⟨fd, F⟩ := c.d.def_ 16 (d := d_part_fits) rfl
    exact ⟨_, fd, F, He.glo_ok X G (c.d.fact 16 (f := .glo "part_fits") rfl)⟩
  f_part_within := by
    obtain ⟨fd, F⟩ := c.d.def_ 17 (d := d_part_within) rfl
    exact ⟨_, fd, F, He.glo_ok X G (c.d.fact 17 (f := .glo "part_within") rfl)⟩
  f_fits_source := by
    obtain ⟨fd, F⟩ := c.d.def_ 18 (d := d_fits_source) rfl
    exact ⟨_, fd, F, He.glo_ok X G (c.d.fact 18 (f := .glo "fits_source") rfl)⟩
  f_number_within := by
    obtain ⟨fd, F⟩ := c.d.def_ 19 (d := d_number_within) rfl
    exact ⟨_, fd, F, He.glo_ok X G (c.d.fact 19 (f := .glo "number_within") rfl)⟩
  f_is_narrower := by
    obtain ⟨fd, F⟩ := c.d.def_ 20 (d := d_is_narrower) rfl
    exact ⟨_, fd, F, He.glo_ok X G (c.d.fact 20 (f := .glo "is_narrower") rfl)⟩
  f_fresh_given := by
    obtain ⟨fd, F⟩ := c.d.def_ 21 (d := d_fresh_given) rfl
    exact ⟨_, fd, F, He.glo_ok X G (c.d.fact 21 (f := .glo "fresh_given") rfl)⟩
  f_source_outside := by
    obtain ⟨fd, F⟩ := c.d.def_ 22 (d := d_source_outside) rfl
    exact ⟨_, fd, F, He.glo_ok X G (c.d.fact 22 (f := .glo "source_outside") rfl)⟩
  f_outside := by
    obtain ⟨fd, F⟩ := c.d.def_ 23 (d := d_outside) rfl
    exact ⟨_, fd, F, He.glo_ok X G (c.d.fact 23 (f := .glo "outside") rfl)⟩
  f_are_steps := by
    obtain ⟨fd, F⟩ := c.d.def_ 24 (d := d_are_steps) rfl
    exact ⟨_, fd, F, He.glo_ok X G (c.d.fact 24 (f := .glo "are_steps") rfl)⟩
  f_is_style := by
    obtain ⟨fd, F⟩ := c.d.def_ 25 (d := d_is_style) rfl
    exact ⟨_, fd, F, He.glo_ok X G (c.d.fact 25 (f := .glo "is_style") rfl)⟩
  f_check_style := by
    obtain ⟨fd, F⟩ := c.d.def_ 26 (d := d_check_style) rfl
    exact ⟨_, fd, F, He.glo_ok X G (c.d.fact 26 (f := .glo "check_style") rfl)⟩
  f_first_state := by
    obtain ⟨fd, F⟩ := c.d.def_ 27 (d := d_first_state) rfl
    exact ⟨_, fd, F, He.glo_ok X G (c.d.fact 27 (f := .glo "first_state") rfl)⟩
  f_states_behind := by
    obtain ⟨fd, F⟩ := c.d.def_ 28 (d := d_states_behind) rfl
    exact ⟨_, fd, F, He.glo_ok X G (c.d.fact 28 (f := .glo "states_behind") rfl)⟩
  f_states_of := by
    obtain ⟨fd, F⟩ := c.d.def_ 29 (d := d_states_of) rfl
    exact ⟨_, fd, F, He.glo_ok X G (c.d.fact 29 (f := .glo "states_of") rfl)⟩
  f_shown_state := by
    obtain ⟨fd, F⟩ := c.d.def_ 30 (d := d_shown_state) rfl
    exact ⟨_, fd, F, He.glo_ok X G (c.d.fact 30 (f := .glo "shown_state") rfl)⟩
  f_part_by := by
    obtain ⟨fd, F⟩ := c.d.def_ 31 (d := d_part_by) rfl
    exact ⟨_, fd, F, He.glo_ok X G (c.d.fact 31 (f := .glo "part_by") rfl)⟩
  f_label_by := by
    obtain ⟨fd, F⟩ := c.d.def_ 32 (d := d_label_by) rfl
    exact ⟨_, fd, F, He.glo_ok X G (c.d.fact 32 (f := .glo "label_by") rfl)⟩
  f_seen_states := by
    obtain ⟨fd, F⟩ := c.d.def_ 33 (d := d_seen_states) rfl
    exact ⟨_, fd, F, He.glo_ok X G (c.d.fact 33 (f := .glo "seen_states") rfl)⟩
  f_path_of := by
    obtain ⟨fd, F⟩ := c.d.def_ 34 (d := d_path_of) rfl
    exact ⟨_, fd, F, He.glo_ok X G (c.d.fact 34 (f := .glo "path_of") rfl)⟩
  f_path := by
    obtain ⟨fd, F⟩ := c.d.def_ 35 (d := d_path) rfl
    exact ⟨_, fd, F, He.glo_ok X G (c.d.fact 35 (f := .glo "path") rfl)⟩
  f_need_in := by
    obtain ⟨fd, F⟩ := c.d.def_ 36 (d := d_need_in) rfl
    exact ⟨_, fd, F, He.glo_ok X G (c.d.fact 36 (f := .glo "need_in") rfl)⟩
  f_as_number := by
    obtain ⟨fd, F⟩ := c.d.def_ 37 (d := d_as_number) rfl
    exact ⟨_, fd, F, He.glo_ok X G (c.d.fact 37 (f := .glo "as_number") rfl)⟩
  f_needs_in := by
    obtain ⟨fd, F⟩ := c.d.def_ 38 (d := d_needs_in) rfl
    exact ⟨_, fd, F, He.glo_ok X G (c.d.fact 38 (f := .glo "needs_in") rfl)⟩
  f_place_in := by
    obtain ⟨fd, F⟩ := c.d.def_ 39 (d := d_place_in) rfl
    exact ⟨_, fd, F, He.glo_ok X G (c.d.fact 39 (f := .glo "place_in") rfl)⟩
  f_plain_label := by
    obtain ⟨fd, F⟩ := c.d.def_ 40 (d := d_plain_label) rfl
    exact ⟨_, fd, F, He.glo_ok X G (c.d.fact 40 (f := .glo "plain_label") rfl)⟩
  f_with_letters := by
    obtain ⟨fd, F⟩ := c.d.def_ 41 (d := d_with_letters) rfl
    exact ⟨_, fd, F, He.glo_ok X G (c.d.fact 41 (f := .glo "with_letters") rfl)⟩
  f_all_labels := by
    obtain ⟨fd, F⟩ := c.d.def_ 42 (d := d_all_labels) rfl
    exact ⟨_, fd, F, He.glo_ok X G (c.d.fact 42 (f := .glo "all_labels") rfl)⟩
  f_label_at := by
    obtain ⟨fd, F⟩ := c.d.def_ 43 (d := d_label_at) rfl
    exact ⟨_, fd, F, He.glo_ok X G (c.d.fact 43 (f := .glo "label_at") rfl)⟩
  f_check_place := by
    obtain ⟨fd, F⟩ := c.d.def_ 44 (d := d_check_place) rfl
    exact ⟨_, fd, F, He.glo_ok X G (c.d.fact 44 (f := .glo "check_place") rfl)⟩
  f_need := by
    obtain ⟨fd, F⟩ := c.d.def_ 45 (d := d_need) rfl
    exact ⟨_, fd, F, He.glo_ok X G (c.d.fact 45 (f := .glo "need") rfl)⟩
  f_place_of := by
    obtain ⟨fd, F⟩ := c.d.def_ 46 (d := d_place_of) rfl
    exact ⟨_, fd, F, He.glo_ok X G (c.d.fact 46 (f := .glo "place_of") rfl)⟩
  f_label_of := by
    obtain ⟨fd, F⟩ := c.d.def_ 47 (d := d_label_of) rfl
    exact ⟨_, fd, F, He.glo_ok X G (c.d.fact 47 (f := .glo "label_of") rfl)⟩
  f_labels := by
    obtain ⟨fd, F⟩ := c.d.def_ 48 (d := d_labels) rfl
    exact ⟨_, fd, F, He.glo_ok X G (c.d.fact 48 (f := .glo "labels") rfl)⟩
  f_reason := by
    obtain ⟨fd, F⟩ := c.d.def_ 49 (d := d_reason) rfl
    exact ⟨_, fd, F, He.glo_ok X G (c.d.fact 49 (f := .glo "reason") rfl)⟩
  f__law_well := by
    obtain ⟨fd, F⟩ := c.d.def_ 50 (d := d__law_well) rfl
    exact ⟨_, fd, F, He.glo_ok X G (c.d.fact 50 (f := .glo "_law_well") rfl)⟩
  f__law_draw := by
    obtain ⟨fd, F⟩ := c.d.def_ 51 (d := d__law_draw) rfl
    exact ⟨_, fd, F, He.glo_ok X G (c.d.fact 51 (f := .glo "_law_draw") rfl)⟩
  f__law_same := by
    obtain ⟨fd, F⟩ := c.d.def_ 52 (d := d__law_same) rfl
    exact ⟨_, fd, F, He.glo_ok X G (c.d.fact 52 (f := .glo "_law_same") rfl)⟩
  f__law_drawn := by
    obtain ⟨fd, F⟩ := c.d.def_ 53 (d := d__law_drawn) rfl
    exact ⟨_, fd, F, He.glo_ok X G (c.d.fact 53 (f := .glo "_law_drawn") rfl)⟩
  f__law_person := by
    obtain ⟨fd, F⟩ := c.d.def_ 54 (d := d__law_person) rfl
    exact ⟨_, fd, F, He.glo_ok X G (c.d.fact 54 (f := .glo "_law_person") rfl)⟩
  f__law_source := by
    obtain ⟨fd, F⟩ := c.d.def_ 55 (d := d__law_source) rfl
    exact ⟨_, fd, F, He.glo_ok X G (c.d.fact 55 (f := .glo "_law_source") rfl)⟩
  f__law_rules := by
    obtain ⟨fd, F⟩ := c.d.def_ 56 (d := d__law_rules) rfl
    exact ⟨_, fd, F, He.glo_ok X G (c.d.fact 56 (f := .glo "_law_rules") rfl)⟩
  f__law_fits := by
    obtain ⟨fd, F⟩ := c.d.def_ 57 (d := d__law_fits) rfl
    exact ⟨_, fd, F, He.glo_ok X G (c.d.fact 57 (f := .glo "_law_fits") rfl)⟩
  f__law_forced := by
    obtain ⟨fd, F⟩ := c.d.def_ 58 (d := d__law_forced) rfl
    exact ⟨_, fd, F, He.glo_ok X G (c.d.fact 58 (f := .glo "_law_forced") rfl)⟩
  f__law_lettered := by
    obtain ⟨fd, F⟩ := c.d.def_ 59 (d := d__law_lettered) rfl
    exact ⟨_, fd, F, He.glo_ok X G (c.d.fact 59 (f := .glo "_law_lettered") rfl)⟩
  f__law_several := by
    obtain ⟨fd, F⟩ := c.d.def_ 60 (d := d__law_several) rfl
    exact ⟨_, fd, F, He.glo_ok X G (c.d.fact 60 (f := .glo "_law_several") rfl)⟩
  f__law_right := by
    obtain ⟨fd, F⟩ := c.d.def_ 61 (d := d__law_right) rfl
    exact ⟨_, fd, F, He.glo_ok X G (c.d.fact 61 (f := .glo "_law_right") rfl)⟩
  f_law := by
    obtain ⟨fd, F⟩ := c.d.def_ 62 (d := d_law) rfl
    exact ⟨_, fd, F, He.glo_ok X G (c.d.fact 62 (f := .glo "law") rfl)⟩
  b_ValueError := He.free_ok X G (c.d.fact 63 (f := .free "ValueError") rfl)
  b_abs := He.free_ok X G (c.d.fact 64 (f := .free "abs") rfl)
  b_all := He.free_ok X G (c.d.fact 65 (f := .free "all") rfl)
  b_bool := He.free_ok X G (c.d.fact 66 (f := .free "bool") rfl)
  b_enumerate := He.free_ok X G (c.d.fact 67 (f := .free "enumerate") rfl)
  b_int := He.free_ok X G (c.d.fact 68 (f := .free "int") rfl)
  b_isinstance := He.free_ok X G (c.d.fact 69 (f := .free "isinstance") rfl)
  b_len := He.free_ok X G (c.d.fact 70 (f := .free "len") rfl)
  b_list := He.free_ok X G (c.d.fact 71 (f := .free "list") rfl)
  b_max := He.free_ok X G (c.d.fact 72 (f := .free "max") rfl)
  b_min := He.free_ok X G (c.d.fact 73 (f := .free "min") rfl)
  b_range := He.free_ok X G (c.d.fact 74 (f := .free "range") rfl)
  b_set := He.free_ok X G (c.d.fact 75 (f := .free "set") rfl)
  b_sorted := He.free_ok X G (c.d.fact 76 (f := .free "sorted") rfl)
  b_str := He.free_ok X G (c.d.fact 77 (f := .free "str") rfl)
  b_tuple := He.free_ok X G (c.d.fact 78 (f := .free "tuple") rfl)
  b_zip := He.free_ok X G (c.d.fact 79 (f := .free "zip") rfl)
  c_LETTERS := He.str_ok X G (c.d.fact 80 (f := .str "LETTERS" "abcdefghijklmnopqrstuvwxyz") rfl)
  c_LONGEST_NAME := He.int_ok X G (c.d.fact 81 (f := .int "LONGEST_NAME" 12) rfl)
  c_LONGEST_TITLE := He.int_ok X G (c.d.fact 82 (f := .int "LONGEST_TITLE" 40) rfl)
  c_POINT := He.str_ok X G (c.d.fact 83 (f := .str "POINT" ".") rfl)
  c_FRESH := ⟨_, He.glo_ok X G (c.d.fact 84 (f := .glo "FRESH") rfl), fun H => He.tupB_ok (c.tp 0 (t := ("FRESH", [.str "a", .str "b"])) rfl) H⟩
  c_NAMES := He.str_ok X G (c.d.fact 85 (f := .str "NAMES" "names") rfl)
  c_ALL := He.str_ok X G (c.d.fact 86 (f := .str "ALL" "all") rfl)
  c_FIRST_INITIAL := He.str_ok X G (c.d.fact 87 (f := .str "FIRST_INITIAL" "first initial") rfl)
  c_INITIALS := He.str_ok X G (c.d.fact 88 (f := .str "INITIALS" "initials") rfl)
  c_FIRST_GIVEN := He.str_ok X G (c.d.fact 89 (f := .str "FIRST_GIVEN" "first given") rfl)
  c_GIVEN := He.str_ok X G (c.d.fact 90 (f := .str "GIVEN" "given") rfl)
  c_TITLE := He.str_ok X G (c.d.fact 91 (f := .str "TITLE" "title") rfl)
  c_STEPS := ⟨_, He.glo_ok X G (c.d.fact 92 (f := .glo "STEPS") rfl), fun H => He.tupB_ok (c.tp 1 (t := ("STEPS", [.str "names", .str "all", .str "first initial", .str "initials", .str "first given", .str "given", .str "title"])) rfl) H⟩
theorem sp_law {K : PySem.W.Frag} {w : World} {H : Hp} {a : Addr} {ns : List Int} (hl : ns.length ≤ 63) (hS : SqL K H a (ns.map V.int)) : spF K w 1 4 m_law [.ref a] H (fun v _ => v = .bl true) fun _ _ _ => False := by
  have e := ev_law ns hl
  have R : Rep K w [.ref a] H H (startN 4 [.ref a]) (pad 4 [.val (.dict (scrK ns))]) := by
    refine ⟨rfl, fun i => ?_, fun i j b t o t' o' h1 => ?_, Same.refl _⟩
    · cases i with
      | zero => exact ⟨.ref a, rfl, .scr hS⟩
      | succ i =>
        have es : slot (pad 4 [.val (.dict (scrK ns))]) (i + 1) = .un := by
          show ((List.replicate (4 - 1) SV.un).getD i .un) = .un
          rw [List.getD_eq_getElem?_getD, List.getElem?_replicate]
          split <;> rfl
        rw [es]
        trivial
    · have es : ∀ i, slot (pad 4 [.val (.dict (scrK ns))]) i = .val (.dict (scrK ns)) ∨ slot (pad 4 [.val (.dict (scrK ns))]) i = .un := fun i => by
        cases i with
        | zero => exact .inl rfl
        | succ i =>
          refine .inr ?_
          show ((List.replicate (4 - 1) SV.un).getD i .un) = .un
          rw [List.getD_eq_getElem?_getD, List.getElem?_replicate]
          split <;> rfl
      rcases es i with q | q <;> rw [q] at h1 <;> cases h1
  unfold callV at e
  refine ⟨rfl, ?_⟩
  cases q : m_law (pad 4 ([.dict (scrK ns)].map .val)) with
  | none => rw [q] at e; cases e
  | some f =>
    rw [q] at e
    refine ⟨_, H, _, f, R, q, ?_⟩
    cases f with
    | nx ρf => cases e
    | bk ρf => cases e
    | ct ρf => cases e
    | rt r ρf =>
      have er : ret ρf r = some (.val (.bool true)) := e
      intro v σ' F' H' S1 R1 y
      cases r with
      | val d => cases er; cases y; rfl
      | tmp o => cases er
      | sl i =>
        unfold ret at er
        dsimp only at er
        split at er
        · rename_i d hd
          cases er
          obtain ⟨v2, p1, p2⟩ := R1.val_at hd
          have y' : place σ' i = some v := y
          rw [y'] at p1
          cases p1
          cases p2
          rfl
        · cases er
        · cases er
theorem facts_law {P : Program} {w : World} {K : PySem.W.Frag} {h : Heap} {mg : Str → Option Value} {f : Addr} (X : K.In h) (G : h.Ns mainGlobals mg) (hfa : mg ("law" : Str) = some (.ref f)) (c : SaysM K) :
    ∃ fd : FuncData, (∀ (s : Shared) (v : Value), BindsTo s fd ⟨[v], []⟩ [("script", v)]) ∧ ∀ base : Heap, K.In base → base.Ns mainGlobals mg → FnOk P w K mg base CX0 14 f fd ["script"] (spF K w 1 4 m_law) := by
  have z := z_of X G c
  obtain ⟨f', fd, F, g⟩ := z.f_law
  have e := hfa.symm.trans g
  cases e
  have b := FunD.bindsA (ps := ["script"]) F fun _ _ _ _ _ _ us hl => match us, hl with | [_], _ => rfl
  exact ⟨fd, fun s v => b s [v] rfl, fun base _ _ => Wk.fn_ok F sc_law (b_law z _)⟩
end Wk
open PySem PySem.W PySem.Calls PyProof.Rows
set_option maxRecDepth 100000 in
set_option maxHeartbeats 0 in
theorem PySem.Challenge.cw_sourcelabels_k66_whole_paths_forced_by_s_holds : PySem.Challenge.rw_sourcelabels_k66_whole_paths_forced_by_s.Holds := by
  w_on; o_law
  refine HandSHeadRun.head_any (r := Wk.RE) (q := view Wk.RE.prog [89]) (H := Wk.hkM) (ob := Wk.obE) (M := 8000) (loose := Wk.looseE) (d := HandSHeadRun.topDef Wk.RE.prog 89) (kwd := []) Wk.obE_eq
    (by kernel_rfl) (fun s => by kernel_rfl) Wk.runE (by kernel_rfl) (by kernel_rfl) (by kernel_rfl) (by rfl) (by first | assumption | decide +kernel) (by decide +kernel) ⟨rfl, rfl, rfl, rfl, rfl, by decide +kernel⟩ ?hw ?hc
  case hw => w_witness2
  case hc =>
    refine L2.walk_ofE (l := PySem.Challenge.rw_sourcelabels_k66_whole_paths_forced_by_s) (n := 63) (k := 14) (x := "script") (CX := L2.CX0) rfl (by decide) (by kernel_rfl) ⟨rfl, by decide, by decide⟩ ?F (fun _ _ _ _ z => z)
    intro w mg fa h Y G hmg0
    obtain ⟨K, KX, c⟩ := Y
    have hmg : mg ("law" : PySem.Str) = some (.ref fa) := by
      have e : (HandSHeadRun.topDef Wk.RE.prog 89).name = ("law" : PySem.Str) := by kernel_rfl
      rw [← e]
      exact hmg0
    obtain ⟨fd, hb, hF⟩ := Wk.facts_law (P := (PySem.Challenge.rw_sourcelabels_k66_whole_paths_forced_by_s).prog) (w := w) KX G hmg c
    exact ⟨K, fd, Wk.spF K w 1 4 Wk.m_law, KX, hb, fun H a ns hl _ hS => Wk.sp_law hl hS, hF⟩
