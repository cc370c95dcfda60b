import PyProof.Rows.All
import Wide.All
import OpenK.AllK
import Wide.FinOn
import HandS.ForExc
import HandS.Comp
import HandS.Iter
import HandS.Deep
import HandS.Zip
import HandS.Style
import HandS.ExcInit
import HandS.ExcField
import HandS.ExcIs
import HandS.SortInts
import HandS.IsInst
import HandS.Conv
import HandS.ExcSuper
import KE.KExcSuper
import KE.KExcIs
import HandS.Ends
import PyProof.ReprLen
import HandS.Defaults
import HandS.Flt
import HandS.TupAny
import KE.GoesNew
import HandS.Flow
import HandS.TupLe
import HandS.Lambda
import PySem.Challenge.RW_kerbcall_k27_checked_numbers
set_option Elab.async false
set_option linter.all false
set_option maxRecDepth 100000
set_option maxHeartbeats 4000000
namespace VL
open PySem PySem.Spec PyProof.Rows L2

/-! results of an evaluation -/
abbrev Da := PyData
inductive R (α : Type) where
  | ok (a : α) | err (c : Str) (i : Int) | bad
def R.bind {α β : Type} (r : R α) (f : α → R β) : R β := match r with
  | .ok a => f a
  | .err c i => .err c i
  | .bad => .bad

/-! heaps with some addresses put out of sight -/
open Classical in
noncomputable def hide (N : Addr → Prop) (H : Hp) : Hp := fun a => if N a then none else H a
theorem hide_eq {N : Addr → Prop} {H : Hp} {a : Addr} {o : HO} : hide N H a = some o ↔ ¬ N a ∧ H a = some o := by
  unfold hide
  by_cases h : N a
  · rw [if_pos h]
    exact Iff.intro (fun z => by cases z) (fun z => absurd h z.1)
  · rw [if_neg h]
    exact Iff.intro (fun z => And.intro h z) (fun z => z.2)
theorem hide_to {N N' : Addr → Prop} {H H' : Hp} (h : ∀ a o, H a = some o → ¬ N a → ¬ N' a ∧ H' a = some o) : Same (hide N H) (hide N' H') := fun a o e => by
  obtain ⟨h1, h2⟩ := hide_eq.mp e
  exact hide_eq.mpr (h a o h2 h1)
theorem hide_sub {N : Addr → Prop} {H : Hp} : Same (hide N H) H := fun a o e => (hide_eq.mp e).2
theorem hide_grow {N : Addr → Prop} {H H' : Hp} (e : Same H H') : Same (hide N H) (hide N H') := hide_to fun a o h n => ⟨n, e a o h⟩
theorem same_upd {H : Hp} {p : Addr} {o : HO} (h : H p = none) : Same H (upd H p o) := fun b x e => by
  rw [upd_ne (ne_of_none e h)]; exact e
theorem sqt_same {K : PySem.W.Frag} {H H' : Hp} {a : Addr} {xs : List V} (e : Same H H') (h : SqT K H a xs) : SqT K H' a xs := by
  rcases h with (h | ⟨o, h⟩) | h
  · exact .inl (.inl (e _ _ h))
  · exact .inl (.inr ⟨o, e _ _ h⟩)
  · exact .inr h
/-! a list that is read: tracked, locked, or one of the module's own of the plainest kind -/
def Ls (K : PySem.W.Frag) (H : Hp) (a : Addr) (xs : List V) : Prop := Rd H a (.lst xs) ∨
  ∃ (its : Array Value) (n : Nat), K.lookup a = some { cls := .type "list", data := .seq its n } ∧ its.size ≤ sizeLine ∧ Vals xs its.toList
theorem Ls.of {K : PySem.W.Frag} {H : Hp} {a : Addr} {xs : List V} (h : H a = some (.lst xs)) : Ls K H a xs := .inl (.inl h)
theorem Ls.sq {K : PySem.W.Frag} {H : Hp} {a : Addr} {xs : List V} (h : Ls K H a xs) : SqL K H a xs := by
  rcases h with h | ⟨its, n, h1, h2, h3⟩
  · exact .inl h
  · exact .inr ⟨_, its, n, h1, rfl, rfl, rfl, h2, h3⟩
theorem ls_same {K : PySem.W.Frag} {H H' : Hp} {a : Addr} {xs : List V} (e : Same H H') (h : Ls K H a xs) : Ls K H' a xs := by
  rcases h with (h | ⟨o, h⟩) | h
  · exact .inl (.inl (e _ _ h))
  · exact .inl (.inr ⟨o, e _ _ h⟩)
  · exact .inr h
/-! a value that stands for a datum -/
mutual
inductive Vr (K : PySem.W.Frag) (H : Hp) : V → Da → Prop
  | non : Vr K H .non .none
  | bl (b : Bool) : Vr K H (.bl b) (.bool b)
  | int (i : Int) : Vr K H (.int i) (.int i)
  | str (x : Str) : Vr K H (.str x) (.str x)
  | lst {a : Addr} {xs : List V} {ds : List Da} : Ls K H a xs → Vrs K H xs ds → Vr K H (.ref a) (.list ds)
  | tup {a : Addr} {xs : List V} {ds : List Da} : SqT K H a xs → Vrs K H xs ds → Vr K H (.ref a) (.tuple ds)
inductive Vrs (K : PySem.W.Frag) (H : Hp) : List V → List Da → Prop
  | nil : Vrs K H [] []
  | cons {v : V} {vs : List V} {d : Da} {ds : List Da} : Vr K H v d → Vrs K H vs ds → Vrs K H (v :: vs) (d :: ds)
end
mutual
theorem vr_dp {K : PySem.W.Frag} {H : Hp} : ∀ {v : V} {d : Da}, Vr K H v d → Dp K H v d
  | _, _, .non => .non
  | _, _, .bl b => .bl b
  | _, _, .int i => .int i
  | _, _, .str x => .str x
  | _, _, .lst h a => .lst h.sq (vrs_dp a)
  | _, _, .tup h a => .tup h (vrs_dp a)
theorem vrs_dp {K : PySem.W.Frag} {H : Hp} : ∀ {vs : List V} {ds : List Da}, Vrs K H vs ds → DpAll K H vs ds
  | _, _, .nil => .nil
  | _, _, .cons h t => .cons (vr_dp h) (vrs_dp t)
end
mutual
theorem vr_same {K : PySem.W.Frag} {H H' : Hp} (e : Same H H') : ∀ {v : V} {d : Da}, Vr K H v d → Vr K H' v d
  | _, _, .non => .non
  | _, _, .bl b => .bl b
  | _, _, .int i => .int i
  | _, _, .str x => .str x
  | _, _, .lst h a => .lst (ls_same e h) (vrs_same e a)
  | _, _, .tup h a => .tup (sqt_same e h) (vrs_same e a)
theorem vrs_same {K : PySem.W.Frag} {H H' : Hp} (e : Same H H') : ∀ {vs : List V} {ds : List Da}, Vrs K H vs ds → Vrs K H' vs ds
  | _, _, .nil => .nil
  | _, _, .cons h t => .cons (vr_same e h) (vrs_same e t)
end
theorem vrs_len {K : PySem.W.Frag} {H : Hp} : ∀ {vs : List V} {ds : List Da}, Vrs K H vs ds → vs.length = ds.length
  | _, _, .nil => rfl
  | _, _, .cons _ t => congrArg (· + 1) (vrs_len t)
theorem vrs_get {K : PySem.W.Frag} {H : Hp} : ∀ {vs : List V} {ds : List Da} {i : Nat} {d : Da}, Vrs K H vs ds → ds[i]? = some d → ∃ v, vs[i]? = some v ∧ Vr K H v d
  | _, _, _, _, .nil, e => by simp at e
  | _, _, 0, _, .cons h t, e => by simp at e; subst e; exact ⟨_, rfl, h⟩
  | _, _, i + 1, _, .cons h t, e => by
    obtain ⟨v, h1, h2⟩ := vrs_get (i := i) t (by simpa using e)
    exact ⟨v, by simpa using h1, h2⟩
theorem vrs_at {K : PySem.W.Frag} {H : Hp} : ∀ {vs : List V} {ds : List Da} {i : Nat} {v : V}, Vrs K H vs ds → vs[i]? = some v → ∃ d, ds[i]? = some d ∧ Vr K H v d
  | _, _, _, _, .nil, e => by simp at e
  | _, _, 0, _, .cons h t, e => by simp at e; subst e; exact ⟨_, rfl, h⟩
  | _, _, i + 1, _, .cons h t, e => by
    obtain ⟨v, h1, h2⟩ := vrs_at (i := i) t (by simpa using e)
    exact ⟨v, by simpa using h1, h2⟩
theorem vrs_app {K : PySem.W.Frag} {H : Hp} : ∀ {vs ws : List V} {ds es : List Da}, Vrs K H vs ds → Vrs K H ws es → Vrs K H (vs ++ ws) (ds ++ es)
  | _, _, _, _, .nil, t => t
  | _, _, _, _, .cons h t, u => .cons h (vrs_app t u)
theorem vrs_take {K : PySem.W.Frag} {H : Hp} : ∀ {vs : List V} {ds : List Da} (n : Nat), Vrs K H vs ds → Vrs K H (vs.take n) (ds.take n)
  | _, _, 0, _ => .nil
  | _, _, _ + 1, .nil => .nil
  | _, _, n + 1, .cons h t => .cons h (vrs_take n t)
theorem vrs_drop {K : PySem.W.Frag} {H : Hp} : ∀ {vs : List V} {ds : List Da} (n : Nat), Vrs K H vs ds → Vrs K H (vs.drop n) (ds.drop n)
  | _, _, 0, h => h
  | _, _, _ + 1, .nil => .nil
  | _, _, n + 1, .cons _ t => vrs_drop n t
theorem vrs_set {K : PySem.W.Frag} {H : Hp} {v : V} {d : Da} (hv : Vr K H v d) : ∀ {vs : List V} {ds : List Da} (n : Nat), Vrs K H vs ds → Vrs K H (vs.set n v) (ds.set n d)
  | _, _, _, .nil => .nil
  | _, _, 0, .cons _ t => .cons hv t
  | _, _, n + 1, .cons h t => .cons h (vrs_set hv n t)
theorem vrs_rev {K : PySem.W.Frag} {H : Hp} : ∀ {vs : List V} {ds : List Da}, Vrs K H vs ds → Vrs K H vs.reverse ds.reverse
  | _, _, .nil => .nil
  | _, _, .cons h t => by
    rw [List.reverse_cons, List.reverse_cons]
    exact vrs_app (vrs_rev t) (.cons h .nil)
/-! no list within: such data hang on nothing that is ever changed -/
mutual
def flat : Da → Bool
  | .none => true
  | .bool _ => true
  | .int _ => true
  | .str _ => true
  | .tuple ds => flats ds
  | _ => false
def flats : List Da → Bool
  | [] => true
  | d :: ds => flat d && flats ds
end
mutual
theorem flat_vr {K : PySem.W.Frag} {H H' : Hp} (e : ∀ a o, H a = some o → (∀ xs, o ≠ .lst xs) → H' a = some o) : ∀ {v : V} {d : Da}, Vr K H v d → flat d = true → Vr K H' v d
  | _, _, .non, _ => .non
  | _, _, .bl b, _ => .bl b
  | _, _, .int i, _ => .int i
  | _, _, .str x, _ => .str x
  | _, _, .lst h a, z => by simp [flat] at z
  | _, _, .tup h a, z => by
    refine .tup ?_ (flats_vr e a (by simpa [flat] using z))
    rcases h with (h | ⟨o, h⟩) | h
    · exact .inl (.inl (e _ _ h fun _ z => nomatch z))
    · exact .inl (.inr ⟨o, e _ _ h fun _ z => nomatch z⟩)
    · exact .inr h
theorem flats_vr {K : PySem.W.Frag} {H H' : Hp} (e : ∀ a o, H a = some o → (∀ xs, o ≠ .lst xs) → H' a = some o) : ∀ {vs : List V} {ds : List Da}, Vrs K H vs ds → flats ds = true → Vrs K H' vs ds
  | _, _, .nil, _ => .nil
  | _, _, .cons h t, z => by
    have z' := Bool.and_eq_true_iff.mp (show (flat _ && flats _) = true from z)
    exact .cons (flat_vr e h z'.1) (flats_vr e t z'.2)
end
end VL
namespace VL
open PySem PySem.Spec PyProof.Rows L2

/-! ### the slots of a frame, as data: not set | a datum | a list of the frame's own, that may be changed -/
inductive Slot where
  | no | val (d : Da) | own (ds : List Da) | exc (c : Str) (n : Int)
abbrev En := List Slot
abbrev Sg := L2.St
def LenOk (K : PySem.W.Frag) (H : Hp) : Prop := (∀ a xs, SqL K H a xs → xs.length ≤ sizeLine) ∧ ∀ a xs, SqT K H a xs → xs.length ≤ sizeLine
/-- what is watched: it stays so while the heap grows; the first heap is for the thing itself, the second one for its items -/
structure GhP where
  p : PySem.W.Frag → Hp → Hp → Prop
  len : Nat
  mono : ∀ {K : PySem.W.Frag} {H1 H1' H2 H2' : Hp}, Same H1 H1' → Same H2 H2' → p K H1 H2 → p K H1' H2'
  fit : ∀ {K : PySem.W.Frag} {H1 H2 : Hp}, p K H1 H2 → LenOk K H1 → len ≤ sizeLine
abbrev Gh := List GhP
def ghL (a : Addr) (vs : List V) (ds : List Da) : GhP := ⟨fun K H1 H2 => Ls K H1 a vs ∧ Vrs K H2 vs ds, vs.length, fun e1 e2 h => ⟨ls_same e1 h.1, vrs_same e2 h.2⟩, fun h lo => lo.1 _ _ h.1.sq⟩
def ghT (a : Addr) (vs : List V) (ds : List Da) : GhP := ⟨fun K H1 H2 => SqT K H1 a vs ∧ Vrs K H2 vs ds, vs.length, fun e1 e2 h => ⟨sqt_same e1 h.1, vrs_same e2 h.2⟩, fun h lo => lo.2 _ _ h.1⟩
def OwnAt (ρ : En) (σ : Sg) (a : Addr) : Prop := ∃ (i : Nat) (ds : List Da), ρ[i]? = some (Slot.own ds) ∧ σ[i]? = some (some (V.ref a))
abbrev hid (Z : Addr → Prop) (ρ : En) (σ : Sg) : Addr → Prop := fun a => Z a ∨ OwnAt ρ σ a

/-- what the slots hang on: the written part, the module's names, the exception that an except suite holds -/
structure Bx where
  K : PySem.W.Frag
  mg : Str → Option Value
  sx : Option (Addr × Obj)
structure SR (B : Bx) (H0 : Hp) (Z : Addr → Prop) (G : Gh) (ρ : En) (σ : Sg) (H : Hp) : Prop where
  len : ρ.length = σ.length
  inj : ∀ (i j : Nat) (ds es : List Da) (a : Addr), ρ[i]? = some (Slot.own ds) → ρ[j]? = some (Slot.own es) → σ[i]? = some (some (V.ref a)) → σ[j]? = some (some (V.ref a)) → i = j
  val : ∀ (i : Nat) (d : Da), ρ[i]? = some (Slot.val d) → ∃ v, σ[i]? = some (some v) ∧ Vr B.K (hide (hid Z ρ σ) H) v d
  own : ∀ (i : Nat) (ds : List Da), ρ[i]? = some (Slot.own ds) → ∃ (a : Addr) (vs : List V), σ[i]? = some (some (V.ref a)) ∧ H0 a = none ∧ ¬ Z a ∧ H a = some (.lst vs) ∧ Vrs B.K (hide (hid Z ρ σ) H) vs ds
  gh : ∀ g ∈ G, g.p B.K (hide (hid Z ρ σ) H) (hide (hid Z ρ σ) H)
  base : Same H0 H
  zin : ∀ a, Z a → ∃ vs, H a = some (.lst vs)
  exc : ∀ (i : Nat) (c : Str) (n : Int), ρ[i]? = some (Slot.exc c n) → ∃ (a : Addr) (oe : Obj) (C d : Addr), B.sx = some (a, oe) ∧ oe.cls = .ref C ∧ oe.dict = some d ∧ (∃ vs, oe.data = .fields vs) ∧ B.mg c = some (.ref C) ∧ σ[i]? = some (some (V.ref a)) ∧ hide (hid Z ρ σ) H d = some (.xd [(("at" : Str), V.int n)])

section
variable {B : Bx} {H0 H H' : Hp} {Z : Addr → Prop} {G : Gh} {ρ : En} {σ : Sg}
theorem SR.grow (S : SR B H0 Z G ρ σ H) (e : Same H H') : SR B H0 Z G ρ σ H' where
  len := S.len
  inj := S.inj
  val := fun i d h => by
    obtain ⟨v, h1, h2⟩ := S.val i d h
    exact ⟨v, h1, vr_same (hide_grow e) h2⟩
  own := fun i ds h => by
    obtain ⟨a, vs, h1, h2, h3, h4, h5⟩ := S.own i ds h
    exact ⟨a, vs, h1, h2, h3, e _ _ h4, vrs_same (hide_grow e) h5⟩
  gh := fun g hg => g.mono (hide_grow e) (hide_grow e) (S.gh g hg)
  base := S.base.trans e
  zin := fun a z => by
    obtain ⟨vs, h⟩ := S.zin a z
    exact ⟨vs, e _ _ h⟩
  exc := fun i c n h => by
    obtain ⟨a, oe, C, d, h1, h2, h3, h4, h5, h6, h7⟩ := S.exc i c n h
    exact ⟨a, oe, C, d, h1, h2, h3, h4, h5, h6, hide_grow e _ _ h7⟩
theorem SR.hidl (S : SR B H0 Z G ρ σ H) {a : Addr} (h : hid Z ρ σ a) : ∃ vs, H a = some (.lst vs) := by
  rcases h with h | ⟨i, ds, h1, h2⟩
  · exact S.zin a h
  · obtain ⟨b, vs, k1, _, _, k2, _⟩ := S.own i ds h1
    rw [h2] at k1
    cases k1
    exact ⟨vs, k2⟩
theorem SR.hidin (S : SR B H0 Z G ρ σ H) {a : Addr} (h : hid Z ρ σ a) : H a ≠ none := by
  obtain ⟨vs, q⟩ := S.hidl h
  rw [q]
  exact fun z => nomatch z
theorem SR.fresh (S : SR B H0 Z G ρ σ H) {a : Addr} (h : H a = none) : ¬ hid Z ρ σ a := fun z => S.hidin z h
/-- the slots change: what was in sight stays in sight -/
theorem SR.step {ρ' : En} {σ' : Sg} {Z' : Addr → Prop} (S : SR B H0 Z G ρ σ H) (e : Same H H') (hl : ρ'.length = σ'.length)
    (hh : ∀ a, H a ≠ none → hid Z' ρ' σ' a → hid Z ρ σ a) (hz : ∀ a, Z' a → ∃ vs, H' a = some (.lst vs))
    (inj : ∀ (i j : Nat) (ds es : List Da) (a : Addr), ρ'[i]? = some (Slot.own ds) → ρ'[j]? = some (Slot.own es) → σ'[i]? = some (some (V.ref a)) → σ'[j]? = some (some (V.ref a)) → i = j)
    (val : ∀ (i : Nat) (d : Da), ρ'[i]? = some (Slot.val d) → (ρ[i]? = some (Slot.val d) ∧ σ'[i]? = σ[i]?) ∨ ∃ v, σ'[i]? = some (some v) ∧ Vr B.K (hide (hid Z' ρ' σ') H') v d)
    (own : ∀ (i : Nat) (ds : List Da), ρ'[i]? = some (Slot.own ds) → (ρ[i]? = some (Slot.own ds) ∧ σ'[i]? = σ[i]? ∧ ∀ a, Z' a → Z a ∨ H a = none) ∨
      ∃ (a : Addr) (vs : List V), σ'[i]? = some (some (V.ref a)) ∧ H0 a = none ∧ ¬ Z' a ∧ H' a = some (.lst vs) ∧ Vrs B.K (hide (hid Z' ρ' σ') H') vs ds)
    (exc : ∀ (i : Nat) (c : Str) (n : Int), ρ'[i]? = some (Slot.exc c n) → ρ[i]? = some (Slot.exc c n) ∧ σ'[i]? = σ[i]?) : SR B H0 Z' G ρ' σ' H' := by
  have up : Same (hide (hid Z ρ σ) H) (hide (hid Z' ρ' σ') H') := hide_to fun a o h n => ⟨fun z => n (hh a (by rw [h]; exact fun z => nomatch z) z), e a o h⟩
  refine ⟨hl, inj, fun i d h => ?_, fun i ds h => ?_, fun g hg => g.mono up up (S.gh g hg), S.base.trans e, hz, fun i c n h => ?_⟩
  · rcases val i d h with ⟨h1, h2⟩ | h
    · obtain ⟨v, q1, q2⟩ := S.val i d h1
      exact ⟨v, h2.trans q1, vr_same up q2⟩
    · exact h
  · rcases own i ds h with ⟨h1, h2, h3⟩ | h
    · obtain ⟨a, vs, q1, q2, q3, q4, q5⟩ := S.own i ds h1
      refine ⟨a, vs, h2.trans q1, q2, fun z => ?_, e _ _ q4, vrs_same up q5⟩
      rcases h3 a z with y | y
      · exact q3 y
      · rw [y] at q4; cases q4
    · exact h
  · obtain ⟨h1, h2⟩ := exc i c n h
    obtain ⟨a, oe, C, d, k1, k2, k3, k4, k5, k6, k7⟩ := S.exc i c n h1
    exact ⟨a, oe, C, d, k1, k2, k3, k4, k5, h2.trans k6, up _ _ k7⟩
theorem ownAt_set_val {d : Da} {i : Nat} {v : Option V} {a : Addr} (h : OwnAt (ρ.set i (.val d)) (σ.set i v) a) : OwnAt ρ σ a := by
  obtain ⟨j, ds, h1, h2⟩ := h
  by_cases e : i = j
  · subst e
    by_cases hl : i < ρ.length
    · rw [List.getElem?_set_self hl] at h1; cases h1
    · rw [List.getElem?_eq_none (by simpa using hl)] at h1; cases h1
  · rw [List.getElem?_set_ne e] at h1 h2
    exact ⟨j, ds, h1, h2⟩
theorem ownAt_set_no {i : Nat} {v : Option V} {a : Addr} (h : OwnAt (ρ.set i .no) (σ.set i v) a) : OwnAt ρ σ a := by
  obtain ⟨j, ds, h1, h2⟩ := h
  by_cases e : i = j
  · subst e
    by_cases hl : i < ρ.length
    · rw [List.getElem?_set_self hl] at h1; cases h1
    · rw [List.getElem?_eq_none (by simpa using hl)] at h1; cases h1
  · rw [List.getElem?_set_ne e] at h1 h2
    exact ⟨j, ds, h1, h2⟩
theorem set_other {α : Type} {l : List α} {i j : Nat} {x y : α} (h : (l.set i x)[j]? = some y) (hx : x ≠ y) : i ≠ j ∧ l[j]? = some y := by
  by_cases e : i = j
  · subst e
    by_cases hl : i < l.length
    · rw [List.getElem?_set_self hl] at h; exact absurd (Option.some.inj h) hx
    · rw [List.getElem?_eq_none (by simpa using hl)] at h; cases h
  · rw [List.getElem?_set_ne e] at h
    exact ⟨e, h⟩
theorem SR.set_val {i : Nat} {v : V} {d : Da} (S : SR B H0 Z G ρ σ H) (h : Vr B.K (hide (hid Z ρ σ) H) v d) : SR B H0 Z G (ρ.set i (.val d)) (σ.set i (some v)) H := by
  have hh : ∀ a, hid Z (ρ.set i (.val d)) (σ.set i (some v)) a → hid Z ρ σ a := fun a z => z.imp id ownAt_set_val
  refine S.step (Same.refl H) (by simp [S.len]) (fun a _ z => hh a z) S.zin (fun j k ds es a h1 h2 h3 h4 => ?_) (fun j e he => ?_) (fun j ds he => ?_) (fun j c n he => (set_other he (fun z => nomatch z)).elim fun n1 h1 => ⟨h1, List.getElem?_set_ne n1⟩)
  · obtain ⟨n1, h1⟩ := set_other h1 (fun z => nomatch z)
    obtain ⟨n2, h2⟩ := set_other h2 (fun z => nomatch z)
    rw [List.getElem?_set_ne n1] at h3
    rw [List.getElem?_set_ne n2] at h4
    exact S.inj j k ds es a h1 h2 h3 h4
  · by_cases e' : i = j
    · subst e'
      have hl : i < ρ.length := by
        have := (List.getElem?_eq_some_iff.mp he).1
        simpa using this
      rw [List.getElem?_set_self hl] at he
      cases he
      exact .inr ⟨v, List.getElem?_set_self (by rw [← S.len]; exact hl), vr_same (hide_to fun a o h n => ⟨fun z => n (hh a z), h⟩) h⟩
    · rw [List.getElem?_set_ne e'] at he
      exact .inl ⟨he, List.getElem?_set_ne e'⟩
  · obtain ⟨n1, h1⟩ := set_other he (fun z => nomatch z)
    exact .inl ⟨h1, List.getElem?_set_ne n1, fun a z => .inl z⟩
theorem SR.set_no {i : Nat} {v : Option V} (S : SR B H0 Z G ρ σ H) : SR B H0 Z G (ρ.set i .no) (σ.set i v) H := by
  have hh : ∀ a, hid Z (ρ.set i .no) (σ.set i v) a → hid Z ρ σ a := fun a z => z.imp id ownAt_set_no
  refine S.step (Same.refl H) (by simp [S.len]) (fun a _ z => hh a z) S.zin (fun j k ds es a h1 h2 h3 h4 => ?_) (fun j e he => ?_) (fun j ds he => ?_) (fun j c n he => (set_other he (fun z => nomatch z)).elim fun n1 h1 => ⟨h1, List.getElem?_set_ne n1⟩)
  · obtain ⟨n1, h1⟩ := set_other h1 (fun z => nomatch z)
    obtain ⟨n2, h2⟩ := set_other h2 (fun z => nomatch z)
    rw [List.getElem?_set_ne n1] at h3
    rw [List.getElem?_set_ne n2] at h4
    exact S.inj j k ds es a h1 h2 h3 h4
  · obtain ⟨n1, h1⟩ := set_other he (fun z => nomatch z)
    exact .inl ⟨h1, List.getElem?_set_ne n1⟩
  · obtain ⟨n1, h1⟩ := set_other he (fun z => nomatch z)
    exact .inl ⟨h1, List.getElem?_set_ne n1, fun a z => .inl z⟩
/-- a new list becomes the frame's own -/
theorem SR.set_own {i : Nat} {p : Addr} {vs : List V} {ds : List Da} (S : SR B H0 Z G ρ σ H) (e : Same H H') (hp : H p = none) (hp' : H' p = some (.lst vs))
    (h : Vrs B.K (hide (fun a => hid Z ρ σ a ∨ a = p) H') vs ds) : SR B H0 Z G (ρ.set i (.own ds)) (σ.set i (some (.ref p))) H' := by
  have hh : ∀ a, hid Z (ρ.set i (.own ds)) (σ.set i (some (.ref p))) a → hid Z ρ σ a ∨ a = p := fun a z => by
    rcases z with z | ⟨j, es, h1, h2⟩
    · exact .inl (.inl z)
    · by_cases e' : i = j
      · subst e'
        have hl : i < σ.length := by
          have := (List.getElem?_eq_some_iff.mp h2).1
          simpa using this
        rw [List.getElem?_set_self hl] at h2
        cases h2
        exact .inr rfl
      · rw [List.getElem?_set_ne e'] at h1 h2
        exact .inl (.inr ⟨j, es, h1, h2⟩)
  have np : ∀ j es, ρ[j]? = some (Slot.own es) → σ[j]? = some (some (V.ref p)) → False := fun j es h1 h2 => S.fresh hp (.inr ⟨j, es, h1, h2⟩)
  refine S.step e (by simp [S.len]) (fun a ha z => (hh a z).elim id fun q => absurd hp (by rw [← q]; exact ha)) (S.grow e).zin (fun j k es fs a h1 h2 h3 h4 => ?_) (fun j d he => ?_) (fun j es he => ?_) (fun j c n he => (set_other he (fun z => nomatch z)).elim fun n1 h1 => ⟨h1, List.getElem?_set_ne n1⟩)
  · by_cases e1 : i = j
    · by_cases e2 : i = k
      · rw [← e1, ← e2]
      · rw [List.getElem?_set_ne e2] at h2 h4
        subst e1
        have hl : i < σ.length := by
          have := (List.getElem?_eq_some_iff.mp h3).1
          simpa using this
        rw [List.getElem?_set_self hl] at h3
        cases h3
        exact (np k _ h2 h4).elim
    · rw [List.getElem?_set_ne e1] at h1 h3
      by_cases e2 : i = k
      · subst e2
        have hl : i < σ.length := by
          have := (List.getElem?_eq_some_iff.mp h4).1
          simpa using this
        rw [List.getElem?_set_self hl] at h4
        cases h4
        exact (np j _ h1 h3).elim
      · rw [List.getElem?_set_ne e2] at h2 h4
        exact S.inj j k es fs a h1 h2 h3 h4
  · obtain ⟨n1, h1⟩ := set_other he (fun z => nomatch z)
    exact .inl ⟨h1, List.getElem?_set_ne n1⟩
  · by_cases e' : i = j
    · subst e'
      have hl : i < ρ.length := by
        have := (List.getElem?_eq_some_iff.mp he).1
        simpa using this
      rw [List.getElem?_set_self hl] at he
      cases he
      exact .inr ⟨p, vs, List.getElem?_set_self (by rw [← S.len]; exact hl), (by
        cases q : H0 p with
        | none => rfl
        | some o => rw [S.base p o q] at hp; cases hp), fun z => S.fresh hp (.inl z), hp', vrs_same (hide_to fun a o h n => ⟨fun z => n (hh a z), h⟩) h⟩
    · rw [List.getElem?_set_ne e'] at he
      exact .inl ⟨he, List.getElem?_set_ne e', fun a z => .inl z⟩
/-- an own list is changed no more -/
def fz (i : Nat) (ρ : En) : En := match ρ[i]? with
  | some (.own ds) => ρ.set i (.val (.list ds))
  | _ => ρ
theorem SR.fz {i : Nat} (S : SR B H0 Z G ρ σ H) : SR B H0 Z G (fz i ρ) σ H := by
  unfold VL.fz
  split
  next ds hi =>
    obtain ⟨a, vs, q1, q2, q3, q4, q5⟩ := S.own i ds hi
    have hl : i < ρ.length := (List.getElem?_eq_some_iff.mp hi).1
    have hh : ∀ b, OwnAt (ρ.set i (.val (.list ds))) σ b → OwnAt ρ σ b ∧ b ≠ a := fun b ⟨j, es, h1, h2⟩ => by
      obtain ⟨n, h1⟩ := set_other h1 (fun z => nomatch z)
      refine ⟨⟨j, es, h1, h2⟩, fun z => n ?_⟩
      subst z
      exact S.inj i j ds es b hi h1 q1 h2
    have hh' : ∀ b, hid Z (ρ.set i (.val (.list ds))) σ b → hid Z ρ σ b := fun b z => z.imp id fun y => (hh b y).1
    have na : ¬ hid Z (ρ.set i (.val (.list ds))) σ a := fun z => z.elim q3 fun y => (hh a y).2 rfl
    have up : Same (hide (hid Z ρ σ) H) (hide (hid Z (ρ.set i (.val (.list ds))) σ) H) := hide_to fun b o h n => ⟨fun z => n (hh' b z), h⟩
    refine S.step (Same.refl H) (by simp [S.len]) (fun b _ z => hh' b z) S.zin (fun j k es fs b h1 h2 h3 h4 => ?_) (fun j d he => ?_) (fun j es he => ?_) (fun j c n he => ⟨(set_other he (fun z => nomatch z)).2, rfl⟩)
    · obtain ⟨_, h1⟩ := set_other h1 (fun z => nomatch z)
      obtain ⟨_, h2⟩ := set_other h2 (fun z => nomatch z)
      exact S.inj j k es fs b h1 h2 h3 h4
    · by_cases e' : i = j
      · subst e'
        rw [List.getElem?_set_self hl] at he
        cases he
        exact .inr ⟨_, q1, .lst (.of (hide_eq.mpr ⟨na, q4⟩)) (vrs_same up q5)⟩
      · rw [List.getElem?_set_ne e'] at he
        exact .inl ⟨he, rfl⟩
    · obtain ⟨_, h1⟩ := set_other he (fun z => nomatch z)
      exact .inl ⟨h1, rfl, fun b z => .inl z⟩
  next => exact S
/-- an own list is changed -/
theorem SR.mut {i : Nat} {a : Addr} {vs : List V} {ds es : List Da} (S : SR B H0 Z G ρ σ H) (hi : ρ[i]? = some (.own ds)) (hs : σ[i]? = some (some (.ref a))) (h : Vrs B.K (hide (hid Z ρ σ) H) vs es) :
    SR B H0 Z G (ρ.set i (.own es)) σ (upd H a (.lst vs)) := by
  obtain ⟨b, ws, q1, q2, q3, q4, q5⟩ := S.own i ds hi
  rw [hs] at q1
  cases q1
  have hl : i < ρ.length := (List.getElem?_eq_some_iff.mp hi).1
  have ow : ∀ b, OwnAt (ρ.set i (.own es)) σ b ↔ OwnAt ρ σ b := fun b => by
    constructor
    · rintro ⟨j, fs, h1, h2⟩
      by_cases e' : i = j
      · subst e'
        exact ⟨i, ds, hi, h2⟩
      · rw [List.getElem?_set_ne e'] at h1
        exact ⟨j, fs, h1, h2⟩
    · rintro ⟨j, fs, h1, h2⟩
      by_cases e' : i = j
      · subst e'
        exact ⟨i, es, List.getElem?_set_self hl, h2⟩
      · exact ⟨j, fs, by rw [List.getElem?_set_ne e']; exact h1, h2⟩
  have ha : hid Z ρ σ a := .inr ⟨i, ds, hi, hs⟩
  have up : Same (hide (hid Z ρ σ) H) (hide (hid Z (ρ.set i (.own es)) σ) (upd H a (.lst vs))) := hide_to fun b o h n =>
    ⟨fun z => n (z.imp id (ow b).mp), by rw [upd_ne (fun z => n (by rw [z]; exact ha))]; exact h⟩
  refine ⟨by simp [S.len], fun j k ds' es' b h1 h2 h3 h4 => ?_, fun j d he => ?_, fun j fs he => ?_, fun g hg => g.mono up up (S.gh g hg), fun b o hb => ?_, fun b z => ?_, fun j c n he => ?_⟩
  · have g1 : ∃ x, ρ[j]? = some (Slot.own x) := by
      by_cases e' : i = j
      · exact ⟨ds, e' ▸ hi⟩
      · rw [List.getElem?_set_ne e'] at h1; exact ⟨_, h1⟩
    have g2 : ∃ x, ρ[k]? = some (Slot.own x) := by
      by_cases e' : i = k
      · exact ⟨ds, e' ▸ hi⟩
      · rw [List.getElem?_set_ne e'] at h2; exact ⟨_, h2⟩
    obtain ⟨x1, g1⟩ := g1
    obtain ⟨x2, g2⟩ := g2
    exact S.inj j k x1 x2 b g1 g2 h3 h4
  · obtain ⟨n, h1⟩ := set_other he (fun z => nomatch z)
    obtain ⟨v, k1, k2⟩ := S.val j d h1
    exact ⟨v, k1, vr_same up k2⟩
  · by_cases e' : i = j
    · subst e'
      rw [List.getElem?_set_self hl] at he
      cases he
      exact ⟨a, vs, hs, q2, q3, upd_same, vrs_same up h⟩
    · rw [List.getElem?_set_ne e'] at he
      obtain ⟨b, us, k1, k2, k3, k4, k5⟩ := S.own j fs he
      have nb : b ≠ a := fun z => e' (S.inj i j ds fs a hi he hs (by rw [← z]; exact k1))
      exact ⟨b, us, k1, k2, k3, by rw [upd_ne nb]; exact k4, vrs_same up k5⟩
  · have nb : b ≠ a := fun z => by rw [z, q2] at hb; cases hb
    rw [upd_ne nb]
    exact S.base b o hb
  · by_cases nb : b = a
    · exact ⟨vs, by rw [nb, upd_same]⟩
    · rw [upd_ne nb]; exact S.zin b z
  · obtain ⟨_, h1⟩ := set_other he (fun z => nomatch z)
    obtain ⟨b, oe, C, d, k1, k2, k3, k4, k5, k6, k7⟩ := S.exc j c n h1
    exact ⟨b, oe, C, d, k1, k2, k3, k4, k5, k6, up _ _ k7⟩
/-- one thing more is watched -/
theorem SR.watch {g : GhP} (S : SR B H0 Z G ρ σ H) (h1 : g.p B.K (hide (hid Z ρ σ) H) (hide (hid Z ρ σ) H)) : SR B H0 Z (g :: G) ρ σ H :=
  ⟨S.len, S.inj, S.val, S.own, fun g' hg => by
    rcases List.mem_cons.mp hg with e | hg
    · rw [e]; exact h1
    · exact S.gh g' hg, S.base, S.zin, S.exc⟩
theorem SR.watchs (rs : Gh) (S : SR B H0 Z G ρ σ H) (h : ∀ g ∈ rs, g.p B.K (hide (hid Z ρ σ) H) (hide (hid Z ρ σ) H)) : SR B H0 Z (rs ++ G) ρ σ H :=
  ⟨S.len, S.inj, S.val, S.own, fun g hg => (List.mem_append.mp hg).elim (h g) (S.gh g), S.base, S.zin, S.exc⟩
theorem SR.unwatch (rs : Gh) (S : SR B H0 Z (rs ++ G) ρ σ H) : SR B H0 Z G ρ σ H := ⟨S.len, S.inj, S.val, S.own, fun g hg => S.gh g (List.mem_append_right _ hg), S.base, S.zin, S.exc⟩
end
end VL
namespace VL
open PySem PySem.Spec PyProof.Rows L2

/-! ### what an evaluation hands on, by kinds -/
abbrev _root_.L2.Cx.bx (X : Cx) : Bx := ⟨X.K, X.mg, if X.calm = true then none else X.pn.head?⟩
structure Err (mg : Str → Option Value) (c : Str) (i : Int) (cls : Value) (dd : Option Addr) (H : Hp) : Prop where
  ex : ∃ (C d : Addr), mg c = some (.ref C) ∧ cls = .ref C ∧ dd = some d ∧ H d = some (.xd [(("at" : Str), V.int i)])
theorem Err.grow {mg : Str → Option Value} {c : Str} {i : Int} {cls : Value} {dd : Option Addr} {H H' : Hp} (e : Err mg c i cls dd H) (s : Same H H') : Err mg c i cls dd H' := by
  obtain ⟨C, d, h1, h2, h3, h4⟩ := e
  exact ⟨C, d, h1, h2, h3, s _ _ h4⟩
structure Kd (α β : Type) where
  P : PySem.W.Frag → (Addr → Prop) → En → Sg → Hp → α → β → Hp → Prop
  mono : ∀ K Z ρ σ H H1 d v H', Same H H1 → P K Z ρ σ H1 d v H' → P K Z ρ σ H d v H'
def lv (c : Bool) (Z : Addr → Prop) (ρ : En) (σ : Sg) : Addr → Prop := match c with
  | true => hid Z ρ σ
  | false => Z
theorem lv_hid {c : Bool} {Z : Addr → Prop} {ρ : En} {σ : Sg} {a : Addr} (h : lv c Z ρ σ a) : hid Z ρ σ a := by
  cases c with
  | true => exact h
  | false => exact .inl h
theorem lv_same {c : Bool} {Z : Addr → Prop} {ρ : En} {σ : Sg} {H : Hp} : Same (hide (hid Z ρ σ) H) (hide (lv c Z ρ σ) H) := hide_to fun a o h n => ⟨fun z => n (lv_hid z), h⟩
def kV (c : Bool) : Kd Da V := ⟨fun K Z ρ σ _ d v H' => Vr K (hide (lv c Z ρ σ) H') v d, fun _ _ _ _ _ _ _ _ _ _ h => h⟩
def kT : Kd Bool Bool := ⟨fun _ _ _ _ _ b b' _ => b = b', fun _ _ _ _ _ _ _ _ _ _ h => h⟩
def kA (c : Bool) (n : Nat) : Kd (List Da) (List V) := ⟨fun K Z ρ σ _ ds vs H' => Vrs K (hide (lv c Z ρ σ) H') vs ds ∧ ds.length = n, fun _ _ _ _ _ _ _ _ _ _ h => h⟩
/-- a list that may be the frame's own, its items not -/
def kS : Kd (List Da) V := ⟨fun K Z ρ σ _ ds v H' => ∃ a vs, v = .ref a ∧ Ls K (hide Z H') a vs ∧ Vrs K (hide (hid Z ρ σ) H') vs ds, fun _ _ _ _ _ _ _ _ _ _ h => h⟩
/-- a new list -/
def kF : Kd (List Da) V := ⟨fun K Z ρ σ H ds v H' => ∃ p vs, v = .ref p ∧ H p = none ∧ H' p = some (.lst vs) ∧ Vrs K (hide (fun a => hid Z ρ σ a ∨ a = p) H') vs ds, fun K Z ρ σ H H1 d v H' e h => by
  obtain ⟨p, vs, h1, h2, h3⟩ := h
  exact ⟨p, vs, h1, e.free h2, h3⟩⟩
section
variable {α β γ δ : Type} {X : Cx} {W : WX} {k : Kd α β} {k' : Kd γ δ} {K : PySem.W.Frag} {H0 H H1 : Hp} {Z : Addr → Prop} {G : Gh} {ρ : En} {σ : Sg}
def Arm (X : Cx) (W : WX) (k : Kd α β) (Z : Addr → Prop) (ρ : En) (σ : Sg) (r : R α) (H : Hp) (Q : β → Hp → Prop) : Prop := match r with
  | .ok d => ∀ v H', Same H H' → k.P X.K Z ρ σ H d v H' → Q v H'
  | .err c i => ∀ cls dd H', Same H H' → Err X.mg c i cls dd H' → W cls dd σ H'
  | .bad => False
theorem Arm.grow {r : R α} {Q : β → Hp → Prop} (h : Arm X W k Z ρ σ r H Q) (e : Same H H1) : Arm X W k Z ρ σ r H1 Q := by
  cases r with
  | ok d => exact fun v H' e' hp => h v H' (e.trans e') (k.mono _ _ _ _ _ _ _ _ _ e hp)
  | err c i => exact fun cls dd H' e' he => h cls dd H' (e.trans e') he
  | bad => exact h
theorem Arm.imp {r : R α} {Q Q' : β → Hp → Prop} (h : Arm X W k Z ρ σ r H Q) (f : ∀ v H', Q v H' → Q' v H') : Arm X W k Z ρ σ r H Q' := by
  cases r with
  | ok d => exact fun v H' e' hp => f v H' (h v H' e' hp)
  | err c i => exact h
  | bad => exact h
theorem Arm.bind {r : R α} {g : α → R γ} {Q : δ → Hp → Prop} (h : Arm X W k' Z ρ σ (r.bind g) H Q) :
    Arm X W k Z ρ σ r H (fun v H1 => Same H H1 ∧ ∃ d, k.P X.K Z ρ σ H d v H1 ∧ Arm X W k' Z ρ σ (g d) H1 Q) := by
  cases r with
  | ok d => exact fun v H' e' hp => ⟨e', d, hp, Arm.grow (r := g d) h e'⟩
  | err c i => exact h
  | bad => exact h
def J (X : Cx) (W : WX) (k : Kd α β) (f : En → R α) : Sg → Hp → (β → Hp → Prop) → Prop := fun σ H Q => ∃ H0 Z G ρ, SR X.bx H0 Z G ρ σ H ∧ Arm X W k Z ρ σ (f ρ) H Q
end
abbrev EV (X : Cx) (W : WX) (c : Bool) (e : Expr) (f : En → R Da) : Prop := PE X e (J X W (kV c) f)
abbrev ES (X : Cx) (W : WX) (e : Expr) (f : En → R (List Da)) : Prop := PE X e (J X W kS f)
abbrev EF (X : Cx) (W : WX) (e : Expr) (f : En → R (List Da)) : Prop := PE X e (J X W kF f)
abbrev TV (X : Cx) (W : WX) (e : Expr) (f : En → R Bool) : Prop := PT X e (J X W kT f)
abbrev WV (X : Cx) (W : WX) (e : Expr) (f : En → R Bool) : Prop := PW X e (J X W kT f)
abbrev AV (X : Cx) (W : WX) (c : Bool) (n : Nat) (es : List Expr) (f : En → R (List Da)) : Prop := PA X es (J X W (kA c n) f)

section
variable {X : Cx} {W : WX} {c c' : Bool} {a b e : Expr} {es : List Expr} {fa fb : En → R Da} {ft fu : En → R Bool} {fl fm : En → R (List Da)} {pos : Pos} {n : Nat}
theorem pe_imp {t t' : TE} (h : PE X e t) (i : ∀ σ H Q, t' σ H Q → t σ H Q) : PE X e t' := ⟨fun pins s σ H Q I q => h.run pins s σ H Q I (i σ H Q q)⟩
theorem pt_imp {t t' : TT} (h : PT X e t) (i : ∀ σ H Q, t' σ H Q → t σ H Q) : PT X e t' := ⟨fun pins s σ H Q I q => h.run pins s σ H Q I (i σ H Q q)⟩
theorem pw_imp {t t' : TT} (h : PW X e t) (i : ∀ σ H Q, t' σ H Q → t σ H Q) : PW X e t' := ⟨fun wh pins s σ H Q I q => h.run wh pins s σ H Q I (i σ H Q q)⟩
theorem pa_imp {t t' : TA} (h : PA X es t) (i : ∀ σ H Q, t' σ H Q → t σ H Q) : PA X es t' := ⟨fun pos pins s σ H Q I q => h.run pos pins s σ H Q I (i σ H Q q)⟩

/-! ### from one kind to another -/
theorem EV.lo (h : EV X W true e fa) : EV X W c e fa := pe_imp h fun σ H Q ⟨H0, Z, G, ρ, S, q⟩ => ⟨H0, Z, G, ρ, S, by
  cases r : fa ρ with
  | ok d =>
    rw [r] at q
    exact fun v H' e hp => q v H' e (vr_same lv_same hp)
  | err x i =>
    rw [r] at q
    exact q
  | bad =>
    rw [r] at q
    exact q⟩
theorem AV.lo (h : AV X W true n es fl) : AV X W c n es fl := pa_imp h fun σ H Q ⟨H0, Z, G, ρ, S, q⟩ => ⟨H0, Z, G, ρ, S, by
  cases r : fl ρ with
  | ok d =>
    rw [r] at q
    exact fun v H' e hp => q v H' e ⟨vrs_same lv_same hp.1, hp.2⟩
  | err x i =>
    rw [r] at q
    exact q
  | bad =>
    rw [r] at q
    exact q⟩
def asL : Da → R (List Da)
  | .list ds => .ok ds
  | _ => .bad
def eL (f : En → R Da) : En → R (List Da) := fun ρ => (f ρ).bind asL
def eD (f : En → R (List Da)) : En → R Da := fun ρ => (f ρ).bind fun ds => .ok (.list ds)
/-- a new list as a list -/
theorem EF.s (h : EF X W e fl) : ES X W e fl := pe_imp h fun σ H Q ⟨H0, Z, G, ρ, S, q⟩ => ⟨H0, Z, G, ρ, S, by
  cases r : fl ρ with
  | ok d =>
    rw [r] at q
    refine fun v H' e ⟨p, vs, h1, h2, h3, h4⟩ => q v H' e ⟨p, vs, h1, .of (hide_eq.mpr ⟨fun z => S.hidin (.inl z) h2, h3⟩), vrs_same (hide_to fun a o h n => ⟨fun z => n (.inl z), h⟩) h4⟩
  | err x i =>
    rw [r] at q
    exact q
  | bad =>
    rw [r] at q
    exact q⟩
/-- a new list as a datum -/
theorem EF.v (h : EF X W e fl) : EV X W c e (eD fl) := EV.lo (pe_imp h fun σ H Q ⟨H0, Z, G, ρ, S, q⟩ => ⟨H0, Z, G, ρ, S, by
  unfold eD at q
  cases r : fl ρ with
  | ok d =>
    rw [r] at q
    refine fun v H' e ⟨p, vs, h1, h2, h3, h4⟩ => q v H' e ?_
    rw [h1]
    exact .lst (.of (hide_eq.mpr ⟨S.fresh h2, h3⟩)) (vrs_same (hide_to fun a o h n => ⟨fun z => n (.inl z), h⟩) h4)
  | err x i =>
    rw [r] at q
    exact q
  | bad =>
    rw [r] at q
    exact q⟩)
/-- a clean datum as a list -/
theorem EV.s (h : EV X W true e fa) : ES X W e (eL fa) := pe_imp h fun σ H Q ⟨H0, Z, G, ρ, S, q⟩ => ⟨H0, Z, G, ρ, S, by
  unfold eL at q
  cases r : fa ρ with
  | ok d =>
    rw [r] at q
    intro v H' e hv
    have hv' : Vr X.K (hide (hid Z ρ σ) H') v d := hv
    cases hv' with
    | lst h1 h2 => exact q _ H' e ⟨_, _, rfl, ls_same (hide_to fun a o h n => ⟨fun z => n (.inl z), h⟩) h1, h2⟩
    | _ => exact False.elim q
  | err x i =>
    rw [r] at q
    exact q
  | bad =>
    rw [r] at q
    exact q⟩
/-- a list by its own datum, shared or own, borrowed -/
theorem ES.bo (h : ES X W e fl) : EV X W false e (eD fl) := pe_imp h fun σ H Q ⟨H0, Z, G, ρ, S, q⟩ => ⟨H0, Z, G, ρ, S, by
  unfold eD at q
  cases r : fl ρ with
  | ok d =>
    rw [r] at q
    refine fun v H' e ⟨a, vs, h1, h2, h3⟩ => q v H' e ?_
    rw [h1]
    exact .lst h2 (vrs_same lv_same h3)
  | err x i =>
    rw [r] at q
    exact q
  | bad =>
    rw [r] at q
    exact q⟩

/-! ### names, constants -/
def eVar (i : Nat) : En → R Da := fun ρ => match ρ[i]? with
  | some (.val d) => .ok d
  | _ => .bad
def eOwn (i : Nat) : En → R (List Da) := fun ρ => match ρ[i]? with
  | some (.own ds) => .ok ds
  | some (.val (.list ds)) => .ok ds
  | _ => .bad
def eC (d : Da) : En → R Da := fun _ => .ok d
theorem ev_var {i : Nat} {x : Str} (h : PE X (.Name x pos) (tVar i)) : EV X W c (.Name x pos) (eVar i) := EV.lo (pe_imp h fun σ H Q ⟨H0, Z, G, ρ, S, q⟩ => by
  unfold eVar at q
  split at q
  next d hd =>
    obtain ⟨v, h1, h2⟩ := S.val i d hd
    exact ⟨v, h1, q v H (Same.refl H) h2⟩
  next => exact False.elim q)
theorem es_var {i : Nat} {x : Str} (h : PE X (.Name x pos) (tVar i)) : ES X W (.Name x pos) (eOwn i) := pe_imp h fun σ H Q ⟨H0, Z, G, ρ, S, q⟩ => by
  unfold eOwn at q
  split at q
  next d hd =>
    obtain ⟨a, vs, h1, h2, h3, h4, h5⟩ := S.own i d hd
    exact ⟨.ref a, h1, q _ H (Same.refl H) ⟨a, vs, rfl, .of (hide_eq.mpr ⟨h3, h4⟩), h5⟩⟩
  next ds hd =>
    obtain ⟨v, h1, h2⟩ := S.val i _ hd
    cases h2 with
    | lst h3 h4 => exact ⟨_, h1, q _ H (Same.refl H) ⟨_, _, rfl, ls_same (hide_to fun a o h n => ⟨fun z => n (.inl z), h⟩) h3, h4⟩⟩
  next => exact False.elim q
/-- values that stand for themselves -/
inductive Sca : V → Da → Prop
  | non : Sca .non .none
  | bl (b : Bool) : Sca (.bl b) (.bool b)
  | int (i : Int) : Sca (.int i) (.int i)
  | str (x : Str) : Sca (.str x) (.str x)
theorem Sca.vr {K : PySem.W.Frag} {H : Hp} {v : V} {d : Da} (h : Sca v d) : Vr K H v d := by
  cases h with
  | non => exact .non
  | bl b => exact .bl b
  | int i => exact .int i
  | str x => exact .str x
theorem ev_const {v : V} {d : Da} (h : PE X e (tC v)) (s : Sca v d) : EV X W c e (eC d) := pe_imp h fun σ H Q ⟨H0, Z, G, ρ, S, q⟩ => q v H (Same.refl H) s.vr
theorem ev_int {i : Int} {j : Nat} : EV X W c (.Constant (.int i) j pos) (eC (.int i)) := ev_const pe_int (.int i)
theorem ev_bl {i : Bool} {j : Nat} : EV X W c (.Constant (.bool i) j pos) (eC (.bool i)) := ev_const pe_bl (.bl i)
theorem ev_non {j : Nat} : EV X W c (.Constant .none j pos) (eC .none) := ev_const pe_non .non
theorem ev_str {x : Str} {j : Nat} : EV X W c (.Constant (.str x) j pos) (eC (.str x)) := ev_const pe_str (.str x)
theorem ev_globI {i : Int} {t : Tok} {x : Str} (hg : Gl X x) (hm : X.mg x = some (.int i t)) (hd : (x == ("__debug__" : Str)) = false := by decide) : EV X W c (.Name x pos) (eC (.int i)) := ev_const (pe_glob (v := V.int i) hg hm ⟨t, rfl⟩ hd) (.int i)

/-! ### operators whose answer stands for itself -/
def Op2 (K : PySem.W.Frag) (g : Da → Da → R Da) (r : R2) : Prop := ∀ x y H v u Q, Vr K H v x → Vr K H u y → match g x y with
  | .ok d => ∃ w, Sca w d ∧ (Q w H → r v u H Q)
  | .err _ _ => False
  | .bad => True
def Cm2 (K : PySem.W.Frag) (g : Da → Da → R Bool) (r : R2) : Prop := ∀ x y H v u Q, Vr K H v x → Vr K H u y → match g x y with
  | .ok d => Q (.bl d) H → r v u H Q
  | .err _ _ => False
  | .bad => True
def e1 (g : Da → R Da) (fa : En → R Da) : En → R Da := fun ρ => (fa ρ).bind g
def e2 (g : Da → Da → R Da) (fa fb : En → R Da) : En → R Da := fun ρ => (fa ρ).bind fun x => (fb ρ).bind fun y => g x y
def t2 (g : Da → Da → R Bool) (fa fb : En → R Da) : En → R Bool := fun ρ => (fa ρ).bind fun x => (fb ρ).bind fun y => g x y
def eB (f : En → R Bool) : En → R Da := fun ρ => (f ρ).bind fun b => .ok (.bool b)
theorem two {r : R2} {P : V → V → Hp → Prop} {R' : En → Da → Da → Hp → Prop} (hr : True) : True := trivial
/-- two operands, read one after the other, in sight of what both see -/
theorem two_of {γ δ : Type} {k' : Kd γ δ} {g : Da → Da → R γ} {σ : Sg} {H : Hp} {Q : δ → Hp → Prop} {T : V → V → Hp → Prop}
    (h : J X W k' (fun ρ => (fa ρ).bind fun x => (fb ρ).bind fun y => g x y) σ H Q)
    (f : ∀ H0 Z G ρ x y v u H2, SR X.bx H0 Z G ρ σ H2 → Vr X.K (hide (lv c Z ρ σ) H2) v x → Vr X.K (hide (lv c Z ρ σ) H2) u y → Arm X W k' Z ρ σ (g x y) H2 Q → T v u H2) :
    J X W (kV c) fa σ H fun v H1 => J X W (kV c) fb σ H1 fun u H2 => T v u H2 := by
  obtain ⟨H0, Z, G, ρ, S, h⟩ := h
  refine ⟨H0, Z, G, ρ, S, (Arm.bind h).imp fun v H1 ⟨e1, x, hx, h1⟩ => ⟨H0, Z, G, ρ, S.grow e1, (Arm.bind h1).imp fun u H2 ⟨e2, y, hy, h2⟩ => ?_⟩⟩
  exact f H0 Z G ρ x y v u H2 ((S.grow e1).grow e2) (vr_same (hide_grow e2) hx) hy h2
theorem ev_op {op : Operator} {r : R2} {g : Da → Da → R Da} (hr : Op2 X.K g r) (ho : OpR X (binaryOp op) r) (ha : EV X W false a fa) (hb : EV X W false b fb) : EV X W c (.BinOp a op b pos) (e2 g fa fb) :=
  pe_imp (pe_op ho ha hb) fun σ H Q h => two_of h fun H0 Z G ρ x y v u H2 S hx hy q => by
    have z := hr x y H2 v u Q (vr_same hide_sub hx) (vr_same hide_sub hy)
    cases e : g x y with
    | ok d =>
      rw [e] at z q
      obtain ⟨w, s, z⟩ := z
      exact z (q w H2 (Same.refl _) s.vr)
    | err x i =>
      rw [e] at z
      exact z.elim
    | bad =>
      rw [e] at q
      exact q.elim
theorem cm_of {r : R2} {g : Da → Da → R Bool} (hr : Cm2 X.K g r) {σ : Sg} {H : Hp} {Q : Bool → Hp → Prop} {Q' : VK} (hq : ∀ k H', Q k H' → Q' (.bl k) H') (h : J X W kT (t2 g fa fb) σ H Q) :
    tOp r (J X W (kV false) fa) (J X W (kV false) fb) σ H Q' := two_of h fun H0 Z G ρ x y v u H2 S hx hy q => by
    have z := hr x y H2 v u Q' (vr_same hide_sub hx) (vr_same hide_sub hy)
    cases e : g x y with
    | ok d =>
      rw [e] at z q
      exact z (hq _ _ (q d H2 (Same.refl _) rfl))
    | err x i =>
      rw [e] at z
      exact z.elim
    | bad =>
      rw [e] at q
      exact q.elim
theorem tv_cmp {op : CmpOp} {r : R2} {g : Da → Da → R Bool} (hr : Cm2 X.K g r) (ho : OpR X (compareOp op) r) (ha : EV X W false a fa) (hb : EV X W false b fb) (hm : behindInMarks op b = false) : TV X W (.Compare a [op] [b] pos) (t2 g fa fb) :=
  pt_imp (pt_cmpR ho ha hb hm) fun σ H Q h => cm_of hr (fun k H' q => ⟨k, rfl, q⟩) h
theorem b_of {ft : En → R Bool} {σ : Sg} {H : Hp} {Q : VK} (h : J X W (kV c) (eB ft) σ H Q) : J X W kT ft σ H (fun b H' => Q (.bl b) H') := by
  obtain ⟨H0, Z, G, ρ, S, q⟩ := h
  refine ⟨H0, Z, G, ρ, S, ?_⟩
  unfold eB at q
  cases r : ft ρ with
  | ok d =>
    rw [r] at q
    intro v H' e hp
    cases hp
    exact q _ H' e (.bl _)
  | err x i =>
    rw [r] at q
    exact q
  | bad =>
    rw [r] at q
    exact q
theorem ev_cmp {op : CmpOp} {r : R2} {g : Da → Da → R Bool} (hr : Cm2 X.K g r) (ho : OpR X (compareOp op) r) (ha : EV X W false a fa) (hb : EV X W false b fb) (hm : behindInMarks op b = false) : EV X W c (.Compare a [op] [b] pos) (eB (t2 g fa fb)) :=
  pe_imp (pe_cmpR ho ha hb hm) fun σ H Q h => cm_of hr (fun k H' q => q) (b_of h)
/-- tests: and, or, not; a bool's value -/
def tNo (f : En → R Bool) : En → R Bool := fun ρ => (f ρ).bind fun b => .ok (!b)
def tAn (f g : En → R Bool) : En → R Bool := fun ρ => (f ρ).bind fun b => match b with
  | true => g ρ
  | false => .ok false
def tOr' (f g : En → R Bool) : En → R Bool := fun ρ => (f ρ).bind fun b => match b with
  | true => .ok true
  | false => g ρ
def asB : Da → R Bool
  | .bool b => .ok b
  | _ => .bad
def eT (f : En → R Da) : En → R Bool := fun ρ => (f ρ).bind asB
theorem tv_not (h : TV X W a ft) : TV X W (.UnaryOp .Not a pos) (tNo ft) := pt_imp (pt_not h) fun σ H Q ⟨H0, Z, G, ρ, S, q⟩ => by
  refine ⟨H0, Z, G, ρ, S, ?_⟩
  unfold tNo at q
  cases r : ft ρ with
  | ok d =>
    rw [r] at q
    intro v H' e hp
    cases hp
    exact q _ H' e rfl
  | err x i =>
    rw [r] at q
    exact q
  | bad =>
    rw [r] at q
    exact q
theorem wv_and1 (h : TV X W a ft) : WV X W (.BoolOp .And [a] pos) ft := pw_and1 h
theorem wv_or1 (h : TV X W a ft) : WV X W (.BoolOp .Or [a] pos) ft := pw_or1 h
theorem an_of {tB : En → R Bool} {σ : Sg} {H : Hp} {Q : Bool → Hp → Prop} (h : J X W kT (tAn ft tB) σ H Q) : tAnd (J X W kT ft) (J X W kT tB) σ H Q := by
  obtain ⟨H0, Z, G, ρ, S, h⟩ := h
  refine ⟨H0, Z, G, ρ, S, (Arm.bind h).imp fun v H1 ⟨e1, x, hx, h1⟩ => ?_⟩
  cases hx
  cases v with
  | true => exact iteT ⟨H0, Z, G, ρ, S.grow e1, h1⟩
  | false => exact iteF (h1 false H1 (Same.refl _) rfl)
theorem or_of {tB : En → R Bool} {σ : Sg} {H : Hp} {Q : Bool → Hp → Prop} (h : J X W kT (tOr' ft tB) σ H Q) : tOr (J X W kT ft) (J X W kT tB) σ H Q := by
  obtain ⟨H0, Z, G, ρ, S, h⟩ := h
  refine ⟨H0, Z, G, ρ, S, (Arm.bind h).imp fun v H1 ⟨e1, x, hx, h1⟩ => ?_⟩
  cases hx
  cases v with
  | true => exact iteT (h1 true H1 (Same.refl _) rfl)
  | false => exact iteF ⟨H0, Z, G, ρ, S.grow e1, h1⟩
theorem wv_and {rest : List Expr} (ha : TV X W a ft) (hb : WV X W (.BoolOp .And (b :: rest) pos) fu) : WV X W (.BoolOp .And (a :: b :: rest) pos) (tAn ft fu) := pw_imp (pw_and ha hb) fun σ H Q h => an_of h
theorem wv_or {rest : List Expr} (ha : TV X W a ft) (hb : WV X W (.BoolOp .Or (b :: rest) pos) fu) : WV X W (.BoolOp .Or (a :: b :: rest) pos) (tOr' ft fu) := pw_imp (pw_or ha hb) fun σ H Q h => or_of h
theorem WV.t (h : WV X W a ft) : TV X W a ft := h.pt
theorem tv_val (h : EV X W false a fa) (he : ∀ whole, isTrue a X.env whole = (do let v ← whole; standAt a.pos; holding [v] (truthy v)) := by intro _; rfl) : TV X W a (eT fa) := pt_imp (pt_val h he) fun σ H Q h => by
  obtain ⟨H0, Z, G, ρ, S, h⟩ := h
  refine ⟨H0, Z, G, ρ, S, (Arm.bind h).imp fun v H1 ⟨e1, x, hx, h1⟩ => ?_⟩
  have hx' : Vr X.K (hide Z H1) v x := hx
  cases hx' with
  | bl k => exact ⟨k, rfl, h1 k H1 (Same.refl _) rfl⟩
  | _ => exact False.elim h1
/-- bools by and, or, not as values: as tests -/
theorem ev_not (h : EV X W false a fa) : EV X W c (.UnaryOp .Not a pos) (eB (tNo (eT fa))) := pe_imp (pe_not h) fun σ H Q h => by
  obtain ⟨H0, Z, G, ρ, S, h⟩ := b_of h
  unfold tNo eT at h
  refine ⟨H0, Z, G, ρ, S, ?_⟩
  cases r : fa ρ with
  | ok d =>
    rw [r] at h
    intro v H' e hv
    have hv' : Vr X.K (hide Z H') v d := hv
    cases hv' with
    | bl k => exact ⟨k, rfl, h _ H' e rfl⟩
    | _ => exact False.elim h
  | err x i =>
    rw [r] at h
    exact h
  | bad =>
    rw [r] at h
    exact h
theorem ev_bone {op : BoolOp} (h : EV X W false a fa) : EV X W c (.BoolOp op [a] pos) (eB (eT fa)) := pe_imp (pe_one h) fun σ H Q h => by
  obtain ⟨H0, Z, G, ρ, S, h⟩ := b_of h
  unfold eT at h
  refine ⟨H0, Z, G, ρ, S, ?_⟩
  cases r : fa ρ with
  | ok d =>
    rw [r] at h
    intro v H' e hv
    have hv' : Vr X.K (hide Z H') v d := hv
    cases hv' with
    | bl k => exact h _ H' e rfl
    | _ => exact False.elim h
  | err x i =>
    rw [r] at h
    exact h
  | bad =>
    rw [r] at h
    exact h
theorem ev_and {rest : List Expr} {fe : En → R Bool} (ha : EV X W false a fa) (hb : EV X W c (.BoolOp .And (b :: rest) pos) (eB fe)) : EV X W c (.BoolOp .And (a :: b :: rest) pos) (eB (tAn (eT fa) fe)) := pe_imp (pe_and ha hb) fun σ H Q h => by
  obtain ⟨H0, Z, G, ρ, S, h⟩ := b_of h
  unfold tAn eT at h
  refine ⟨H0, Z, G, ρ, S, ?_⟩
  cases r : fa ρ with
  | ok d =>
    rw [r] at h
    intro v H' e hv
    have hv' : Vr X.K (hide Z H') v d := hv
    cases hv' with
    | bl k =>
      refine ⟨k, rfl, ?_⟩
      cases k with
      | true =>
        refine iteT ⟨H0, Z, G, ρ, S.grow e, ?_⟩
        have h' : Arm X W kT Z ρ σ (fe ρ) H (fun b H' => Q (.bl b) H') := h
        unfold eB
        cases r2 : fe ρ with
        | ok d2 =>
          rw [r2] at h'
          intro v2 H2 e2 hv2
          have hv3 : Vr X.K (hide (lv c Z ρ σ) H2) v2 (.bool d2) := hv2
          cases hv3
          exact h' d2 H2 (e.trans e2) rfl
        | err x i =>
          rw [r2] at h'
          exact fun cls dd H2 e2 he => h' cls dd H2 (e.trans e2) he
        | bad =>
          rw [r2] at h'
          exact h'
      | false => exact iteF (h false H' e rfl)
    | _ => exact False.elim h
  | err x i =>
    rw [r] at h
    exact h
  | bad =>
    rw [r] at h
    exact h
theorem ev_or {rest : List Expr} {fe : En → R Bool} (ha : EV X W false a fa) (hb : EV X W c (.BoolOp .Or (b :: rest) pos) (eB fe)) : EV X W c (.BoolOp .Or (a :: b :: rest) pos) (eB (tOr' (eT fa) fe)) := pe_imp (pe_or ha hb) fun σ H Q h => by
  obtain ⟨H0, Z, G, ρ, S, h⟩ := b_of h
  unfold tOr' eT at h
  refine ⟨H0, Z, G, ρ, S, ?_⟩
  cases r : fa ρ with
  | ok d =>
    rw [r] at h
    intro v H' e hv
    have hv' : Vr X.K (hide Z H') v d := hv
    cases hv' with
    | bl k =>
      refine ⟨k, rfl, ?_⟩
      cases k with
      | false =>
        refine iteF ⟨H0, Z, G, ρ, S.grow e, ?_⟩
        have h' : Arm X W kT Z ρ σ (fe ρ) H (fun b H' => Q (.bl b) H') := h
        unfold eB
        cases r2 : fe ρ with
        | ok d2 =>
          rw [r2] at h'
          intro v2 H2 e2 hv2
          have hv3 : Vr X.K (hide (lv c Z ρ σ) H2) v2 (.bool d2) := hv2
          cases hv3
          exact h' d2 H2 (e.trans e2) rfl
        | err x i =>
          rw [r2] at h'
          exact fun cls dd H2 e2 he => h' cls dd H2 (e.trans e2) he
        | bad =>
          rw [r2] at h'
          exact h'
      | true => exact iteT (h true H' e rfl)
    | _ => exact False.elim h
  | err x i =>
    rw [r] at h
    exact h
  | bad =>
    rw [r] at h
    exact h
/-- a if t else b -/
def eIf {α : Type} (t : En → R Bool) (f g : En → R α) : En → R α := fun ρ => (t ρ).bind fun b => match b with
  | true => f ρ
  | false => g ρ
theorem ifx_of {α β : Type} {k : Kd α β} {f g : En → R α} {σ : Sg} {H : Hp} {Q : β → Hp → Prop} (h : J X W k (eIf ft f g) σ H Q) : J X W kT ft σ H (fun c H1 => if c = true then J X W k f σ H1 Q else J X W k g σ H1 Q) := by
  obtain ⟨H0, Z, G, ρ, S, h⟩ := h
  refine ⟨H0, Z, G, ρ, S, (Arm.bind h).imp fun v H1 ⟨e1, x, hx, h1⟩ => ?_⟩
  cases hx
  cases v with
  | true => exact iteT ⟨H0, Z, G, ρ, S.grow e1, h1⟩
  | false => exact iteF ⟨H0, Z, G, ρ, S.grow e1, h1⟩
theorem ev_if {t : Expr} (ht : TV X W t ft) (ha : EV X W c a fa) (hb : EV X W c b fb) : EV X W c (.IfExp t a b pos) (eIf ft fa fb) := pe_imp (pe_ifExp ht ha hb) fun σ H Q h => ifx_of h
theorem ef_if {t : Expr} (ht : TV X W t ft) (ha : EF X W a fl) (hb : EF X W b fm) : EF X W (.IfExp t a b pos) (eIf ft fl fm) := pe_imp (pe_ifExp ht ha hb) fun σ H Q h => ifx_of h

/-! ### argument lists, displays -/
def aNil : En → R (List Da) := fun _ => .ok []
def aCons (f : En → R Da) (r : En → R (List Da)) : En → R (List Da) := fun ρ => (f ρ).bind fun x => (r ρ).bind fun xs => .ok (x :: xs)
theorem av_nil : AV X W c 0 [] aNil := pa_imp pa_nil fun σ H Q ⟨H0, Z, G, ρ, S, h⟩ => h [] H (Same.refl _) ⟨.nil, rfl⟩
theorem av_cons (ha : EV X W c e fa) (hr : AV X W c n es fl) (hs : starEach (e :: es) X.env = (false, eval e X.env) :: starEach es X.env := by rfl) : AV X W c (n + 1) (e :: es) (aCons fa fl) := pa_imp (pa_cons ha hr hs) fun σ H Q h => by
  obtain ⟨H0, Z, G, ρ, S, h⟩ := h
  refine ⟨H0, Z, G, ρ, S, (Arm.bind h).imp fun v H1 ⟨e1, x, hx, h1⟩ => ⟨H0, Z, G, ρ, S.grow e1, (Arm.bind h1).imp fun vs H2 ⟨e2, xs, hxs, h2⟩ => ?_⟩⟩
  exact h2 (v :: vs) H2 (Same.refl _) ⟨.cons (vr_same (hide_grow e2) hx) hxs.1, congrArg (· + 1) hxs.2⟩
def eTup (f : En → R (List Da)) : En → R Da := fun ρ => (f ρ).bind fun xs => .ok (.tuple xs)
theorem ev_tup {x1} (h : AV X W c n es fl) (hn : n ≤ 1000 := by decide) : EV X W c (.Tuple es x1 pos) (eTup fl) := pe_imp (pe_tup h) fun σ H Q h => by
  obtain ⟨H0, Z, G, ρ, S, h⟩ := h
  refine ⟨H0, Z, G, ρ, S, (Arm.bind h).imp fun vs H1 ⟨e1, xs, hx, h1⟩ => ⟨?_, fun p hp => ?_⟩⟩
  · rw [vrs_len hx.1, hx.2]
    exact Nat.le_of_lt (small1000 hn)
  · have np : ¬ lv c Z ρ σ p := fun z => (S.grow e1).fresh hp (lv_hid z)
    exact h1 _ _ (same_upd hp) (.tup (.inl (.inl (hide_eq.mpr ⟨np, upd_same⟩))) (vrs_same (hide_grow (same_upd hp)) hx.1))
theorem ef_lst (h : AV X W true n es fl) (hn : n ≤ 1000 := by decide) : EF X W (.List es pos) fl := pe_imp (pe_lst h) fun σ H Q h => by
  obtain ⟨H0, Z, G, ρ, S, h⟩ := h
  refine ⟨H0, Z, G, ρ, S, ?_⟩
  cases r : fl ρ with
  | ok xs =>
    rw [r] at h
    refine fun vs H1 e1 hx => ⟨?_, fun p hp => ?_⟩
    · rw [vrs_len hx.1, hx.2]
      exact Nat.le_of_lt (small1000 hn)
    · exact h _ _ (e1.trans (same_upd hp)) ⟨p, vs, rfl, e1.free hp, upd_same, vrs_same (hide_to fun a o h n => ⟨fun z => z.elim n fun q => absurd hp (by rw [← q, h]; exact fun z => nomatch z), same_upd hp a o h⟩) hx.1⟩
  | err x i =>
    rw [r] at h
    exact h
  | bad =>
    rw [r] at h
    exact h
/-- a list of borrowed things -/
theorem ev_lst (h : AV X W c n es fl) (hn : n ≤ 1000 := by decide) : EV X W c (.List es pos) (eD fl) := pe_imp (pe_lst h) fun σ H Q h => by
  obtain ⟨H0, Z, G, ρ, S, h⟩ := h
  refine ⟨H0, Z, G, ρ, S, (Arm.bind h).imp fun vs H1 ⟨e1, xs, hx, h1⟩ => ⟨?_, fun p hp => ?_⟩⟩
  · rw [vrs_len hx.1, hx.2]
    exact Nat.le_of_lt (small1000 hn)
  · have np : ¬ lv c Z ρ σ p := fun z => (S.grow e1).fresh hp (lv_hid z)
    exact h1 _ _ (same_upd hp) (.lst (.of (hide_eq.mpr ⟨np, upd_same⟩)) (vrs_same (hide_grow (same_upd hp)) hx.1))
end
end VL
namespace VL
open PySem PySem.Spec PyProof.Rows L2

/-! ### operators on ints -/
def dI2 (f : Int → Int → R Da) : Da → Da → R Da
  | .int i, .int j => f i j
  | _, _ => .bad
def cI2 (f : Int → Int → Bool) : Da → Da → R Bool
  | .int i, .int j => .ok (f i j)
  | _, _ => .bad
def dAdd : Da → Da → R Da := dI2 fun i j => .ok (.int (i + j))
def dSub : Da → Da → R Da := dI2 fun i j => .ok (.int (i - j))
def dMul : Da → Da → R Da := dI2 fun i j => if (-(2 ^ 64) < i ∧ i < 2 ^ 64) ∨ (-(2 ^ 64) < j ∧ j < 2 ^ 64) then .ok (.int (i * j)) else .bad
def dDiv : Da → Da → R Da := dI2 fun i j => if 0 < j ∧ j < 1073741824 then .ok (.int (i / j)) else .bad
def dMod : Da → Da → R Da := dI2 fun i j => if 0 < j then .ok (.int (i % j)) else .bad
def dPow : Da → Da → R Da := dI2 fun i j => if 0 ≤ j ∧ j ≤ 1000000 ∧ i.natAbs < 2 ^ 64 then .ok (.int (i ^ j.toNat)) else .bad
def cLt : Da → Da → R Bool := cI2 fun i j => decide (i < j)
def cLe : Da → Da → R Bool := cI2 fun i j => decide (i ≤ j)
def cGt : Da → Da → R Bool := cI2 fun i j => decide (j < i)
def cGe : Da → Da → R Bool := cI2 fun i j => decide (j ≤ i)
def cEq (x y : Da) : R Bool := if SeqAt.shaped x = true ∧ SeqAt.shaped y = true then .ok (PyData.eqv x y) else .bad
def cNe (x y : Da) : R Bool := if SeqAt.shaped x = true ∧ SeqAt.shaped y = true then .ok (!PyData.eqv x y) else .bad
def isNo : Da → Bool
  | .none => true
  | _ => false
def cIsN : Da → Da → R Bool
  | x, .none => .ok (isNo x)
  | _, _ => .bad
def cNotN : Da → Da → R Bool
  | x, .none => .ok (!isNo x)
  | _, _ => .bad
def cIsB : Da → Da → R Bool
  | .bool a, .bool b => .ok (decide (a = b))
  | _, _ => .bad
def cNotB : Da → Da → R Bool
  | .bool a, .bool b => .ok (!decide (a = b))
  | _, _ => .bad
def cIn : Da → Da → R Bool
  | x, .list ds => if SeqAt.shaped x = true ∧ SeqAt.shaped (.list ds) = true then .ok (ds.any fun z => PyData.eqv z x) else .bad
  | _, _ => .bad
def cNotIn : Da → Da → R Bool
  | x, .list ds => if SeqAt.shaped x = true ∧ SeqAt.shaped (.list ds) = true then .ok (!ds.any fun z => PyData.eqv z x) else .bad
  | _, _ => .bad
def dNeg : Da → R Da
  | .int i => .ok (.int (-i))
  | _ => .bad
section
variable {K : PySem.W.Frag}
theorem op2_I0 {F : Int → Int → Int} : Op2 K (dI2 fun i j => .ok (.int (F i j))) (rI0 fun i j => .int (F i j)) := by
  intro x y H v u Q hx hy
  cases hx <;> cases hy <;> first | trivial | exact ⟨_, .int _, fun q => ⟨_, _, rfl, rfl, q⟩⟩
theorem op2_I {F : Int → Int → Int} {C : Int → Int → Prop} [∀ i j, Decidable (C i j)] : Op2 K (dI2 fun i j => if C i j then .ok (.int (F i j)) else .bad) (rI C fun i j => .int (F i j)) := by
  intro x y H v u Q hx hy
  cases hx <;> cases hy <;> first | trivial | skip
  rename_i i j
  by_cases h : C i j
  · show match (if C i j then R.ok (.int (F i j)) else R.bad : R Da) with | .ok d => _ | .err _ _ => False | .bad => True
    rw [if_pos h]
    exact ⟨_, .int _, fun q => ⟨_, _, rfl, rfl, h, q⟩⟩
  · show match (if C i j then R.ok (.int (F i j)) else R.bad : R Da) with | .ok d => _ | .err _ _ => False | .bad => True
    rw [if_neg h]
    trivial
theorem cm2_I {F : Int → Int → Bool} : Cm2 K (cI2 F) (rI0 fun i j => .bl (F i j)) := by
  intro x y H v u Q hx hy
  cases hx <;> cases hy <;> first | trivial | exact fun q => ⟨_, _, rfl, rfl, q⟩
theorem cm2_eq : Cm2 K cEq (rEqD K) := by
  intro x y H v u Q hx hy
  unfold cEq
  by_cases h : SeqAt.shaped x = true ∧ SeqAt.shaped y = true
  · rw [if_pos h]
    exact fun q => ⟨x, y, vr_dp hx, vr_dp hy, h.1, h.2, q⟩
  · rw [if_neg h]
    trivial
theorem cm2_ne : Cm2 K cNe (rNeD K) := by
  intro x y H v u Q hx hy
  unfold cNe
  by_cases h : SeqAt.shaped x = true ∧ SeqAt.shaped y = true
  · rw [if_pos h]
    exact fun q => ⟨x, y, vr_dp hx, vr_dp hy, h.1, h.2, q⟩
  · rw [if_neg h]
    trivial
theorem vr_non {H : Hp} {v : V} {x : Da} (h : Vr K H v x) : decide (v = V.non) = isNo x := by
  cases h <;> rfl
theorem cm2_isN : Cm2 K cIsN (fun x y H Q => y = .non ∧ Q (.bl (decide (x = .non))) H) := by
  intro x y H v u Q hx hy
  cases hy with
  | non =>
    show Q (.bl (isNo x)) H → _
    rw [← vr_non hx]
    exact fun q => ⟨rfl, q⟩
  | _ => cases x <;> trivial
theorem cm2_notN : Cm2 K cNotN (fun x y H Q => y = .non ∧ Q (.bl (!decide (x = .non))) H) := by
  intro x y H v u Q hx hy
  cases hy with
  | non =>
    show Q (.bl (!isNo x)) H → _
    rw [← vr_non hx]
    exact fun q => ⟨rfl, q⟩
  | _ => cases x <;> trivial
theorem cm2_isB : Cm2 K cIsB rIsB := by
  intro x y H v u Q hx hy
  cases hx <;> cases hy <;> first | trivial | exact fun q => ⟨_, _, rfl, rfl, q⟩
theorem cm2_notB : Cm2 K cNotB rNotB := by
  intro x y H v u Q hx hy
  cases hx <;> cases hy <;> first | trivial | exact fun q => ⟨_, _, rfl, rfl, q⟩
theorem cm2_in : Cm2 K cIn (rInD K) := by
  intro x y H v u Q hx hy
  cases y with
  | list ds =>
    show match (if SeqAt.shaped x = true ∧ SeqAt.shaped (.list ds) = true then R.ok (ds.any fun z => PyData.eqv z x) else R.bad : R Bool) with | .ok d => _ | .err _ _ => False | .bad => True
    by_cases h : SeqAt.shaped x = true ∧ SeqAt.shaped (.list ds) = true
    · rw [if_pos h]
      exact fun q => ⟨x, ds, vr_dp hx, vr_dp hy, h.1, h.2, q⟩
    · rw [if_neg h]
      trivial
  | _ => trivial
theorem cm2_notIn : Cm2 K cNotIn (rNotInD K) := by
  intro x y H v u Q hx hy
  cases y with
  | list ds =>
    show match (if SeqAt.shaped x = true ∧ SeqAt.shaped (.list ds) = true then R.ok (!ds.any fun z => PyData.eqv z x) else R.bad : R Bool) with | .ok d => _ | .err _ _ => False | .bad => True
    by_cases h : SeqAt.shaped x = true ∧ SeqAt.shaped (.list ds) = true
    · rw [if_pos h]
      exact fun q => ⟨x, ds, vr_dp hx, vr_dp hy, h.1, h.2, q⟩
    · rw [if_neg h]
      trivial
  | _ => trivial
end
section
variable {X : Cx} {W : WX} {c c' : Bool} {a b e : Expr} {es : List Expr} {fa fb : En → R Da} {ft fu : En → R Bool} {fl fm : En → R (List Da)} {pos : Pos} {n : Nat}
theorem ev_add (ha : EV X W false a fa) (hb : EV X W false b fb) : EV X W c (.BinOp a .Add b pos) (e2 dAdd fa fb) := ev_op op2_I0 op_add ha hb
theorem ev_sub (ha : EV X W false a fa) (hb : EV X W false b fb) : EV X W c (.BinOp a .Sub b pos) (e2 dSub fa fb) := ev_op op2_I0 op_sub ha hb
theorem ev_mul (ha : EV X W false a fa) (hb : EV X W false b fb) : EV X W c (.BinOp a .Mult b pos) (e2 dMul fa fb) := ev_op (op2_I (C := fun i j => (-(2 ^ 64) < i ∧ i < 2 ^ 64) ∨ (-(2 ^ 64) < j ∧ j < 2 ^ 64))) op_mul ha hb
theorem ev_div (ha : EV X W false a fa) (hb : EV X W false b fb) : EV X W c (.BinOp a .FloorDiv b pos) (e2 dDiv fa fb) := ev_op (op2_I (C := fun i j => 0 < j ∧ j < 1073741824)) op_fdiv ha hb
theorem ev_mod (ha : EV X W false a fa) (hb : EV X W false b fb) : EV X W c (.BinOp a .Mod b pos) (e2 dMod fa fb) := ev_op (op2_I (C := fun i j => 0 < j)) op_mod ha hb
theorem ev_pow (ha : EV X W false a fa) (hb : EV X W false b fb) : EV X W c (.BinOp a .Pow b pos) (e2 dPow fa fb) := ev_op (op2_I (C := fun i j => 0 ≤ j ∧ j ≤ 1000000 ∧ i.natAbs < 2 ^ 64)) op_pow ha hb
theorem ev_neg (ha : EV X W false a fa) : EV X W c (.UnaryOp .USub a pos) (e1 dNeg fa) := pe_imp (pe_un un_neg ha) fun σ H Q ⟨H0, Z, G, ρ, S, h⟩ => ⟨H0, Z, G, ρ, S, (Arm.bind h).imp fun v H1 ⟨e1, x, hx, h1⟩ => by
  have hx' : Vr X.K (hide Z H1) v x := hx
  cases hx' with
  | int i => exact ⟨i, rfl, h1 _ H1 (Same.refl _) (.int _)⟩
  | _ => exact False.elim h1⟩

/-! ### chains of comparisons -/
/-- what stands behind the first operand, as a test; as a value -/
def TC (X : Cx) (W : WX) (ops : List CmpOp) (es : List Expr) (f : En → Da → R Bool) : Prop :=
  ∀ (pos : Pos) (pins : List (Addr × Obj)) (s : Shared) (σ : Sg) (H : Hp) (Q : Bool → Hp → Prop) (v : V) (u : Value) (H0 : Hp) (Z : Addr → Prop) (G : Gh) (ρ : En) (d : Da), Inv X pins σ H s → RelV v u → SR X.bx H0 Z G ρ σ H → Vr X.K (hide Z H) v d →
    Arm X W kT Z ρ σ (f ρ d) H Q → wpAny (model X.prog X.w) X.A (testChain pos u ops (evalEach es X.env)) (TP X pins σ Q) X.xe s
def VC (X : Cx) (W : WX) (ops : List CmpOp) (es : List Expr) (f : En → Da → R Bool) : Prop :=
  ∀ (pos : Pos) (pins : List (Addr × Obj)) (s : Shared) (σ : Sg) (H : Hp) (Q : VK) (v : V) (u : Value) (H0 : Hp) (Z : Addr → Prop) (G : Gh) (ρ : En) (d : Da), Inv X pins σ H s → RelV v u → SR X.bx H0 Z G ρ σ H → Vr X.K (hide Z H) v d →
    Arm X W kT Z ρ σ (f ρ d) H (fun b H' => Q (.bl b) H') → wpAny (model X.prog X.w) X.A (compareChain pos u ops (evalEach es X.env)) (EP X pins σ Q) X.xe s
def c1 (g : Da → Da → R Bool) (fb : En → R Da) : En → Da → R Bool := fun ρ x => (fb ρ).bind fun y => g x y
def cN (g : Da → Da → R Bool) (fb : En → R Da) (r : En → Da → R Bool) : En → Da → R Bool := fun ρ x => (fb ρ).bind fun y => (g x y).bind fun k => match k with
  | true => r ρ y
  | false => .ok false
def tCh (fa : En → R Da) (r : En → Da → R Bool) : En → R Bool := fun ρ => (fa ρ).bind (r ρ)
theorem tc_last {op : CmpOp} {r : R2} {g : Da → Da → R Bool} (hr : Cm2 X.K g r) (ho : OpR X (compareOp op) r) (hb : EV X W false b fb) : TC X W [op] [b] (c1 g fb) := by
  intro pos pins s σ H Q v u H0 Z G ρ x I rv S hx h
  refine test_last (thn (hb.run pins s σ H _ I ⟨H0, Z, G, ρ, S, Arm.bind h⟩) fun w s1 ⟨y, H1, I1, r1, e1, d, hd, h1⟩ => ?_)
  have z := hr x d H1 v y (fun w H' => ∃ k, w = .bl k ∧ Q k H') (vr_same (hide_sub) (vr_same (hide_grow e1) hx)) (vr_same hide_sub hd)
  cases e : g x d with
  | ok k =>
    rw [e] at z h1
    refine thn (ho pins s1 σ H1 v y u w _ I1 rv r1 (z ⟨k, rfl, h1 k H1 (Same.refl _) rfl⟩)) fun t s2 ⟨q, H2, I2, r2, k2, ek, hq⟩ => ?_
    subst ek
    cases r2
    exact wpAny_truthy_bool ⟨H2, I2, hq⟩
  | err x i =>
    rw [e] at z
    exact z.elim
  | bad =>
    rw [e] at h1
    exact h1.elim
theorem tc_link {op op' : CmpOp} {ops : List CmpOp} {e' : Expr} {r : R2} {g : Da → Da → R Bool} {fr : En → Da → R Bool} (hr : Cm2 X.K g r) (ho : OpR X (compareOp op) r) (hb : EV X W false b fb) (ht : TC X W (op' :: ops) (e' :: es) fr) :
    TC X W (op :: op' :: ops) (b :: e' :: es) (cN g fb fr) := by
  intro pos pins s σ H Q v u H0 Z G ρ x I rv S hx h
  refine test_link (thn (hb.run pins s σ H _ I ⟨H0, Z, G, ρ, S, Arm.bind h⟩) fun w s1 ⟨y, H1, I1, r1, e1, d, hd, h1⟩ => ?_)
  cases e : g x d with
  | ok k =>
    rw [e] at h1
    have z := hr x d H1 v y (fun w H' => w = .bl k ∧ H' = H1) (vr_same (hide_sub) (vr_same (hide_grow e1) hx)) (vr_same hide_sub hd)
    rw [e] at z
    refine thn (ho pins s1 σ H1 v y u w _ I1 rv r1 (z ⟨rfl, rfl⟩)) fun t s2 ⟨q, H2, I2, r2, ek, eh⟩ => ?_
    subst ek eh
    cases r2
    refine wpAny_truthy_bool ?_
    cases k with
    | true => exact iteT (ht pos pins s2 σ _ Q y w H0 Z G ρ d I2 r1 (S.grow e1) hd h1)
    | false => exact iteF ⟨_, I2, h1 false _ (Same.refl _) rfl⟩
  | err c i =>
    have z := hr x d H1 v y (fun w H' => True) (vr_same (hide_sub) (vr_same (hide_grow e1) hx)) (vr_same hide_sub hd)
    rw [e] at z
    exact z.elim
  | bad =>
    rw [e] at h1
    exact h1.elim
theorem vc_last {op : CmpOp} {r : R2} {g : Da → Da → R Bool} (hr : Cm2 X.K g r) (ho : OpR X (compareOp op) r) (hb : EV X W false b fb) : VC X W [op] [b] (c1 g fb) := by
  intro pos pins s σ H Q v u H0 Z G ρ x I rv S hx h
  refine chain_last (thn (hb.run pins s σ H _ I ⟨H0, Z, G, ρ, S, Arm.bind h⟩) fun w s1 ⟨y, H1, I1, r1, e1, d, hd, h1⟩ => ?_)
  have z := hr x d H1 v y Q (vr_same (hide_sub) (vr_same (hide_grow e1) hx)) (vr_same hide_sub hd)
  cases e : g x d with
  | ok k =>
    rw [e] at z h1
    exact ho pins s1 σ H1 v y u w Q I1 rv r1 (z (h1 k H1 (Same.refl _) rfl))
  | err x i =>
    rw [e] at z
    exact z.elim
  | bad =>
    rw [e] at h1
    exact h1.elim
theorem vc_link {op op' : CmpOp} {ops : List CmpOp} {e' : Expr} {r : R2} {g : Da → Da → R Bool} {fr : En → Da → R Bool} (hr : Cm2 X.K g r) (ho : OpR X (compareOp op) r) (hb : EV X W false b fb) (ht : VC X W (op' :: ops) (e' :: es) fr) :
    VC X W (op :: op' :: ops) (b :: e' :: es) (cN g fb fr) := by
  intro pos pins s σ H Q v u H0 Z G ρ x I rv S hx h
  refine chain_link (thn (hb.run pins s σ H _ I ⟨H0, Z, G, ρ, S, Arm.bind h⟩) fun w s1 ⟨y, H1, I1, r1, e1, d, hd, h1⟩ => ?_)
  cases e : g x d with
  | ok k =>
    rw [e] at h1
    have z := hr x d H1 v y (fun w H' => w = .bl k ∧ H' = H1) (vr_same (hide_sub) (vr_same (hide_grow e1) hx)) (vr_same hide_sub hd)
    rw [e] at z
    refine thn (ho pins s1 σ H1 v y u w _ I1 rv r1 (z ⟨rfl, rfl⟩)) fun t s2 ⟨q, H2, I2, r2, ek, eh⟩ => ?_
    subst ek eh
    cases r2
    refine wpAny_truthy_bool ?_
    cases k with
    | true => exact iteT (ht pos pins s2 σ _ Q y w H0 Z G ρ d I2 r1 (S.grow e1) hd h1)
    | false => exact iteF ⟨.bl false, _, I2, rfl, h1 false _ (Same.refl _) rfl⟩
  | err c i =>
    have z := hr x d H1 v y (fun w H' => True) (vr_same (hide_sub) (vr_same (hide_grow e1) hx)) (vr_same hide_sub hd)
    rw [e] at z
    exact z.elim
  | bad =>
    rw [e] at h1
    exact h1.elim
theorem tv_chain {op op' : CmpOp} {ops : List CmpOp} {e' : Expr} {fr : En → Da → R Bool} (ha : EV X W false a fa) (h : TC X W (op :: op' :: ops) (b :: e' :: es) fr) (hm : lastMarks (op :: op' :: ops) (b :: e' :: es) = false := by with_unfolding_all rfl) :
    TV X W (.Compare a (op :: op' :: ops) (b :: e' :: es) pos) (tCh fa fr) := by
  refine ⟨fun pins s σ H Q I ⟨H0, Z, G, ρ, S, q⟩ => ?_⟩
  exact isTrue_chain (thn (ha.run pins s σ H _ I ⟨H0, Z, G, ρ, S, Arm.bind q⟩) fun w s1 ⟨y, H1, I1, r1, e1, d, hd, h1⟩ => h pos pins s1 σ H1 Q y w H0 Z G ρ d I1 r1 (S.grow e1) hd h1) hm
theorem ev_chain {op op' : CmpOp} {ops : List CmpOp} {e' : Expr} {fr : En → Da → R Bool} (ha : EV X W false a fa) (h : VC X W (op :: op' :: ops) (b :: e' :: es) fr) (hm : lastMarks (op :: op' :: ops) (b :: e' :: es) = false := by with_unfolding_all rfl) :
    EV X W c (.Compare a (op :: op' :: ops) (b :: e' :: es) pos) (eB (tCh fa fr)) := by
  refine ⟨fun pins s σ H Q I hq => ?_⟩
  obtain ⟨H0, Z, G, ρ, S, q⟩ := b_of hq
  exact Compare_chain (thn (ha.run pins s σ H _ I ⟨H0, Z, G, ρ, S, Arm.bind q⟩) fun w s1 ⟨y, H1, I1, r1, e1, d, hd, h1⟩ => h pos pins s1 σ H1 Q y w H0 Z G ρ d I1 r1 (S.grow e1) hd h1) hm

/-! ### items, slices -/
def opt {α : Type} : Option α → R α
  | some a => .ok a
  | none => .bad
def dIx : Da → Da → R Da
  | .list ds, .int i => opt (atI ds i)
  | .tuple ds, .int i => opt (atI ds i)
  | _, _ => .bad
theorem vrs_atI {K : PySem.W.Frag} {H : Hp} {vs : List V} {ds : List Da} {i : Int} {d : Da} (h : Vrs K H vs ds) (e : atI ds i = some d) : ∃ v, atI vs i = some v ∧ Vr K H v d := by
  unfold atI at e ⊢
  rw [vrs_len h]
  cases q : ixN ds.length i with
  | none => rw [q] at e; cases e
  | some j =>
    rw [q] at e
    exact vrs_get h e
theorem two_of' {γ δ : Type} {k' : Kd γ δ} {g : Da → Da → R γ} {σ : Sg} {H : Hp} {Q : δ → Hp → Prop} {T : V → V → Hp → Prop}
    (h : J X W k' (fun ρ => (fa ρ).bind fun x => (fb ρ).bind fun y => g x y) σ H Q)
    (f : ∀ H0 Z G ρ x y v u H2, SR X.bx H0 Z G ρ σ H2 → Vr X.K (hide (lv c Z ρ σ) H2) v x → Vr X.K (hide (lv c' Z ρ σ) H2) u y → Arm X W k' Z ρ σ (g x y) H2 Q → T v u H2) :
    J X W (kV c) fa σ H fun v H1 => J X W (kV c') fb σ H1 fun u H2 => T v u H2 := by
  obtain ⟨H0, Z, G, ρ, S, h⟩ := h
  refine ⟨H0, Z, G, ρ, S, (Arm.bind h).imp fun v H1 ⟨e1, x, hx, h1⟩ => ⟨H0, Z, G, ρ, S.grow e1, (Arm.bind h1).imp fun u H2 ⟨e2, y, hy, h2⟩ => ?_⟩⟩
  exact f H0 Z G ρ x y v u H2 ((S.grow e1).grow e2) (vr_same (hide_grow e2) hx) hy h2
theorem ev_ix (ha : EV X W c a fa) (hb : EV X W false b fb) (hs : PlainIx b) : EV X W c (.Subscript a b pos) (e2 dIx fa fb) := pe_imp (pe_ix ix_seq ha hb hs) fun σ H Q h => two_of' h fun H0 Z G ρ x y v u H2 S hx hy q => by
  cases hy with
  | int i =>
    cases hx with
    | lst h1 h2 =>
      rename_i l xs ds
      replace q : Arm X W (kV c) Z ρ σ (opt (atI ds i)) H2 Q := q
      cases e : atI ds i with
      | none =>
        rw [e] at q
        exact q.elim
      | some d =>
        rw [e] at q
        obtain ⟨w, k1, k2⟩ := vrs_atI h2 e
        exact .inl ⟨_, _, i, w, rfl, rfl, (ls_same hide_sub h1).sq, k1, q w H2 (Same.refl _) k2⟩
    | tup h1 h2 =>
      rename_i l xs ds
      replace q : Arm X W (kV c) Z ρ σ (opt (atI ds i)) H2 Q := q
      cases e : atI ds i with
      | none =>
        rw [e] at q
        exact q.elim
      | some d =>
        rw [e] at q
        obtain ⟨w, k1, k2⟩ := vrs_atI h2 e
        exact .inr (.inl ⟨_, _, i, w, rfl, rfl, sqt_same hide_sub h1, k1, q w H2 (Same.refl _) k2⟩)
    | _ => exact q.elim
  | _ => cases hx <;> exact q.elim
def eIxS (fl : En → R (List Da)) (fb : En → R Da) : En → R Da := fun ρ => (fl ρ).bind fun ds => (fb ρ).bind fun y => dIx (.list ds) y
theorem ev_ixS (ha : ES X W a fl) (hb : EV X W false b fb) (hs : PlainIx b) : EV X W c (.Subscript a b pos) (eIxS fl fb) := EV.lo (pe_imp (pe_ix ix_list ha hb hs) fun σ H Q ⟨H0, Z, G, ρ, S, h⟩ => by
  refine ⟨H0, Z, G, ρ, S, (Arm.bind h).imp fun v H1 ⟨e1, ds, ⟨a, vs, hv, h1, h2⟩, h3⟩ => ⟨H0, Z, G, ρ, S.grow e1, (Arm.bind h3).imp fun u H2 ⟨e2, y, hy, q⟩ => ?_⟩⟩
  have hy' : Vr X.K (hide Z H2) u y := hy
  cases hy' with
  | int i =>
    replace q : Arm X W (kV true) Z ρ σ (opt (atI ds i)) H2 Q := q
    cases e : atI ds i with
    | none =>
      rw [e] at q
      exact q.elim
    | some d =>
      rw [e] at q
      obtain ⟨w, k1, k2⟩ := vrs_atI h2 e
      exact ⟨a, vs, i, w, hv, rfl, (ls_same (fun b o z => e2 b o (hide_sub b o z)) h1).sq, k1, q w H2 (Same.refl _) (vr_same (hide_grow e2) k2)⟩
  | _ => exact q.elim)
def kO : Kd (Option Int) (Option Int) := ⟨fun _ _ _ _ _ b b' _ => b = b', fun _ _ _ _ _ _ _ _ _ _ h => h⟩
abbrev OV (X : Cx) (W : WX) (e : Option Expr) (f : En → R (Option Int)) : Prop := PO X e (J X W kO f)
def oNo : En → R (Option Int) := fun _ => .ok none
def asO : Da → R (Option Int)
  | .int i => .ok (some i)
  | _ => .bad
def oSo (f : En → R Da) : En → R (Option Int) := fun ρ => (f ρ).bind asO
theorem ov_none : OV X W none oNo := ⟨fun pins s σ H Q I ⟨H0, Z, G, ρ, S, q⟩ => po_none.run pins s σ H Q I (q none H (Same.refl _) rfl)⟩
theorem ov_some (h : EV X W false e fa) : OV X W (some e) (oSo fa) := ⟨fun pins s σ H Q I ⟨H0, Z, G, ρ, S, q⟩ => (po_some h).run pins s σ H Q I ⟨H0, Z, G, ρ, S, (Arm.bind q).imp fun v H1 ⟨e1, x, hx, h1⟩ => by
  have hx' : Vr X.K (hide Z H1) v x := hx
  cases hx' with
  | int i => exact ⟨i, rfl, h1 _ H1 (Same.refl _) rfl⟩
  | _ => exact False.elim h1⟩⟩
def cutD {α : Type} (xs : List α) (lo hi : Option Int) : List α := (xs.drop (HT.sIx xs.length 0 lo)).take (HT.sIx xs.length xs.length hi - HT.sIx xs.length 0 lo)
theorem vrs_cut {K : PySem.W.Frag} {H : Hp} {vs : List V} {ds : List Da} {lo hi : Option Int} (h : Vrs K H vs ds) : Vrs K H (cutV vs lo hi) (cutD ds lo hi) := by
  unfold cutV cutD
  rw [vrs_len h]
  exact vrs_take _ (vrs_drop _ h)
def eSl (fl : En → R (List Da)) (lo hi : En → R (Option Int)) : En → R (List Da) := fun ρ => (fl ρ).bind fun ds => (lo ρ).bind fun i => (hi ρ).bind fun j => .ok (cutD ds i j)
/-- a new list laid -/
theorem newF {B : Bx} {H0 H1 H : Hp} {Z : Addr → Prop} {G : Gh} {ρ : En} {σ : Sg} {vs : List V} {ds : List Da} (S : SR B H0 Z G ρ σ H1) (e : Same H H1) (h : Vrs B.K (hide (hid Z ρ σ) H1) vs ds) {p : Addr} (hp : H1 p = none) :
    kF.P B.K Z ρ σ H ds (.ref p) (upd H1 p (.lst vs)) :=
  ⟨p, vs, rfl, e.free hp, upd_same, vrs_same (hide_to fun a o h n => ⟨fun z => z.elim n fun q => absurd hp (by rw [← q, h]; exact fun z => nomatch z), same_upd hp a o h⟩) h⟩
theorem Arm.okF {ds : List Da} {H0 H1 : Hp} {Z : Addr → Prop} {G : Gh} {ρ : En} {σ : Sg} {vs : List V} {Q : VK} (q : Arm X W kF Z ρ σ (.ok ds) H1 Q) (S : SR X.bx H0 Z G ρ σ H1) (h : Vrs X.K (hide (hid Z ρ σ) H1) vs ds) {p : Addr} (hp : H1 p = none) : Q (.ref p) (upd H1 p (.lst vs)) :=
  q _ _ (same_upd hp) (newF S (Same.refl _) h hp)
theorem ef_sl {lo hi : Option Expr} {flo fhi : En → R (Option Int)} {p2 : Pos} (ha : ES X W a fl) (hlo : OV X W lo flo) (hhi : OV X W hi fhi) : EF X W (.Subscript a (.Slice lo hi none p2) pos) (eSl fl flo fhi) := pe_imp (pe_slice sl_list ha hlo hhi) fun σ H Q ⟨H0, Z, G, ρ, S, h⟩ => by
  refine ⟨H0, Z, G, ρ, S, (Arm.bind h).imp fun v H1 ⟨e1, ds, ⟨a, vs, hv, h1, h2⟩, h3⟩ => ⟨H0, Z, G, ρ, S.grow e1, (Arm.bind h3).imp fun i H2 ⟨e2, i', hi, h4⟩ => ⟨H0, Z, G, ρ, (S.grow e1).grow e2, (Arm.bind h4).imp fun j H3 ⟨e3, j', hj, h5⟩ => ?_⟩⟩⟩
  cases hi
  cases hj
  have e23 := e2.trans e3
  exact ⟨a, vs, hv, (ls_same (fun b o z => e23 b o (hide_sub b o z)) h1).sq, fun p hp => Arm.okF h5 (((S.grow e1).grow e2).grow e3) (vrs_cut (vrs_same (hide_grow e23) h2)) hp⟩
def eRev (fl : En → R (List Da)) : En → R (List Da) := fun ρ => (fl ρ).bind fun ds => .ok ds.reverse
theorem ef_rev {k : Nat} {p1 p2 p3 : Pos} (ha : ES X W a fl) : EF X W (.Subscript a (.Slice none none (some (.UnaryOp .USub (.Constant (.int 1) k p1) p2)) p3) pos) (eRev fl) := pe_imp (pe_revL ha) fun σ H Q ⟨H0, Z, G, ρ, S, h⟩ => by
  refine ⟨H0, Z, G, ρ, S, (Arm.bind h).imp fun v H1 ⟨e1, ds, ⟨a, vs, hv, h1, h2⟩, h3⟩ => ?_⟩
  exact ⟨a, vs, hv, (ls_same hide_sub h1).sq, fun p hp => Arm.okF h3 (S.grow e1) (vrs_rev h2) hp⟩

/-! ### list + list -/
theorem ls_isL {pins : List (Addr × Obj)} {σ : Sg} {H : Hp} {s : Shared} {l : Addr} {xs : List V} (I : Inv X pins σ H s) (h : Ls X.K H l xs) : ∃ (its : List Value) (n : Nat), Vals xs its ∧ IsL s.heap l its.toArray n ∧ xs.length ≤ sizeLine := by
  rcases h with h | ⟨its, n, h1, h2, h3⟩
  · obtain ⟨z, its, n, r, e⟩ := h.ok I.hok
    exact ⟨its, n, r, e, z⟩
  · refine ⟨its.toList, n, h3, by simpa using I.kIn _ _ h1, ?_⟩
    have e := Vals.length h3
    simp only [Array.length_toList] at e
    omega
def rCatL (K : PySem.W.Frag) : R2 := fun x y H Q => ∃ l m xs zs, x = .ref l ∧ y = .ref m ∧ Ls K H l xs ∧ Ls K H m zs ∧ xs.length + zs.length ≤ sizeLine ∧ ∀ p, H p = none → Q (.ref p) (upd H p (.lst (xs ++ zs)))
theorem op_catL : OpR X (binaryOp .Add) (rCatL X.K) := by
  intro pins s σ H x y v u Q I rx ry ⟨l, m, xs, zs, ex, ey, h1, h2, hz, q⟩
  subst ex ey
  cases rx
  cases ry
  obtain ⟨its, n, r, il, _⟩ := ls_isL I h1
  obtain ⟨its2, n2, r2, il2, _⟩ := ls_isL I h2
  have l1 := r.length
  have l2 := r2.length
  refine PySem.P.add_list il il2 ?_ (by rw [List.size_toArray, List.size_toArray]; omega)
  rw [show its.toArray ++ its2.toArray = (its ++ its2).toArray by simp]
  exact ⟨.ref _, _, I.lnew (t' := s.toks) (r.append r2) (by rw [List.length_append]; exact hz), rfl, q _ I.fresh⟩
def lim : Nat := 16777216
theorem lim_eq : sizeLine = lim := sizeLine_eq
def eCat (f g : En → R (List Da)) : En → R (List Da) := fun ρ => (f ρ).bind fun xs => (g ρ).bind fun ys => if xs.length + ys.length ≤ lim then .ok (xs ++ ys) else .bad
theorem ef_cat (ha : ES X W a fl) (hb : ES X W b fm) : EF X W (.BinOp a .Add b pos) (eCat fl fm) := pe_imp (pe_op op_catL ha hb) fun σ H Q ⟨H0, Z, G, ρ, S, h⟩ => by
  refine ⟨H0, Z, G, ρ, S, (Arm.bind h).imp fun v H1 ⟨e1, ds, ⟨l, vs, hv, h1, h2⟩, h3⟩ => ⟨H0, Z, G, ρ, S.grow e1, (Arm.bind h3).imp fun u H2 ⟨e2, es, ⟨m, ws, hw, k1, k2⟩, q⟩ => ?_⟩⟩
  by_cases hl : ds.length + es.length ≤ lim
  · rw [if_pos hl] at q
    refine ⟨l, m, vs, ws, hv, hw, ls_same (fun b o z => e2 b o (hide_sub b o z)) h1, ls_same hide_sub k1, ?_, fun p hp => Arm.okF q ((S.grow e1).grow e2) (vrs_app (vrs_same (hide_grow e2) h2) k2) hp⟩
    rw [vrs_len h2, vrs_len k2, lim_eq]
    exact hl
  · rw [if_neg hl] at q
    exact q.elim
end
end VL
namespace VL
open PySem PySem.Spec PyProof.Rows L2

/-! ### calls of built-ins whose answer stands for itself -/
def CallS (K : PySem.W.Frag) (g : List Da → R Da) (r : List V → Hp → VK → Prop) : Prop := ∀ ds H vs Q, Vrs K H vs ds → match g ds with
  | .ok d => ∃ w, Sca w d ∧ (Q w H → r vs H Q)
  | .err _ _ => False
  | .bad => True
def eAp (g : List Da → R Da) (f : En → R (List Da)) : En → R Da := fun ρ => (f ρ).bind g
def intsOf : List Da → Option (List Int)
  | [] => some []
  | .int i :: r => (intsOf r).map (i :: ·)
  | _ :: _ => none
def boolsOf : List Da → Option (List Bool)
  | [] => some []
  | .bool b :: r => (boolsOf r).map (b :: ·)
  | _ :: _ => none
theorem vrs_ints {K : PySem.W.Frag} {H : Hp} : ∀ {vs : List V} {ds : List Da} {ns : List Int}, Vrs K H vs ds → intsOf ds = some ns → vs = ns.map V.int
  | _, _, ns, .nil, e => by
    cases (show ([] : List Int) = ns from Option.some.inj e)
    rfl
  | _, _, ns, .cons (d := d) (ds := ds) h t, e => by
    cases h with
    | int i =>
      cases q : intsOf ds with
      | none =>
        have e' : (intsOf ds).map (i :: ·) = some ns := e
        rw [q] at e'
        cases e'
      | some ms =>
        have e' : (intsOf ds).map (i :: ·) = some ns := e
        rw [q] at e'
        cases (show i :: ms = ns from Option.some.inj e')
        rw [vrs_ints t q]
        rfl
    | _ => cases e
theorem vrs_bools {K : PySem.W.Frag} {H : Hp} : ∀ {vs : List V} {ds : List Da} {ns : List Bool}, Vrs K H vs ds → boolsOf ds = some ns → vs = ns.map V.bl
  | _, _, ns, .nil, e => by
    cases (show ([] : List Bool) = ns from Option.some.inj e)
    rfl
  | _, _, ns, .cons (d := d) (ds := ds) h t, e => by
    cases h with
    | bl i =>
      cases q : boolsOf ds with
      | none =>
        have e' : (boolsOf ds).map (i :: ·) = some ns := e
        rw [q] at e'
        cases e'
      | some ms =>
        have e' : (boolsOf ds).map (i :: ·) = some ns := e
        rw [q] at e'
        cases (show i :: ms = ns from Option.some.inj e')
        rw [vrs_bools t q]
        rfl
    | _ => cases e
def gLen : List Da → R Da
  | [.list ds] => .ok (.int ds.length)
  | [.tuple ds] => .ok (.int ds.length)
  | _ => .bad
def gAbs : List Da → R Da
  | [.int i] => .ok (.int (if i < 0 then -i else i))
  | _ => .bad
def gMax2 : List Da → R Da
  | [.int i, .int j] => .ok (.int (if j > i then j else i))
  | _ => .bad
def gMin2 : List Da → R Da
  | [.int i, .int j] => .ok (.int (if j < i then j else i))
  | _ => .bad
def gInt : List Da → R Da
  | [.int i] => .ok (.int i)
  | [.bool b] => .ok (.int (if b then 1 else 0))
  | _ => .bad
def gSum : List Da → R Da
  | [.list ds] => (opt (intsOf ds)).bind fun ns => .ok (.int ns.sum)
  | _ => .bad
def gMax1 : List Da → R Da
  | [.list ds] => (opt (intsOf ds)).bind fun ns => (opt ns.max?).bind fun m => .ok (.int m)
  | _ => .bad
def gMin1 : List Da → R Da
  | [.list ds] => (opt (intsOf ds)).bind fun ns => (opt ns.min?).bind fun m => .ok (.int m)
  | _ => .bad
def gAny : List Da → R Da
  | [.list ds] => (opt (boolsOf ds)).bind fun bs => .ok (.bool (bs.any id))
  | _ => .bad
def gAll : List Da → R Da
  | [.list ds] => (opt (boolsOf ds)).bind fun bs => .ok (.bool (bs.all id))
  | _ => .bad
def gRepr : List Da → R Da
  | [.list ds] => if (PyData.list ds).showable = true ∧ (PyData.list ds).depth ≤ 60 ∧ (PyData.list ds).shown.length ≤ lim then .ok (.str (PyData.list ds).shown) else .bad
  | [.tuple ds] => if (PyData.tuple ds).showable = true ∧ (PyData.tuple ds).depth ≤ 60 ∧ (PyData.tuple ds).shown.length ≤ lim then .ok (.str (PyData.tuple ds).shown) else .bad
  | _ => .bad
theorem vrs_one {K : PySem.W.Frag} {H : Hp} {vs : List V} {d : Da} (h : Vrs K H vs [d]) : ∃ v, vs = [v] ∧ Vr K H v d := by
  cases h with
  | cons h t =>
    cases t
    exact ⟨_, rfl, h⟩
theorem vrs_two {K : PySem.W.Frag} {H : Hp} {vs : List V} {d e : Da} (h : Vrs K H vs [d, e]) : ∃ v w, vs = [v, w] ∧ Vr K H v d ∧ Vr K H w e := by
  cases h with
  | cons h t =>
    obtain ⟨w, rfl, k⟩ := vrs_one t
    exact ⟨_, _, rfl, h, k⟩
mutual
theorem dp_nodict {K : PySem.W.Frag} {H : Hp} : ∀ {v : V} {d : Da}, Vr K H v d → d.hasDict = false
  | _, _, .non => by simp [PyData.hasDict]
  | _, _, .bl b => by simp [PyData.hasDict]
  | _, _, .int i => by simp [PyData.hasDict]
  | _, _, .str x => by simp [PyData.hasDict]
  | _, _, .lst h a => by simp [PyData.hasDict, dps_nodict a]
  | _, _, .tup h a => by simp [PyData.hasDict, dps_nodict a]
theorem dps_nodict {K : PySem.W.Frag} {H : Hp} : ∀ {vs : List V} {ds : List Da}, Vrs K H vs ds → PyData.hasDictAll ds = false
  | _, _, .nil => by simp [PyData.hasDictAll]
  | _, _, .cons h t => by simp [PyData.hasDictAll, dp_nodict h, dps_nodict t]
end
def rReprD (K : PySem.W.Frag) : List V → Hp → VK → Prop := fun xs H Q => ∃ a d, xs = [.ref a] ∧ Vr K H (.ref a) d ∧ d.showable = true ∧ d.depth ≤ 60 ∧ d.shown.length ≤ sizeLine ∧ Q (.str d.shown) H
section
variable {K : PySem.W.Frag} {X : Cx}
theorem call_reprD (hg : X.A.guards = some []) (hu : X.A.units + 64 < cLine) : CallR X (.builtin "repr") (rReprD X.K) := by
  intro pins s σ H xs us Q I r ⟨a, d, ex, hv, hs, hd, hl, q⟩
  subst ex
  obtain ⟨u, rfl, r1⟩ := vals1 r
  cases r1
  obtain ⟨as, hr⟩ := Dp.reads I d (.ref a) (.ref a) (vr_dp hv) rfl
  refine repr_of_reads' hr hs (PyData.noDict_hsm (dp_nodict hv)) hg (by omega) (fun _ _ e => e) (fun h' t tk k => ?_) hl
  exact ⟨.str d.shown, H, I.kept (t' := tk) k, ⟨t, rfl⟩, q⟩
theorem cs_len : CallS K gLen (fun xs H Q => ∃ x n, xs = [x] ∧ LenV K x H n ∧ Q (.int n) H) := by
  intro ds H vs Q h
  cases k : gLen ds with
  | ok d =>
    unfold gLen at k
    split at k
    next es =>
      obtain ⟨v, rfl, hv⟩ := vrs_one h
      cases k
      cases hv with
      | lst h1 h2 => exact ⟨_, .int _, fun q => ⟨_, _, rfl, .inl ⟨_, h1.sq, rfl⟩, by rw [vrs_len h2]; exact q⟩⟩
    next es =>
      obtain ⟨v, rfl, hv⟩ := vrs_one h
      cases k
      cases hv with
      | tup h1 h2 => exact ⟨_, .int _, fun q => ⟨_, _, rfl, .inr ⟨_, h1, rfl⟩, by rw [vrs_len h2]; exact q⟩⟩
    next => cases k
  | err x i =>
    unfold gLen at k
    split at k
    next => cases k
    next => cases k
    next => cases k
  | bad => trivial
theorem cs_abs : CallS K gAbs (fun xs H Q => ∃ i, xs = [.int i] ∧ Q (.int (if i < 0 then -i else i)) H) := by
  intro ds H vs Q h
  cases k : gAbs ds with
  | ok d =>
    unfold gAbs at k
    split at k
    next es =>
      obtain ⟨v, rfl, hv⟩ := vrs_one h
      cases k
      cases hv
      exact ⟨_, .int _, fun q => ⟨_, rfl, q⟩⟩
    next => cases k
  | err x i =>
    unfold gAbs at k
    split at k
    next => cases k
    next => cases k
  | bad => trivial
theorem cs_int : CallS K gInt (fun xs H Q => (∃ i, xs = [.int i] ∧ Q (.int i) H) ∨ ∃ k, xs = [.bl k] ∧ Q (.int (if k then 1 else 0)) H) := by
  intro ds H vs Q h
  cases k : gInt ds with
  | ok d =>
    unfold gInt at k
    split at k
    next es =>
      obtain ⟨v, rfl, hv⟩ := vrs_one h
      cases k
      cases hv
      exact ⟨_, .int _, fun q => .inl ⟨_, rfl, q⟩⟩
    next es =>
      obtain ⟨v, rfl, hv⟩ := vrs_one h
      cases k
      cases hv
      exact ⟨_, .int _, fun q => .inr ⟨_, rfl, q⟩⟩
    next => cases k
  | err x i =>
    unfold gInt at k
    split at k
    next => cases k
    next => cases k
    next => cases k
  | bad => trivial
theorem cs_max2 : CallS K gMax2 (fun xs H Q => ∃ i j, xs = [.int i, .int j] ∧ Q (.int (if j > i then j else i)) H) := by
  intro ds H vs Q h
  cases k : gMax2 ds with
  | ok d =>
    unfold gMax2 at k
    split at k
    next i j =>
      obtain ⟨v, w, rfl, hv, hw⟩ := vrs_two h
      cases k
      cases hv
      cases hw
      exact ⟨_, .int _, fun q => ⟨_, _, rfl, q⟩⟩
    next => cases k
  | err x i =>
    unfold gMax2 at k
    split at k
    next => cases k
    next => cases k
  | bad => trivial
theorem cs_min2 : CallS K gMin2 (fun xs H Q => ∃ i j, xs = [.int i, .int j] ∧ Q (.int (if j < i then j else i)) H) := by
  intro ds H vs Q h
  cases k : gMin2 ds with
  | ok d =>
    unfold gMin2 at k
    split at k
    next i j =>
      obtain ⟨v, w, rfl, hv, hw⟩ := vrs_two h
      cases k
      cases hv
      cases hw
      exact ⟨_, .int _, fun q => ⟨_, _, rfl, q⟩⟩
    next => cases k
  | err x i =>
    unfold gMin2 at k
    split at k
    next => cases k
    next => cases k
  | bad => trivial
theorem cs_sum : CallS K gSum (rSum K) := by
  intro ds H vs Q h
  cases k : gSum ds with
  | ok d =>
    unfold gSum at k
    split at k
    next es =>
      obtain ⟨v, rfl, hv⟩ := vrs_one h
      cases hv with
      | lst h1 h2 =>
        cases e : intsOf es with
        | none =>
          rw [e] at k
          cases k
        | some ns =>
          rw [e] at k
          have z := vrs_ints h2 e
          cases k
          exact ⟨_, .int _, fun q => ⟨_, ns, rfl, by rw [← z]; exact h1.sq, q⟩⟩
    next => cases k
  | err x i =>
    unfold gSum at k
    split at k
    next => (rename_i es; cases e : intsOf es <;> (rw [e] at k; cases k))
    next => cases k
  | bad => trivial
theorem cs_max1 : CallS K gMax1 (rMax K) := by
  intro ds H vs Q h
  cases k : gMax1 ds with
  | ok d =>
    unfold gMax1 at k
    split at k
    next es =>
      obtain ⟨v, rfl, hv⟩ := vrs_one h
      cases hv with
      | lst h1 h2 =>
        cases e : intsOf es with
        | none =>
          rw [e] at k
          cases k
        | some ns =>
          rw [e] at k
          have z := vrs_ints h2 e
          have k' : (opt ns.max?).bind (fun m => R.ok (PyData.int m)) = R.ok d := k
          cases e2 : ns.max? with
          | none =>
            rw [e2] at k'
            cases k'
          | some m =>
            rw [e2] at k'
            cases k'
            obtain ⟨k1, k2⟩ := List.max?_eq_some_iff.mp e2
            refine ⟨_, .int _, fun q => ⟨_, ns, rfl, by rw [← z]; exact h1.sq, List.length_pos_of_mem k1, fun m' a b => ?_⟩⟩
            have e3 : m' = m := Int.le_antisymm (k2 m' a) (b m k1)
            rw [e3]
            exact q
    next => cases k
  | err x i =>
    unfold gMax1 at k
    split at k
    next => (rename_i es; cases e : intsOf es with | none => (rw [e] at k; cases k) | some ns => (rw [e] at k; have k' : (opt ns.max?).bind (fun m => R.ok (PyData.int m)) = R.err x i := k; cases e2 : ns.max? <;> (rw [e2] at k'; cases k')))
    next => cases k
  | bad => trivial
theorem cs_min1 : CallS K gMin1 (rMin K) := by
  intro ds H vs Q h
  cases k : gMin1 ds with
  | ok d =>
    unfold gMin1 at k
    split at k
    next es =>
      obtain ⟨v, rfl, hv⟩ := vrs_one h
      cases hv with
      | lst h1 h2 =>
        cases e : intsOf es with
        | none =>
          rw [e] at k
          cases k
        | some ns =>
          rw [e] at k
          have z := vrs_ints h2 e
          have k' : (opt ns.min?).bind (fun m => R.ok (PyData.int m)) = R.ok d := k
          cases e2 : ns.min? with
          | none =>
            rw [e2] at k'
            cases k'
          | some m =>
            rw [e2] at k'
            cases k'
            obtain ⟨k1, k2⟩ := List.min?_eq_some_iff.mp e2
            refine ⟨_, .int _, fun q => ⟨_, ns, rfl, by rw [← z]; exact h1.sq, List.length_pos_of_mem k1, fun m' a b => ?_⟩⟩
            have e3 : m' = m := Int.le_antisymm (b m k1) (k2 m' a)
            rw [e3]
            exact q
    next => cases k
  | err x i =>
    unfold gMin1 at k
    split at k
    next => (rename_i es; cases e : intsOf es with | none => (rw [e] at k; cases k) | some ns => (rw [e] at k; have k' : (opt ns.min?).bind (fun m => R.ok (PyData.int m)) = R.err x i := k; cases e2 : ns.min? <;> (rw [e2] at k'; cases k')))
    next => cases k
  | bad => trivial
theorem cs_any : CallS K gAny (rAny K) := by
  intro ds H vs Q h
  cases k : gAny ds with
  | ok d =>
    unfold gAny at k
    split at k
    next es =>
      obtain ⟨v, rfl, hv⟩ := vrs_one h
      cases hv with
      | lst h1 h2 =>
        cases e : boolsOf es with
        | none =>
          rw [e] at k
          cases k
        | some ns =>
          rw [e] at k
          have z := vrs_bools h2 e
          cases k
          exact ⟨_, .bl _, fun q => ⟨_, ns, rfl, by rw [← z]; exact h1.sq, q⟩⟩
    next => cases k
  | err x i =>
    unfold gAny at k
    split at k
    next => (rename_i es; cases e : boolsOf es <;> (rw [e] at k; cases k))
    next => cases k
  | bad => trivial
theorem cs_all : CallS K gAll (rAll K) := by
  intro ds H vs Q h
  cases k : gAll ds with
  | ok d =>
    unfold gAll at k
    split at k
    next es =>
      obtain ⟨v, rfl, hv⟩ := vrs_one h
      cases hv with
      | lst h1 h2 =>
        cases e : boolsOf es with
        | none =>
          rw [e] at k
          cases k
        | some ns =>
          rw [e] at k
          have z := vrs_bools h2 e
          cases k
          exact ⟨_, .bl _, fun q => ⟨_, ns, rfl, by rw [← z]; exact h1.sq, q⟩⟩
    next => cases k
  | err x i =>
    unfold gAll at k
    split at k
    next => (rename_i es; cases e : boolsOf es <;> (rw [e] at k; cases k))
    next => cases k
  | bad => trivial
theorem cs_repr : CallS K gRepr (rReprD K) := by
  intro ds H vs Q h
  cases k : gRepr ds with
  | ok d =>
    unfold gRepr at k
    split at k
    next es =>
      obtain ⟨v, rfl, hv⟩ := vrs_one h
      by_cases z : (PyData.list es).showable = true ∧ (PyData.list es).depth ≤ 60 ∧ (PyData.list es).shown.length ≤ lim
      · rw [if_pos z] at k
        cases k
        cases hv with
        | lst h1 h2 => exact ⟨_, .str _, fun q => ⟨_, _, rfl, .lst h1 h2, z.1, z.2.1, by rw [lim_eq]; exact z.2.2, q⟩⟩
      · rw [if_neg z] at k
        cases k
    next es =>
      obtain ⟨v, rfl, hv⟩ := vrs_one h
      by_cases z : (PyData.tuple es).showable = true ∧ (PyData.tuple es).depth ≤ 60 ∧ (PyData.tuple es).shown.length ≤ lim
      · rw [if_pos z] at k
        cases k
        cases hv with
        | tup h1 h2 => exact ⟨_, .str _, fun q => ⟨_, _, rfl, .tup h1 h2, z.1, z.2.1, by rw [lim_eq]; exact z.2.2, q⟩⟩
      · rw [if_neg z] at k
        cases k
    next => cases k
  | err x i =>
    unfold gRepr at k
    split at k
    next => (split at k <;> cases k)
    next => (split at k <;> cases k)
    next => cases k
  | bad => trivial
end
section
variable {X : Cx} {W : WX} {c c' : Bool} {a b e : Expr} {es : List Expr} {fa fb : En → R Da} {ft fu : En → R Bool} {fl fm : En → R (List Da)} {pos p : Pos} {n : Nat} {x : Str} {id T : String} {r : List V → Hp → VK → Prop} {g : List Da → R Da}
theorem cb_of {σ : Sg} {H : Hp} {Q : VK} (hs : CallS X.K g r) (h : J X W (kV c) (eAp g fl) σ H Q) : tCB r (J X W (kA false n) fl) σ H Q := by
  obtain ⟨H0, Z, G, ρ, S, h⟩ := h
  refine ⟨H0, Z, G, ρ, S, (Arm.bind h).imp fun vs H1 ⟨e1, ds, hd, h1⟩ => ?_⟩
  have z := hs ds H1 vs Q (vrs_same hide_sub hd.1)
  cases k : g ds with
  | ok d =>
    rw [k] at z h1
    obtain ⟨w, s, z⟩ := z
    exact z (h1 w H1 (Same.refl _) s.vr)
  | err x i =>
    rw [k] at z
    exact z.elim
  | bad =>
    rw [k] at h1
    exact h1.elim
theorem ev_callB (hs : CallS X.K g r) (hc : CallR X (.builtin id) r) (hg : Gl X x) (hm : X.mg x = none) (hv : bootBuiltins x = some (.builtin id)) (ha : AV X W false n (e :: es) fl) (hn : x ≠ "__name__" := by decide) (hdb : (x == ("__debug__" : Str)) = false := by decide)
    (he : starEach (e :: es) X.env = (false, eval e X.env) :: starEach es X.env := by rfl) (hpl : (backTo pos (starEach es X.env)).any (·.1) = false := by rfl) : EV X W c (.Call (.Name x p) (e :: es) [] pos) (eAp g fl) :=
  pe_imp (pe_callB hc hg hm hv ha hn hdb he hpl) fun σ H Q h => cb_of hs h
theorem ev_callTy (hs : CallS X.K g r) (hc : CallR X (.type T) r) (hg : Gl X x) (hm : X.mg x = none) (hv : bootBuiltins x = some (.type T)) (ha : AV X W false n (e :: es) fl) (hn : x ≠ "__name__" := by decide) (hdb : (x == ("__debug__" : Str)) = false := by decide)
    (he : starEach (e :: es) X.env = (false, eval e X.env) :: starEach es X.env := by rfl) (hpl : (backTo pos (starEach es X.env)).any (·.1) = false := by rfl) : EV X W c (.Call (.Name x p) (e :: es) [] pos) (eAp g fl) :=
  pe_imp (pe_callTy hc hg hm hv ha hn hdb he hpl) fun σ H Q h => cb_of hs h
/-! isinstance(e, T), T a built-in class -/
def isTy (T : String) : Da → R Da
  | .none => opt ((kitB "NoneType" T).map PyData.bool)
  | .bool _ => opt ((kitB "bool" T).map PyData.bool)
  | .int _ => opt ((kitB "int" T).map PyData.bool)
  | .str _ => opt ((kitB "str" T).map PyData.bool)
  | .list _ => opt ((kitB "list" T).map PyData.bool)
  | .tuple _ => opt ((kitB "tuple" T).map PyData.bool)
  | _ => .bad
theorem ls_tyX {K : PySem.W.Frag} {H : Hp} {a : Addr} {xs : List V} (h : Ls K H a xs) : TyX K H (.ref a) (.type "list") := by
  rcases h with (h | ⟨o, h⟩) | ⟨its, n, h, _⟩
  · exact .base (.lst h)
  · exact .base (.frz h)
  · exact .kList h rfl
theorem sqt_tyX {K : PySem.W.Frag} {H : Hp} {a : Addr} {xs : List V} (h : SqT K H a xs) : TyX K H (.ref a) (.type "tuple") := by
  rcases h with (h | ⟨o, h⟩) | ⟨o, its, n, h, hc, _⟩
  · exact .base (.tup h)
  · exact .fTuple h
  · exact .kTuple h hc
theorem ev_isTy {px p1 : Pos} {x2 : Str} (hg : Gl X "isinstance") (hm : X.mg "isinstance" = none) (hg2 : Gl X x2) (hm2 : X.mg x2 = none) (hv2 : bootBuiltins x2 = some (.type T)) (ha : EV X W false a fa) (hn : x2 ≠ "__name__" := by decide) (hdb : (x2 == ("__debug__" : Str)) = false := by decide)
    (he : starEach [a, .Name x2 p1] X.env = (false, eval a X.env) :: starEach [.Name x2 p1] X.env := by rfl) (hpl : (backTo pos (starEach [.Name x2 p1] X.env)).any (·.1) = false := by rfl) (he2 : starEach [.Name x2 p1] X.env = (false, eval (.Name x2 p1) X.env) :: starEach [] X.env := by rfl) :
    EV X W c (.Call (.Name "isinstance" px) [a, .Name x2 p1] [] pos) (e1 (isTy T) fa) :=
  pe_imp (pe_callB call_isi hg hm (by decide +kernel) (pa_cons ha (pa_cons (pe_bltn (v := V.ty T) hg2 hm2 hv2 rfl hn hdb) pa_nil he2) he) (by decide) (by decide) he hpl) fun σ H Q ⟨H0, Z, G, ρ, S, h⟩ => by
    refine ⟨H0, Z, G, ρ, S, (Arm.bind h).imp fun v H1 ⟨e1, d, hd, h1⟩ => ?_⟩
    have key : ∀ {t : String}, TyX X.K H1 v (.type t) → Arm X W (kV c) Z ρ σ (opt ((kitB t T).map PyData.bool)) H1 Q → rIsi X.K [v, V.ty T] H1 Q := fun {t} ty q => by
      cases k : kitB t T with
      | none =>
        rw [k] at q
        exact q.elim
      | some b =>
        rw [k] at q
        exact ⟨v, _, _, _, b, rfl, .ty T, ty, kit_ty k, q _ H1 (Same.refl _) (.bl b)⟩
    have hd' : Vr X.K (hide Z H1) v d := hd
    cases hd' with
    | non => exact key (.base .non) h1
    | bl b => exact key (.base (.bl b)) h1
    | int i => exact key (.base (.int i)) h1
    | str x => exact key (.base (.str x)) h1
    | lst h2 _ => exact key (ls_tyX (ls_same hide_sub h2)) h1
    | tup h2 _ => exact key (sqt_tyX (sqt_same hide_sub h2)) h1
/-! new lists by built-ins -/
def eLs (f : En → R (List Da)) : En → R (List Da) := f
theorem ef_list (hg : Gl X "list") (hm : X.mg "list" = none) (ha : ES X W e fl) (he : starEach [e] X.env = (false, eval e X.env) :: starEach [] X.env := by rfl) : EF X W (.Call (.Name "list" p) [e] [] pos) fl :=
  pe_imp (pe_callTy call_list_of hg hm (by decide +kernel) (pa_cons ha pa_nil he) (by decide) (by decide) he rfl) fun σ H Q ⟨H0, Z, G, ρ, S, h⟩ => by
    refine ⟨H0, Z, G, ρ, S, ?_⟩
    cases k : fl ρ with
    | ok ds =>
      rw [k] at h
      refine fun v H1 e1 ⟨a, vs, hv, h1, h2⟩ => ⟨a, vs, by rw [hv], .inl (ls_same hide_sub h1).sq, fun p hp => ?_⟩
      exact h _ _ (e1.trans (same_upd hp)) (newF (S.grow e1) e1 h2 hp)
    | err x i =>
      rw [k] at h
      exact h
    | bad =>
      rw [k] at h
      exact h
end
end VL
namespace VL
open PySem PySem.Spec PyProof.Rows L2

/-! ### statements -/
inductive Fl where
  | nx | bk | ct | rt (d : Da)
inductive SRs where
  | go (f : Fl) (ρ : En) | er (c : Str) (i : Int) (ρ : En) | bad
def sB {α : Type} (r : R α) (ρ : En) (k : α → SRs) : SRs := match r with
  | .ok a => k a
  | .err c i => .er c i ρ
  | .bad => .bad
def RetOk (K : PySem.W.Frag) (fr : Bool) (H0 : Hp) (Z : Addr → Prop) (H : Hp) (v : V) (d : Da) : Prop := match fr with
  | false => Vr K (hide Z H) v d
  | true => match d with
    | .list ds => ∃ p vs, v = .ref p ∧ H0 p = none ∧ H p = some (.lst vs) ∧ Vrs K (hide (fun a => Z a ∨ a = p) H) vs ds
    | d => Vr K (hide Z H) v d
def SArm (X : Cx) (W : WX) (fr : Bool) (H0 : Hp) (Z : Addr → Prop) (G : Gh) (D : Ends) (r : SRs) : Prop := match r with
  | .go .nx ρ => ∀ σ H, SR X.bx H0 Z G ρ σ H → D.nx σ H
  | .go .bk ρ => ∀ σ H, SR X.bx H0 Z G ρ σ H → D.bk σ H
  | .go .ct ρ => ∀ σ H, SR X.bx H0 Z G ρ σ H → D.ct σ H
  | .go (.rt d) _ => ∀ v H, Same H0 H → RetOk X.K fr H0 Z H v d → D.rt v H
  | .er c i ρ => ∀ cls dd σ H, SR X.bx H0 Z G ρ σ H → Err X.mg c i cls dd H → W cls dd σ H
  | .bad => False
def tS (X : Cx) (W : WX) (fr : Bool) (f : En → SRs) : TS := fun D σ H => ∃ H0 Z G ρ, SR X.bx H0 Z G ρ σ H ∧ SArm X W fr H0 Z G D (f ρ)
abbrev SV (X : Cx) (W : WX) (fr : Bool) (st : Stmt) (f : En → SRs) : Prop := PS X st (tS X W fr f)
abbrev BV (X : Cx) (W : WX) (fr : Bool) (st : List Stmt) (f : En → SRs) : Prop := PSs X st (tS X W fr f)
section
variable {X : Cx} {W : WX} {fr c : Bool} {a b e : Expr} {es : List Expr} {st : Stmt} {sts bd : List Stmt} {fa fb : En → R Da} {ft fu : En → R Bool} {fl fm : En → R (List Da)} {f g : En → SRs} {pos : Pos} {n : Nat}
theorem ps_imp {t t' : TS} (h : PS X st t) (i : ∀ D σ H, t' D σ H → t D σ H) : PS X st t' := ⟨fun pins s σ H D I q => h.run pins s σ H D I (i D σ H q)⟩
theorem pss_imp {t t' : TS} (h : PSs X sts t) (i : ∀ D σ H, t' D σ H → t D σ H) : PSs X sts t' := ⟨fun pins s σ H D I q => h.run pins s σ H D I (i D σ H q)⟩
theorem SArm.bind {α β : Type} {k : Kd α β} {H0 H : Hp} {Z : Addr → Prop} {G : Gh} {ρ : En} {σ : Sg} {D : Ends} {r : R α} {q : α → SRs} (S : SR X.bx H0 Z G ρ σ H) (h : SArm X W fr H0 Z G D (sB r ρ q)) :
    Arm X W k Z ρ σ r H (fun v H1 => Same H H1 ∧ ∃ d, k.P X.K Z ρ σ H d v H1 ∧ SArm X W fr H0 Z G D (q d)) := by
  cases r with
  | ok d => exact fun v H' e hp => ⟨e, d, hp, h⟩
  | err c i => exact fun cls dd H' e he => h cls dd σ H' (S.grow e) he
  | bad => exact h
/-- blocks -/
def sNil : En → SRs := fun ρ => .go .nx ρ
def sSeq (f g : En → SRs) : En → SRs := fun ρ => match f ρ with
  | .go .nx ρ' => g ρ'
  | r => r
theorem bv_nil : BV X W fr [] sNil := pss_imp pss_nil fun D σ H ⟨H0, Z, G, ρ, S, h⟩ => h σ H S
theorem bv_cons (h1 : SV X W fr st f) (h2 : BV X W fr sts g) : BV X W fr (st :: sts) (sSeq f g) := pss_imp (pss_cons h1 h2) fun D σ H ⟨H0, Z, G, ρ, S, h⟩ => by
  refine ⟨H0, Z, G, ρ, S, ?_⟩
  unfold sSeq at h
  cases r : f ρ with
  | go fl ρ' =>
    rw [r] at h
    cases fl with
    | nx => exact fun σ' H' S' => ⟨H0, Z, G, ρ', S', h⟩
    | bk => exact h
    | ct => exact h
    | rt d => exact h
  | er c i ρ' =>
    rw [r] at h
    exact h
  | bad =>
    rw [r] at h
    exact h
/-- an own list is let go ahead of a statement -/
theorem sv_fz {i : Nat} (h : SV X W fr st f) : SV X W fr st (fun ρ => f (fz i ρ)) := ps_imp h fun D σ H ⟨H0, Z, G, ρ, S, q⟩ => ⟨H0, Z, G, fz i ρ, S.fz, q⟩
theorem sv_pass : SV X W fr (.Pass pos) sNil := ps_imp ps_pass fun D σ H ⟨H0, Z, G, ρ, S, h⟩ => h σ H S
def sBrk : En → SRs := fun ρ => .go .bk ρ
def sCnt : En → SRs := fun ρ => .go .ct ρ
theorem sv_break : SV X W fr (.Break pos) sBrk := ps_imp ps_break fun D σ H ⟨H0, Z, G, ρ, S, h⟩ => h σ H S
theorem sv_continue : SV X W fr (.Continue pos) sCnt := ps_imp ps_continue fun D σ H ⟨H0, Z, G, ρ, S, h⟩ => h σ H S
theorem sv_doc {x : Str} {j : Nat} {pos' : Pos} : SV X W fr (.Expr (.Constant (.str x) j pos) pos') sNil := ps_imp ps_doc fun D σ H ⟨H0, Z, G, ρ, S, h⟩ => h σ H S
def sDo (f : En → R Da) : En → SRs := fun ρ => sB (f ρ) ρ fun _ => .go .nx ρ
theorem sv_expr (h : EV X W c e fa) (hs : swapsWith e none pos.line X.env = pure false := by rfl) : SV X W fr (.Expr e pos) (sDo fa) := ps_imp (ps_expr h hs) fun D σ H ⟨H0, Z, G, ρ, S, h⟩ => by
  refine ⟨H0, Z, G, ρ, S, (SArm.bind S h).imp fun v H1 ⟨e1, d, hd, h1⟩ => ?_⟩
  exact h1 σ H1 (S.grow e1)
def sRet (f : En → R Da) : En → SRs := fun ρ => sB (f ρ) ρ fun d => .go (.rt d) ρ
theorem sv_ret (h : EV X W true e fa) : SV X W false (.Return (some e) pos) (sRet fa) := ps_imp (ps_ret h) fun D σ H ⟨H0, Z, G, ρ, S, h⟩ => by
  refine ⟨H0, Z, G, ρ, S, (SArm.bind S h).imp fun v H1 ⟨e1, d, hd, h1⟩ => ?_⟩
  exact h1 v H1 (S.base.trans e1) (vr_same (hide_to fun a o h n => ⟨fun z => n (.inl z), h⟩) hd)
theorem sv_retN : SV X W false (.Return none pos) (fun ρ => .go (.rt .none) ρ) := ps_imp ps_retN fun D σ H ⟨H0, Z, G, ρ, S, h⟩ => h .non H S.base .non
def sRetF (f : En → R (List Da)) : En → SRs := fun ρ => sB (f ρ) ρ fun d => .go (.rt (.list d)) ρ
theorem sv_retF (h : EF X W e fl) : SV X W true (.Return (some e) pos) (sRetF fl) := ps_imp (ps_ret h) fun D σ H ⟨H0, Z, G, ρ, S, h⟩ => by
  refine ⟨H0, Z, G, ρ, S, (SArm.bind S h).imp fun v H1 ⟨e1, d, ⟨p, vs, k1, k2, k3, k4⟩, h1⟩ => ?_⟩
  exact h1 v H1 (S.base.trans e1) ⟨p, vs, k1, S.base.free k2, k3, vrs_same (hide_to fun a o h n => ⟨fun z => n (z.imp .inl id), h⟩) k4⟩
def sRetO (i : Nat) : En → SRs := fun ρ => match ρ[i]? with
  | some (.own ds) => .go (.rt (.list ds)) ρ
  | _ => .bad
theorem sv_retO {i : Nat} {x : Str} {p : Pos} (h : PE X (.Name x p) (tVar i)) : SV X W true (.Return (some (.Name x p)) pos) (sRetO i) := ps_imp (ps_ret h) fun D σ H ⟨H0, Z, G, ρ, S, h⟩ => by
  unfold sRetO at h
  split at h
  next ds hd =>
    obtain ⟨a, vs, h1, h2, h3, h4, h5⟩ := S.own i ds hd
    refine ⟨_, h1, h _ H S.base ⟨a, vs, rfl, h2, h4, vrs_same (hide_to fun b o h n => ⟨fun z => n (z.elim .inl fun y => .inr ⟨i, ds, hd, ?_⟩), h⟩) h5⟩⟩
    rw [y]
    exact h1
  next => exact h.elim
/-- no list, by a def that hands out new lists -/
def noL : Da → Bool
  | .list _ => false
  | _ => true
def sRetX (f : En → R Da) : En → SRs := fun ρ => sB (f ρ) ρ fun d => if noL d = true then .go (.rt d) ρ else .bad
theorem sv_retX (h : EV X W true e fa) : SV X W true (.Return (some e) pos) (sRetX fa) := ps_imp (ps_ret h) fun D σ H ⟨H0, Z, G, ρ, S, h⟩ => by
  refine ⟨H0, Z, G, ρ, S, (SArm.bind S h).imp fun v H1 ⟨e1, d, hd, h1⟩ => ?_⟩
  have h1' : SArm X W true H0 Z G D (if noL d = true then .go (.rt d) ρ else .bad) := h1
  by_cases z : noL d = true
  · rw [if_pos z] at h1'
    refine h1' v H1 (S.base.trans e1) ?_
    have hv := vr_same (hide_to fun a o h n => ⟨fun z => n (.inl z), h⟩) hd
    cases d with
    | list ds => exact absurd z (by simp [noL])
    | _ => exact hv
  · rw [if_neg z] at h1'
    exact h1'.elim
theorem sv_retNX : SV X W true (.Return none pos) (fun ρ => .go (.rt .none) ρ) := ps_imp ps_retN fun D σ H ⟨H0, Z, G, ρ, S, h⟩ => h .non H S.base .non
def sSet (i : Nat) (f : En → R Da) : En → SRs := fun ρ => sB (f ρ) ρ fun d => .go .nx (ρ.set i (.val d))
def sSetF (i : Nat) (f : En → R (List Da)) : En → SRs := fun ρ => sB (f ρ) ρ fun d => .go .nx (ρ.set i (.own d))
theorem set_of {i : Nat} {D : Ends} {σ : Sg} {H : Hp} (h : tS X W fr (sSet i fa) D σ H) : J X W (kV true) fa σ H fun v H1 => gName i v σ H1 D.nx := by
  obtain ⟨H0, Z, G, ρ, S, h⟩ := h
  exact ⟨H0, Z, G, ρ, S, (SArm.bind S h).imp fun v H1 ⟨e1, d, hd, h1⟩ => h1 _ H1 ((S.grow e1).set_val hd)⟩
theorem setF_of {i : Nat} {D : Ends} {σ : Sg} {H : Hp} (h : tS X W fr (sSetF i fl) D σ H) : J X W kF fl σ H fun v H1 => gName i v σ H1 D.nx := by
  obtain ⟨H0, Z, G, ρ, S, h⟩ := h
  refine ⟨H0, Z, G, ρ, S, (SArm.bind S h).imp fun v H1 ⟨e1, d, ⟨p, vs, k1, k2, k3, k4⟩, h1⟩ => ?_⟩
  subst k1
  exact h1 _ H1 (S.set_own e1 k2 k3 k4)
theorem sv_set {i : Nat} {x : Str} {pos' : Pos} (hN : X.N.Nodup) (hi : X.N[i]? = some x) (hx : Loc X.env.scope x) (he : EV X W true e fa) (hs : swapsWith e (some (.Name x pos')) pos.line X.env = pure false := by rfl)
    (hf : X.fn x = true ∨ X.env.scope.names.lookup x = some .local := by first | exact .inl rfl | exact .inr rfl | assumption) : SV X W fr (.Assign [.Name x pos'] e pos) (sSet i fa) :=
  ps_imp (ps_set hN hi hx he hs hf) fun D σ H h => set_of h
theorem sv_setF {i : Nat} {x : Str} {pos' : Pos} (hN : X.N.Nodup) (hi : X.N[i]? = some x) (hx : Loc X.env.scope x) (he : EF X W e fl) (hs : swapsWith e (some (.Name x pos')) pos.line X.env = pure false := by rfl)
    (hf : X.fn x = true ∨ X.env.scope.names.lookup x = some .local := by first | exact .inl rfl | exact .inr rfl | assumption) : SV X W fr (.Assign [.Name x pos'] e pos) (sSetF i fl) :=
  ps_imp (ps_set hN hi hx he hs hf) fun D σ H h => setF_of h
def sIf (t : En → R Bool) (f g : En → SRs) : En → SRs := fun ρ => sB (t ρ) ρ fun b => match b with
  | true => f ρ
  | false => g ρ
theorem sv_if {t : Expr} (ht : TV X W t ft) (ha : BV X W fr sts f) (hb : BV X W fr bd g) : SV X W fr (.If t sts bd pos) (sIf ft f g) := ps_imp (ps_if ht ha hb) fun D σ H ⟨H0, Z, G, ρ, S, h⟩ => by
  refine ⟨H0, Z, G, ρ, S, (SArm.bind S h).imp fun v H1 ⟨e1, d, hd, h1⟩ => ?_⟩
  cases hd
  cases v with
  | true => exact iteT ⟨H0, Z, G, ρ, S.grow e1, h1⟩
  | false => exact iteF ⟨H0, Z, G, ρ, S.grow e1, h1⟩

/-! ### targets -/
def TG' (B : Bx) (L : List Nat) (g : Da → En → R En) : TG := fun v σ H Q => ∃ H0 Z G ρ d, SR B H0 Z G ρ σ H ∧ Vr B.K (hide (hid Z ρ σ) H) v d ∧ match g d ρ with
  | .ok ρ' => ∀ σ' : Sg, SR B H0 Z G ρ' σ' H → (σ'.length = σ.length ∧ ∀ j : Nat, j ∉ L → σ'[j]? = σ[j]? ∧ ρ'[j]? = ρ[j]?) → (∀ a, hid Z ρ' σ' a → hid Z ρ σ a) → Q σ' H
  | _ => False
def TGs' (B : Bx) (L : List Nat) (g : List Da → En → R En) : TGs := fun vs σ H Q => ∃ H0 Z G ρ ds, SR B H0 Z G ρ σ H ∧ Vrs B.K (hide (hid Z ρ σ) H) vs ds ∧ match g ds ρ with
  | .ok ρ' => ∀ σ' : Sg, SR B H0 Z G ρ' σ' H → (σ'.length = σ.length ∧ ∀ j : Nat, j ∉ L → σ'[j]? = σ[j]? ∧ ρ'[j]? = ρ[j]?) → (∀ a, hid Z ρ' σ' a → hid Z ρ σ a) → Q σ' H
  | _ => False
abbrev GV (X : Cx) (L : List Nat) (tg : Expr) (g : Da → En → R En) : Prop := PG X tg (TG' X.bx L g)
abbrev GsV (X : Cx) (L : List Nat) (ts : List Expr) (g : List Da → En → R En) : Prop := PGs X ts (TGs' X.bx L g)
def gNm (i : Nat) : Da → En → R En := fun d ρ => .ok (ρ.set i (.val d))
def gsNil : List Da → En → R En
  | [], ρ => .ok ρ
  | _ :: _, _ => .bad
def gsCons (g : Da → En → R En) (r : List Da → En → R En) : List Da → En → R En
  | [], _ => .bad
  | d :: ds, ρ => (g d ρ).bind fun ρ' => r ds ρ'
def gTp (n : Nat) (g : List Da → En → R En) : Da → En → R En
  | .tuple ds, ρ => if ds.length = n then g ds ρ else .bad
  | _, _ => .bad
theorem gv_name {i : Nat} {x : Str} (hN : X.N.Nodup) (hi : X.N[i]? = some x) (hx : Loc X.env.scope x) (hf : X.fn x = true ∨ X.env.scope.names.lookup x = some .local := by first | exact .inl rfl | exact .inr rfl | assumption) : GV X [i] (.Name x pos) (gNm i) := by
  refine ⟨fun pins s σ H v u Q I r ⟨H0, Z, G, ρ, d, S, hv, h⟩ => ?_⟩
  refine (pg_name (pos := pos) hN hi hx hf).run pins s σ H v u Q I r ?_
  exact h _ (S.set_val hv) ⟨by simp, fun j hj => ⟨List.getElem?_set_ne fun e => hj (by rw [e]; exact List.mem_cons_self), List.getElem?_set_ne fun e => hj (by rw [e]; exact List.mem_cons_self)⟩⟩ fun a z => z.imp id ownAt_set_val
theorem gsv_nil : GsV X [] [] gsNil := ⟨fun pins s σ H vs us Q I r ⟨H0, Z, G, ρ, ds, S, hv, h⟩ => by
  cases hv with
  | nil => exact pgs_nil.run pins s σ H _ us Q I r ⟨rfl, h σ S ⟨rfl, fun j _ => ⟨rfl, rfl⟩⟩ fun a z => z⟩
  | cons _ _ => exact h.elim⟩
theorem gsv_cons {L M : List Nat} {g : Da → En → R En} {r : List Da → En → R En} (h1 : GV X L e g) (h2 : GsV X M es r) (hs : (assignEach (e :: es) X.env).map (·.2) = assign e X.env :: (assignEach es X.env).map (·.2) := by rfl) : GsV X (L ++ M) (e :: es) (gsCons g r) :=
  ⟨fun pins s σ H vs us Q I rv ⟨H0, Z, G, ρ, ds, S, hv, h⟩ => by
    cases hv with
    | nil => exact h.elim
    | @cons v ws d ds k1 k2 =>
      refine (pgs_cons h1 h2 hs).run pins s σ H _ us Q I rv ⟨v, ws, rfl, H0, Z, G, ρ, d, S, k1, ?_⟩
      have h' : match (g d ρ).bind fun ρ' => r ds ρ' with
        | .ok ρ' => ∀ σ' : Sg, SR X.bx H0 Z G ρ' σ' H → (σ'.length = σ.length ∧ ∀ j : Nat, j ∉ L ++ M → σ'[j]? = σ[j]? ∧ ρ'[j]? = ρ[j]?) → (∀ a, hid Z ρ' σ' a → hid Z ρ σ a) → Q σ' H
        | _ => False := h
      cases q : g d ρ with
      | ok ρ1 =>
        rw [q] at h'
        refine fun σ1 S1 o1 m1 => ⟨H0, Z, G, ρ1, ds, S1, vrs_same (hide_to fun a o y n => ⟨fun z => n (m1 a z), y⟩) k2, ?_⟩
        have h2' : match r ds ρ1 with
          | .ok ρ' => ∀ σ' : Sg, SR X.bx H0 Z G ρ' σ' H → (σ'.length = σ.length ∧ ∀ j : Nat, j ∉ L ++ M → σ'[j]? = σ[j]? ∧ ρ'[j]? = ρ[j]?) → (∀ a, hid Z ρ' σ' a → hid Z ρ σ a) → Q σ' H
          | _ => False := h'
        cases q2 : r ds ρ1 with
        | ok ρ2 =>
          rw [q2] at h2'
          exact fun σ2 S2 o2 m2 => h2' σ2 S2 ⟨o2.1.trans o1.1, fun j hj => ⟨(o2.2 j fun z => hj (List.mem_append_right _ z)).1.trans (o1.2 j fun z => hj (List.mem_append_left _ z)).1, (o2.2 j fun z => hj (List.mem_append_right _ z)).2.trans (o1.2 j fun z => hj (List.mem_append_left _ z)).2⟩⟩ fun a z => m1 a (m2 a z)
        | err c i =>
          rw [q2] at h2'
          exact h2'
        | bad =>
          rw [q2] at h2'
          exact h2'
      | err c i =>
        rw [q] at h'
        exact h'
      | bad =>
        rw [q] at h'
        exact h'⟩
theorem gv_tup {L : List Nat} {k : Nat} {r : List Da → En → R En} {n : Nat} (hc : X.calm = true) (h : GsV X L es r) (hn : (assignEach es X.env).length = n := by rfl) (hst : (assignEach es X.env).findIdx? (·.1) = none := by rfl) :
    GV X L (.Tuple es k pos) (gTp n r) := ⟨fun pins s σ H v u Q I rv ⟨H0, Z, G, ρ, d, S, hv, q⟩ => by
  cases hv with
  | @tup a xs ds h1 h2 =>
    refine (pg_tup (pos := pos) (k := k) hc h hn hst).run pins s σ H _ u Q I rv ⟨a, xs, rfl, sqt_same hide_sub h1, ?_⟩
    have q' : match (if ds.length = n then r ds ρ else R.bad) with
      | .ok ρ' => ∀ σ' : Sg, SR X.bx H0 Z G ρ' σ' H → (σ'.length = σ.length ∧ ∀ j : Nat, j ∉ L → σ'[j]? = σ[j]? ∧ ρ'[j]? = ρ[j]?) → (∀ a, hid Z ρ' σ' a → hid Z ρ σ a) → Q σ' H
      | _ => False := q
    by_cases e : ds.length = n
    · rw [if_pos e] at q'
      exact ⟨(vrs_len h2).trans e, H0, Z, G, ρ, ds, S, h2, q'⟩
    · rw [if_neg e] at q'
      exact q'.elim
  | _ => exact q.elim⟩
/-- target = value, the target a pattern of names -/
def sPat (g : Da → En → R En) (f : En → R Da) : En → SRs := fun ρ => sB (f ρ) ρ fun d => match g d ρ with
  | .ok ρ' => .go .nx ρ'
  | _ => .bad
theorem sv_pat {L : List Nat} {tg : Expr} {g : Da → En → R En} (he : EV X W true e fa) (hg : GV X L tg g) (hs : swapsWithSole [tg] e pos.line X.env = pure false := by rfl) (hw : swappedStores [tg] e X.env = pure none := by rfl)
    (h1 : (assignEach [tg] X.env).map (·.2) = [assign tg X.env] := by rfl) : SV X W fr (.Assign [tg] e pos) (sPat g fa) := ps_imp (ps_asg he hg hs hw h1) fun D σ H ⟨H0, Z, G, ρ, S, h⟩ => by
  refine ⟨H0, Z, G, ρ, S, (SArm.bind S h).imp fun v H1 ⟨e1, d, hd, h1⟩ => ⟨H0, Z, G, ρ, d, S.grow e1, hd, ?_⟩⟩
  cases q : g d ρ with
  | ok ρ1 =>
    rw [q] at h1
    exact fun σ' S' _ _ => h1 σ' H1 S'
  | err c i =>
    rw [q] at h1
    exact h1
  | bad =>
    rw [q] at h1
    exact h1
end
end VL
namespace VL
open PySem PySem.Spec PyProof.Rows L2
section
variable {X : Cx} {W : WX} {fr c : Bool} {a b e : Expr} {es : List Expr} {st : Stmt} {sts bd : List Stmt} {fa fb : En → R Da} {ft fu : En → R Bool} {fl fm : En → R (List Da)} {f g : En → SRs} {pos : Pos} {n : Nat}

/-! ### changes of own lists -/
def kApp (d : Da) : List Da → R (List Da) := fun ds => if ds.length < lim then .ok (ds ++ [d]) else .bad
def kExt (es : List Da) : List Da → R (List Da) := fun ds => if ds.length + es.length ≤ lim then .ok (ds ++ es) else .bad
def kSet (z : Da) (d : Da) : List Da → R (List Da) := fun ds => match z with
  | .int z => (opt (ixN ds.length z)).bind fun j => .ok (ds.set j d)
  | _ => .bad
def sMut (i : Nat) (k : En → R (List Da → R (List Da))) : En → SRs := fun ρ => match ρ[i]? with
  | some (.own ds) => sB (k ρ) ρ fun h => sB (h ds) ρ fun es => .go .nx (ρ.set i (.own es))
  | _ => .bad
def eApp (f : En → R Da) : En → R (List Da → R (List Da)) := fun ρ => (f ρ).bind fun d => .ok (kApp d)
def eExt (f : En → R (List Da)) : En → R (List Da → R (List Da)) := fun ρ => (f ρ).bind fun d => .ok (kExt d)
def eSet (fz fd : En → R Da) : En → R (List Da → R (List Da)) := fun ρ => (fd ρ).bind fun d => (fz ρ).bind fun z => .ok (kSet z d)
def sApp (i : Nat) (f : En → R Da) : En → SRs := sMut i (eApp f)
theorem sv_app {i : Nat} {x : Str} {p apos cpos : Pos} (hx : PE X (.Name x p) (tVar i)) (he : EV X W true e fa)
    (hs : swapsWith (.Call (.Attribute (.Name x p) "append" apos) [e] [] cpos) none pos.line X.env = pure false := by rfl)
    (hbase : attributeBase (.Name x p) "append" X.env (eval (.Name x p) X.env) = eval (.Name x p) X.env := by rfl)
    (hfew : ((backTo cpos (starEach (e :: []) X.env)).all (fun x => !x.1) && (backToKw cpos (keywordEach [] X.env)).all (fun x => x.1.isSome) && decide ((e :: []).length + ([] : List Keyword).length + (if ([] : List Keyword).isEmpty then 0 else 1) < 30)) = true := by rfl)
    (hline : (apos.endLine == cpos.line) = true := by rfl) (hst : starEach (e :: []) X.env = (false, eval e X.env) :: starEach [] X.env := by rfl) (hplain : (backTo cpos (starEach [] X.env)).any (·.1) = false := by rfl) :
    SV X W fr (.Expr (.Call (.Attribute (.Name x p) "append" apos) [e] [] cpos) pos) (sApp i fa) :=
  ps_imp (ps_expr (pe_bm PySem.F.plainAttrs_list PySem.F.slot_list_append PySem.F.type_list_append mt_append hx (pa_cons he pa_nil hst) hbase hfew hline hst hplain) hs) fun D σ H ⟨H0, Z, G, ρ, S, h⟩ => by
    unfold sApp sMut at h
    split at h
    next ds hi =>
      obtain ⟨a, vs, h1, h2, h3, h4, h5⟩ := S.own i ds hi
      refine ⟨.ref a, h1, .inl ⟨rfl, vs, SqL.of h4⟩, H0, Z, G, ρ, S, ?_⟩
      unfold eApp at h
      cases q : fa ρ with
      | ok d =>
        rw [q] at h
        intro v H1 e1 hv
        have h' : SArm X W fr H0 Z G D (sB (kApp d ds) ρ fun es => .go .nx (ρ.set i (.own es))) := h
        by_cases hl : ds.length < lim
        · rw [show kApp d ds = .ok (ds ++ [d]) from if_pos hl] at h'
          refine ⟨a, vs, v, rfl, rfl, e1 _ _ h4, ?_, ?_⟩
          · rw [vrs_len h5, lim_eq]
            exact hl
          · exact h' σ _ ((S.grow e1).mut hi h1 (vrs_app (vrs_same (hide_grow e1) h5) (.cons hv .nil)))
        · rw [show kApp d ds = .bad from if_neg hl] at h'
          exact h'.elim
      | err c i =>
        rw [q] at h
        exact fun cls dd H1 e1 he => h cls dd σ H1 (S.grow e1) he
      | bad =>
        rw [q] at h
        exact h
    next => exact h.elim
def sSetIx (i : Nat) (fz fd : En → R Da) : En → SRs := fun ρ => sB (fd ρ) ρ fun d => match ρ[i]? with
  | some (.own ds) => sB (fz ρ) ρ fun z => sB (kSet z d ds) ρ fun es => .go .nx (ρ.set i (.own es))
  | _ => .bad
theorem sv_setix {i : Nat} {x : Str} {p tpos : Pos} (hx : PE X (.Name x p) (tVar i)) (hz : EV X W false a fa) (he : EV X W true e fb)
    (ha : ∀ v, assign (.Subscript (.Name x p) a tpos) X.env v = (do
      let ov ← holding [v] (eval (.Name x p) X.env)
      let iv ← holding [v, ov] (eval a X.env)
      standAt tpos
      holding [v, ov, iv] (setItem ov iv v)
      release [v, ov, iv] []) := by intro _; rfl)
    (hs : swapsWithSole [.Subscript (.Name x p) a tpos] e pos.line X.env = pure false := by rfl) (hw : swappedStores [.Subscript (.Name x p) a tpos] e X.env = pure none := by rfl)
    (h1 : (assignEach [.Subscript (.Name x p) a tpos] X.env).map (·.2) = [assign (.Subscript (.Name x p) a tpos) X.env] := by rfl) :
    SV X W fr (.Assign [.Subscript (.Name x p) a tpos] e pos) (sSetIx i fa fb) :=
  ps_imp (ps_asg he (pg_sub hx hz set_list ha) hs hw h1) fun D σ H ⟨H0, Z, G, ρ, S, h⟩ => by
    refine ⟨H0, Z, G, ρ, S, (SArm.bind S h).imp fun v H1 ⟨e1, d, hd, h1⟩ => ?_⟩
    have S1 := S.grow e1
    split at h1
    next ds hi =>
      obtain ⟨a, vs, k1, k2, k3, k4, k5⟩ := S1.own i ds hi
      refine ⟨.ref a, k1, H0, Z, G, ρ, S1, (SArm.bind S1 h1).imp fun k H2 ⟨e2, z, hz, h2⟩ => ?_⟩
      have S2 := S1.grow e2
      have h2' : SArm X W fr H0 Z G D (sB (kSet z d ds) ρ fun es => .go .nx (ρ.set i (.own es))) := h2
      have hz' : Vr X.K (hide Z H2) k z := hz
      cases hz' with
      | int z =>
        have h3 : SArm X W fr H0 Z G D (sB ((opt (ixN ds.length z)).bind fun j => .ok (ds.set j d)) ρ fun es => .go .nx (ρ.set i (.own es))) := h2'
        cases q : ixN ds.length z with
        | none =>
          rw [q] at h3
          exact h3.elim
        | some j =>
          rw [q] at h3
          exact ⟨a, vs, z, j, rfl, rfl, e2 _ _ k4, by rw [vrs_len k5]; exact q, h3 σ _ (S2.mut hi k1 (vrs_set (vr_same (hide_grow e2) hd) j (vrs_same (hide_grow e2) k5)))⟩
      | _ => exact h2'.elim
    next => exact h1.elim
/-- name += e, ints -/
def sAug (i : Nat) (g : Da → Da → R Da) (f : En → R Da) : En → SRs := fun ρ => match ρ[i]? with
  | some (.val x) => sB (f ρ) ρ fun y => sB (g x y) ρ fun z => .go .nx (ρ.set i (.val z))
  | _ => .bad
theorem sv_aug {F : Int → Int → Int} {op : Operator} {i : Nat} {x : Str} {pos' : Pos} (ho : PIp X op (ipI F)) (hN : X.N.Nodup) (hi : X.N[i]? = some x) (hx : Loc X.env.scope x) (he : EV X W false e fa) (hf : X.fn x = true ∨ X.env.scope.names.lookup x = some .local := by first | exact .inl rfl | exact .inr rfl | assumption) :
    SV X W fr (.AugAssign (.Name x pos') op e pos) (sAug i (dI2 fun i j => .ok (.int (F i j))) fa) := ps_imp (ps_aug hN hi hx he ho hf) fun D σ H ⟨H0, Z, G, ρ, S, h⟩ => by
  unfold sAug at h
  split at h
  next d hd =>
    obtain ⟨v, h1, h2⟩ := S.val i d hd
    refine ⟨v, h1, H0, Z, G, ρ, S, (SArm.bind S h).imp fun u H1 ⟨e1, y, hy, q⟩ => ?_⟩
    have hy' : Vr X.K (hide Z H1) u y := hy
    cases h2 with
    | int k =>
      cases hy' with
      | int m => exact ⟨k, m, rfl, rfl, q _ H1 ((S.grow e1).set_val (.int _))⟩
      | _ => exact q.elim
    | _ => cases hy' <;> exact q.elim
  next => exact h.elim
theorem sv_augAdd {i : Nat} {x : Str} {pos' : Pos} (hN : X.N.Nodup) (hi : X.N[i]? = some x) (hx : Loc X.env.scope x) (he : EV X W false e fa) (hf : X.fn x = true ∨ X.env.scope.names.lookup x = some .local := by first | exact .inl rfl | exact .inr rfl | assumption) :
    SV X W fr (.AugAssign (.Name x pos') .Add e pos) (sAug i dAdd fa) := sv_aug ip_add hN hi hx he hf

/-! ### what is walked -/
def Walks (K : PySem.W.Frag) (J : It) (rs : Gh) (ds : List Da) : Prop := ∀ (i : Nat) (H : Hp) (N : Addr → Prop), (∀ a, N a → H a ≠ none) → (∀ g ∈ rs, g.p K H (hide N H)) →
  (ds.length ≤ i → J.stop i H) ∧ ∀ d, ds[i]? = some d → J.go i H ∧ ∀ x H', J.yld i H x H' → Same H H' ∧ Vr K (hide N H') x d
def kI (c : Bool) : Kd (List Da) It := ⟨fun K Z ρ σ _ ds J H' => ∃ rs : Gh, Walks K J rs ds ∧ (∀ g ∈ rs, g.p K (hide (lv c Z ρ σ) H') (hide (hid Z ρ σ) H')) ∧ ((∀ g ∈ rs, g.len ≤ sizeLine) → ds.length ≤ sizeLine), fun _ _ _ _ _ _ _ _ _ _ h => h⟩
abbrev IV (X : Cx) (W : WX) (c : Bool) (tg e : Expr) (f : En → R (List Da)) : Prop := PI X tg e (J X W (kI c) f)
theorem pi_imp {tg : Expr} {t t' : TI} (h : PI X tg e t) (i : ∀ σ H Q, t' σ H Q → t σ H Q) : PI X tg e t' := ⟨fun pins s σ H Q I q => h.run pins s σ H Q I (i σ H Q q)⟩
theorem walks_list {K : PySem.W.Frag} {a : Addr} {vs : List V} {ds : List Da} : Walks K (Itl K a) [ghL a vs ds] ds := fun i H N hN hr => by
  obtain ⟨h1, h2⟩ := hr _ List.mem_cons_self
  refine ⟨fun hl => ⟨vs, h1.sq, by rw [vrs_len h2]; exact hl⟩, fun d hd => ?_⟩
  obtain ⟨v, g1, g2⟩ := vrs_get h2 hd
  refine ⟨⟨vs, v, h1.sq, g1⟩, fun x H' ⟨y1, y2⟩ => ?_⟩
  subst y1
  have e := (y2 vs h1.sq).symm.trans g1
  cases e
  exact ⟨Same.refl _, g2⟩
def enumD (ds : List Da) : List Da := ds.mapIdx fun i d => .tuple [.int i, d]
theorem fresh_tup {K : PySem.W.Frag} {H : Hp} {N : Addr → Prop} {T : Addr} {xs : List V} {ds : List Da} (hN : ∀ a, N a → H a ≠ none) (hT : H T = none) (h : Vrs K (hide N H) xs ds) : Vr K (hide N (upd H T (.tup xs))) (.ref T) (.tuple ds) :=
  .tup (.inl (.inl (hide_eq.mpr ⟨fun z => hN T z hT, upd_same⟩))) (vrs_same (hide_grow (same_upd hT)) h)
theorem walks_enum {K : PySem.W.Frag} {a : Addr} {vs : List V} {ds : List Da} : Walks K (Ite K a) [ghL a vs ds] (enumD ds) := fun i H N hN hr => by
  obtain ⟨h1, h2⟩ := hr _ List.mem_cons_self
  refine ⟨fun hl => ⟨vs, h1.sq, by rw [vrs_len h2]; simpa [enumD] using hl⟩, fun d hd => ?_⟩
  unfold enumD at hd
  rw [List.getElem?_mapIdx] at hd
  cases q : ds[i]? with
  | none =>
    rw [q] at hd
    cases hd
  | some d0 =>
    rw [q] at hd
    cases hd
    obtain ⟨v, g1, g2⟩ := vrs_get h2 q
    refine ⟨⟨vs, v, h1.sq, g1⟩, fun x H' ⟨T, x0, y1, y2, y3, y4⟩ => ?_⟩
    subst y1 y3
    have e := (y4 vs h1.sq).symm.trans g1
    cases e
    exact ⟨same_upd y2, fresh_tup hN y2 (.cons (.int _) (.cons g2 .nil))⟩
theorem walks_zip {K : PySem.W.Frag} {a b : Addr} {vs ws : List V} {ds es : List Da} : Walks K (Itz K a b) [ghL a vs ds, ghL b ws es] (List.zipWith (fun x y => .tuple [x, y]) ds es) := fun i H N hN hr => by
  obtain ⟨h1, h2⟩ := hr _ List.mem_cons_self
  obtain ⟨k1, k2⟩ := hr _ (List.mem_cons_of_mem _ List.mem_cons_self)
  have l1 := vrs_len h2
  have l2 := vrs_len k2
  refine ⟨fun hl => ⟨vs, ws, h1.sq, k1.sq, ?_⟩, fun d hd => ?_⟩
  · rw [List.length_zipWith] at hl
    omega
  · rw [List.getElem?_zipWith] at hd
    cases q : ds[i]? with
    | none =>
      rw [q] at hd
      cases hd
    | some d0 =>
      cases q2 : es[i]? with
      | none =>
        rw [q, q2] at hd
        cases hd
      | some e0 =>
        rw [q, q2] at hd
        cases hd
        obtain ⟨v, g1, g2⟩ := vrs_get h2 q
        obtain ⟨w, g3, g4⟩ := vrs_get k2 q2
        refine ⟨⟨vs, ws, v, w, h1.sq, k1.sq, g1, g3⟩, fun x H' ⟨T, x0, x1, y1, y2, y3, y4, y5⟩ => ?_⟩
        subst y1 y3
        have e := (y4 vs h1.sq).symm.trans g1
        cases e
        have e := (y5 ws k1.sq).symm.trans g3
        cases e
        exact ⟨same_upd y2, fresh_tup hN y2 (.cons g2 (.cons g4 .nil))⟩
def rngD (lo : Int) (n : Nat) : List Da := (List.range n).map fun (i : Nat) => PyData.int (lo + (i : Int))
theorem walks_range {K : PySem.W.Frag} {lo : Int} {n : Nat} : Walks K (Itr lo n) [] (rngD lo n) := fun i H N hN _ => by
  refine ⟨fun hl => by show n ≤ i; simpa [rngD] using hl, fun d hd => ?_⟩
  unfold rngD at hd
  rw [List.getElem?_map] at hd
  by_cases hi : i < n
  · rw [List.getElem?_range hi] at hd
    cases hd
    refine ⟨hi, fun x H' ⟨y1, y2⟩ => ?_⟩
    subst y1 y2
    exact ⟨Same.refl _, .int _⟩
  · rw [List.getElem?_eq_none (by simpa using hi)] at hd
    cases hd
theorem walks_rev {K : PySem.W.Frag} {a : Addr} {vs : List V} {ds : List Da} : Walks K (Itv K a vs.length) [ghL a vs ds] ds.reverse := fun i H N hN hr => by
  obtain ⟨h1, h2⟩ := hr _ List.mem_cons_self
  have hl := vrs_len h2
  refine ⟨fun h => by rw [List.length_reverse] at h; show vs.length ≤ i; omega, fun d hd => ?_⟩
  have hi : i < ds.length := by
    have := (List.getElem?_eq_some_iff.mp hd).1
    simpa using this
  rw [List.getElem?_reverse hi] at hd
  obtain ⟨v, g1, g2⟩ := vrs_get h2 hd
  rw [← hl] at g1
  refine ⟨⟨by omega, vs, v, h1.sq, g1⟩, fun x H' ⟨y1, y2⟩ => ?_⟩
  subst y1
  have e := (y2 vs h1.sq).symm.trans g1
  cases e
  exact ⟨Same.refl _, g2⟩
theorem walks_tup {K : PySem.W.Frag} {a : Addr} {vs : List V} {ds : List Da} : Walks K (Itt K a) [ghT a vs ds] ds := fun i H N hN hr => by
  obtain ⟨h1, h2⟩ := hr _ List.mem_cons_self
  refine ⟨fun hl => ⟨vs, h1, by rw [vrs_len h2]; exact hl⟩, fun d hd => ?_⟩
  obtain ⟨v, g1, g2⟩ := vrs_get h2 hd
  refine ⟨⟨vs, v, h1, g1⟩, fun x H' ⟨y1, y2⟩ => ?_⟩
  subst y1
  have e := (y2 vs h1).symm.trans g1
  cases e
  exact ⟨Same.refl _, g2⟩
/-! a list or a tuple -/
def iLT (K : PySem.W.Frag) (tl : TE) : TI := fun σ H R => tl σ H fun x H1 => ∃ a, x = .ref a ∧ (((∃ xs, SqL K H1 a xs) ∧ R (Itl K a) H1) ∨ ((∃ xs, SqT K H1 a xs) ∧ R (Itt K a) H1))
theorem pi_lt {tg l : Expr} {tl : TE} (hl : PE X l tl) : PI X tg l (iLT X.K tl) := by
  refine ⟨fun pins s σ H R I h => ?_⟩
  refine thn (hl.run pins s σ H _ I h) fun v s1 ⟨x, H1, I1, r1, q1⟩ => ?_
  obtain ⟨a, e, q2⟩ := q1
  subst e
  cases r1
  rcases q2 with ⟨⟨xs, hq⟩, q⟩ | ⟨⟨xs, hq⟩, q⟩
  · obtain ⟨its, rv, p, hz⟩ := I1.list hq
    refine wpAny_pyIter_list p.isList ?_
    refine ⟨s1.heap.objs.size, [s1.heap.objs.size], _, _, H1, rfl, I1.kept (t' := s1.toks) fun b o e => Heap.get?_push_of_some _ e, turn_list a _, ⟨_, Heap.get?_push_size _ rfl, rfl, rfl⟩, fun b hb => ?_, q⟩
    have e : b = s1.heap.objs.size := by simpa using hb
    subst e
    exact I1.fpOk (Nat.le_refl _) (I1.hok.fresh (Nat.le_refl _))
  · obtain ⟨its, rv, p, hz⟩ := I1.tuple hq
    refine wpAny_pyIter_tuple (show s1.heap.IsTuple a its.toArray from p) ?_
    refine ⟨s1.heap.objs.size, [s1.heap.objs.size], _, _, H1, rfl, I1.kept (t' := s1.toks) fun b o e => Heap.get?_push_of_some _ e, turn_tuple a _, ⟨_, Heap.get?_push_size _ rfl, rfl, rfl⟩, fun b hb => ?_, q⟩
    have e : b = s1.heap.objs.size := by simpa using hb
    subst e
    exact I1.fpOk (Nat.le_refl _) (I1.hok.fresh (Nat.le_refl _))
def asI : Da → R (List Da)
  | .list ds => .ok ds
  | .tuple ds => .ok ds
  | _ => .bad
def eIt (f : En → R Da) : En → R (List Da) := fun ρ => (f ρ).bind asI
theorem iv_it {tg : Expr} (h : EV X W true e fa) (c : Bool) : IV X W c tg e (eIt fa) := pi_imp (pi_lt h) fun σ H Q ⟨H0, Z, G, ρ, S, q⟩ => ⟨H0, Z, G, ρ, S, by
  unfold eIt at q
  cases r : fa ρ with
  | ok d =>
    rw [r] at q
    intro v H' e hv
    have hv' : Vr X.K (hide (hid Z ρ σ) H') v d := hv
    cases hv' with
    | @lst a vs ds h1 h2 => exact ⟨a, rfl, .inl ⟨⟨vs, (ls_same hide_sub h1).sq⟩, q _ H' e ⟨[ghL a vs ds], walks_list, fun g hg => by
        cases (List.mem_singleton.mp hg)
        exact ⟨ls_same lv_same h1, h2⟩, fun z => by rw [← vrs_len h2]; exact z (ghL a vs ds) List.mem_cons_self⟩⟩⟩
    | @tup a vs ds h1 h2 => exact ⟨a, rfl, .inr ⟨⟨vs, sqt_same hide_sub h1⟩, q _ H' e ⟨[ghT a vs ds], walks_tup, fun g hg => by
        cases (List.mem_singleton.mp hg)
        exact ⟨sqt_same lv_same h1, h2⟩, fun z => by rw [← vrs_len h2]; exact z (ghT a vs ds) List.mem_cons_self⟩⟩⟩
    | _ => exact False.elim q
  | err x i =>
    rw [r] at q
    exact q
  | bad =>
    rw [r] at q
    exact q⟩
/-! a list, in its own place or borrowed -/
theorem iv_list {tg : Expr} (h : EV X W true e fa) : IV X W true tg e (eL fa) := pi_imp (pi_list h) fun σ H Q ⟨H0, Z, G, ρ, S, q⟩ => ⟨H0, Z, G, ρ, S, by
  unfold eL at q
  cases r : fa ρ with
  | ok d =>
    rw [r] at q
    intro v H' e hv
    have hv' : Vr X.K (hide (hid Z ρ σ) H') v d := hv
    cases hv' with
    | @lst a vs ds h1 h2 => exact ⟨a, rfl, ⟨vs, (ls_same hide_sub h1).sq⟩, q _ H' e ⟨[ghL a vs ds], walks_list, fun g hg => by
        cases (List.mem_singleton.mp hg)
        exact ⟨h1, h2⟩, fun z => by rw [← vrs_len h2]; exact z (ghL a vs ds) List.mem_cons_self⟩⟩
    | _ => exact False.elim q
  | err x i =>
    rw [r] at q
    exact q
  | bad =>
    rw [r] at q
    exact q⟩
theorem iv_lists {tg : Expr} (h : ES X W e fl) : IV X W false tg e fl := pi_imp (pi_list h) fun σ H Q ⟨H0, Z, G, ρ, S, q⟩ => ⟨H0, Z, G, ρ, S, by
  cases r : fl ρ with
  | ok ds =>
    rw [r] at q
    refine fun v H' e ⟨a, vs, hv, h1, h2⟩ => ⟨a, hv, ⟨vs, (ls_same hide_sub h1).sq⟩, q _ H' e ⟨[ghL a vs ds], walks_list, fun g hg => by
        cases (List.mem_singleton.mp hg)
        exact ⟨h1, h2⟩, fun z => by rw [← vrs_len h2]; exact z (ghL a vs ds) List.mem_cons_self⟩⟩
  | err x i =>
    rw [r] at q
    exact q
  | bad =>
    rw [r] at q
    exact q⟩
def eEnum (fl : En → R (List Da)) : En → R (List Da) := fun ρ => (fl ρ).bind fun ds => .ok (enumD ds)
/-- the arguments of a call, each a list: clean (for a for), or borrowed (for a comprehension) -/
def kL (c : Bool) : Kd (List Da) V := ⟨fun K Z ρ σ _ ds v H' => ∃ a vs, v = .ref a ∧ Ls K (hide (lv c Z ρ σ) H') a vs ∧ Vrs K (hide (hid Z ρ σ) H') vs ds, fun _ _ _ _ _ _ _ _ _ _ h => h⟩
abbrev LV (X : Cx) (W : WX) (c : Bool) (e : Expr) (f : En → R (List Da)) : Prop := PE X e (J X W (kL c) f)
theorem ES.l (h : ES X W e fl) : LV X W false e fl := h
theorem EV.l (h : EV X W true e fa) : LV X W true e (eL fa) := pe_imp h fun σ H Q ⟨H0, Z, G, ρ, S, q⟩ => ⟨H0, Z, G, ρ, S, by
  unfold eL at q
  cases r : fa ρ with
  | ok d =>
    rw [r] at q
    intro v H' e hv
    have hv' : Vr X.K (hide (hid Z ρ σ) H') v d := hv
    cases hv' with
    | lst h1 h2 => exact q _ H' e ⟨_, _, rfl, h1, h2⟩
    | _ => exact False.elim q
  | err x i =>
    rw [r] at q
    exact q
  | bad =>
    rw [r] at q
    exact q⟩
theorem EF.l (h : EF X W e fl) : LV X W true e fl := pe_imp h fun σ H Q ⟨H0, Z, G, ρ, S, q⟩ => ⟨H0, Z, G, ρ, S, by
  cases r : fl ρ with
  | ok d =>
    rw [r] at q
    refine fun v H' e ⟨p, vs, h1, h2, h3, h4⟩ => q v H' e ⟨p, vs, h1, .of (hide_eq.mpr ⟨S.fresh h2, h3⟩), vrs_same (hide_to fun a o h n => ⟨fun z => n (.inl z), h⟩) h4⟩
  | err x i =>
    rw [r] at q
    exact q
  | bad =>
    rw [r] at q
    exact q⟩
theorem iv_list' {tg : Expr} (h : LV X W c e fl) : IV X W c tg e fl := pi_imp (pi_list h) fun σ H Q ⟨H0, Z, G, ρ, S, q⟩ => ⟨H0, Z, G, ρ, S, by
  cases r : fl ρ with
  | ok ds =>
    rw [r] at q
    refine fun v H' e ⟨a, vs, hv, h1, h2⟩ => ⟨a, hv, ⟨vs, (ls_same hide_sub h1).sq⟩, q _ H' e ⟨[ghL a vs ds], walks_list, fun g hg => by
        cases (List.mem_singleton.mp hg)
        exact ⟨h1, h2⟩, fun z => by rw [← vrs_len h2]; exact z (ghL a vs ds) List.mem_cons_self⟩⟩
  | err x i =>
    rw [r] at q
    exact q
  | bad =>
    rw [r] at q
    exact q⟩
theorem iv_enum {elts : List Expr} {kk : Nat} {tpos p : Pos} (hg : Gl X "enumerate") (hm : X.mg "enumerate" = none) (h : LV X W c e fl) (he : starEach [e] X.env = (false, eval e X.env) :: starEach [] X.env := by rfl) (h1 : starEach [e] X.env = [(false, eval e X.env)] := by rfl) :
    IV X W c (.Tuple elts kk tpos) (.Call (.Name "enumerate" p) [e] [] pos) (eEnum fl) := pi_imp (pi_enum hg hm (pa_cons h pa_nil he) h1) fun σ H Q ⟨H0, Z, G, ρ, S, q⟩ => ⟨H0, Z, G, ρ, S, by
  unfold eEnum at q
  cases r : fl ρ with
  | ok ds =>
    rw [r] at q
    refine fun v H' e ⟨a, vs, hv, h1, h2⟩ => ⟨a, vs, by rw [hv], (ls_same hide_sub h1).sq, q _ H' e ⟨[ghL a vs ds], walks_enum, fun g hg => by
        cases (List.mem_singleton.mp hg)
        exact ⟨h1, h2⟩, fun z => by rw [enumD, List.length_mapIdx, ← vrs_len h2]; exact z (ghL a vs ds) List.mem_cons_self⟩⟩
  | err x i =>
    rw [r] at q
    exact q
  | bad =>
    rw [r] at q
    exact q⟩
def rng1 : Da → R (List Da)
  | .int j => if -(2 ^ 62) ≤ j ∧ j ≤ lim then .ok (rngD 0 j.toNat) else .bad
  | _ => .bad
def rng2 : Da → Da → R (List Da)
  | .int i, .int j => if (-(2 ^ 62) ≤ i ∧ i < 2 ^ 62) ∧ (-(2 ^ 62) ≤ j ∧ j < 2 ^ 62) ∧ j - i ≤ lim then .ok (rngD i (j - i).toNat) else .bad
  | _, _ => .bad
def eR1 (f : En → R Da) : En → R (List Da) := fun ρ => (f ρ).bind rng1
def eR2 (f g : En → R Da) : En → R (List Da) := fun ρ => (f ρ).bind fun x => (g ρ).bind fun y => rng2 x y
theorem rng_len {lo : Int} {n : Nat} : (rngD lo n).length = n := by simp [rngD]
theorem iv_rng1 {tg : Expr} {p : Pos} (hg : Gl X "range") (hm : X.mg "range" = none) (h : EV X W false e fa) (he : starEach [e] X.env = (false, eval e X.env) :: starEach [] X.env := by rfl) (hs : starEach [e] X.env = [(false, eval e X.env)] := by rfl) :
    IV X W c tg (.Call (.Name "range" p) [e] [] pos) (eR1 fa) := pi_imp (pi_range1 hg hm (pa_cons h pa_nil he) hs) fun σ H Q ⟨H0, Z, G, ρ, S, q⟩ => ⟨H0, Z, G, ρ, S, (Arm.bind q).imp fun v H1 ⟨e1, d, hd, h1⟩ => by
    have hd' : Vr X.K (hide Z H1) v d := hd
    cases hd' with
    | int j =>
      have h2 : Arm X W (kI c) Z ρ σ (if -(2 ^ 62) ≤ j ∧ j ≤ lim then R.ok (rngD 0 j.toNat) else R.bad) H1 Q := h1
      by_cases z : -(2 ^ 62) ≤ j ∧ j ≤ lim
      · rw [if_pos z] at h2
        have zl : (lim : Int) < 2 ^ 62 := by decide
        refine ⟨j, rfl, z.1, by omega, h2 _ H1 (Same.refl _) ⟨[], walks_range, (fun g hg => absurd hg (by simp)), fun _ => ?_⟩⟩
        rw [rng_len, lim_eq]
        omega
      · rw [if_neg z] at h2
        exact h2.elim
    | _ => exact h1.elim⟩
theorem iv_rng2 {tg : Expr} {p : Pos} (hg : Gl X "range") (hm : X.mg "range" = none) (h : EV X W false a fa) (k : EV X W false b fb) (he : starEach [a, b] X.env = (false, eval a X.env) :: starEach [b] X.env := by rfl) (he2 : starEach [b] X.env = (false, eval b X.env) :: starEach [] X.env := by rfl)
    (hs : starEach [a, b] X.env = [(false, eval a X.env), (false, eval b X.env)] := by rfl) (hs2 : starEach [b] X.env = [(false, eval b X.env)] := by rfl) :
    IV X W c tg (.Call (.Name "range" p) [a, b] [] pos) (eR2 fa fb) := pi_imp (pi_range2 hg hm (pa_cons h (pa_cons k pa_nil he2) he) hs hs2) fun σ H Q ⟨H0, Z, G, ρ, S, q⟩ => ⟨H0, Z, G, ρ, S, (Arm.bind q).imp fun v H1 ⟨e1, d, hd, h1⟩ => ⟨H0, Z, G, ρ, S.grow e1, (Arm.bind h1).imp fun u H2 ⟨e2, d2, hd2, h2⟩ => by
    have hd' : Vr X.K (hide Z H1) v d := hd
    have hd2' : Vr X.K (hide Z H2) u d2 := hd2
    cases hd' with
    | int i =>
      cases hd2' with
      | int j =>
        have h3 : Arm X W (kI c) Z ρ σ (if (-(2 ^ 62) ≤ i ∧ i < 2 ^ 62) ∧ (-(2 ^ 62) ≤ j ∧ j < 2 ^ 62) ∧ j - i ≤ lim then .ok (rngD i (j - i).toNat) else .bad) H2 Q := h2
        by_cases z : (-(2 ^ 62) ≤ i ∧ i < 2 ^ 62) ∧ (-(2 ^ 62) ≤ j ∧ j < 2 ^ 62) ∧ j - i ≤ lim
        · rw [if_pos z] at h3
          refine ⟨i, j, rfl, ⟨z.1.1, z.1.2, z.2.1.1, z.2.1.2⟩, h3 _ H2 (Same.refl _) ⟨[], walks_range, (fun g hg => absurd hg (by simp)), fun _ => ?_⟩⟩
          rw [rng_len, lim_eq]
          omega
        · rw [if_neg z] at h3
          exact h3.elim
      | _ => exact h2.elim
    | _ => cases hd2' <;> exact h2.elim⟩⟩
def eZip (f g : En → R (List Da)) : En → R (List Da) := fun ρ => (f ρ).bind fun xs => (g ρ).bind fun ys => .ok (List.zipWith (fun x y => .tuple [x, y]) xs ys)
theorem iv_zip {elts : List Expr} {kk : Nat} {tpos p : Pos} (hg : Gl X "zip") (hm : X.mg "zip" = none) (h : LV X W c a fl) (k : LV X W c b fm) (he : starEach [a, b] X.env = (false, eval a X.env) :: starEach [b] X.env := by rfl) (he2 : starEach [b] X.env = (false, eval b X.env) :: starEach [] X.env := by rfl)
    (hs2 : (backTo pos (starEach [b] X.env)).any (·.1) = false := by rfl) :
    IV X W c (.Tuple elts kk tpos) (.Call (.Name "zip" p) [a, b] [] pos) (eZip fl fm) := pi_imp (pi_zip hg hm (pa_cons h (pa_cons k pa_nil he2) he) he hs2) fun σ H Q ⟨H0, Z, G, ρ, S, q⟩ => ⟨H0, Z, G, ρ, S, (Arm.bind q).imp fun v H1 ⟨e1, ds, ⟨l, vs, hv, k1, k2⟩, h1⟩ => ⟨H0, Z, G, ρ, S.grow e1, by
    cases r : fm ρ with
    | ok es =>
      rw [r] at h1
      refine fun u H2 e2 ⟨m, ws, hw, m1, m2⟩ => ⟨l, m, vs, ws, by rw [hv, hw], (ls_same (fun b o z => e2 b o (hide_sub b o z)) k1).sq, (ls_same hide_sub m1).sq, h1 _ H2 e2 ⟨[ghL l vs ds, ghL m ws es], walks_zip, fun g hg => ?_, fun z => ?_⟩⟩
      · rcases List.mem_cons.mp hg with y | hg
        · cases y
          exact ⟨ls_same (hide_grow e2) k1, vrs_same (hide_grow e2) k2⟩
        · cases (List.mem_singleton.mp hg)
          exact ⟨m1, m2⟩
      · have z1 := z (ghL l vs ds) List.mem_cons_self
        have l1 := vrs_len k2
        rw [List.length_zipWith]
        have z2 : vs.length ≤ sizeLine := z1
        omega
    | err x i =>
      rw [r] at h1
      exact h1
    | bad =>
      rw [r] at h1
      exact h1⟩⟩
def eRevI (fl : En → R (List Da)) : En → R (List Da) := fun ρ => (fl ρ).bind fun ds => .ok ds.reverse
theorem iv_rev {tg : Expr} {p : Pos} (hg : Gl X "reversed") (hm : X.mg "reversed" = none) (h : LV X W c e fl) (he : starEach [e] X.env = (false, eval e X.env) :: starEach [] X.env := by rfl) (h1 : starEach [e] X.env = [(false, eval e X.env)] := by rfl) :
    IV X W c tg (.Call (.Name "reversed" p) [e] [] pos) (eRevI fl) := pi_imp (pi_reversed hg hm (pa_cons h pa_nil he) h1) fun σ H Q ⟨H0, Z, G, ρ, S, q⟩ => ⟨H0, Z, G, ρ, S, by
  unfold eRevI at q
  cases r : fl ρ with
  | ok ds =>
    rw [r] at q
    refine fun v H' e ⟨a, vs, hv, h1, h2⟩ => ⟨a, vs, by rw [hv], (ls_same hide_sub h1).sq, q _ H' e ⟨[ghL a vs ds], walks_rev, fun g hg => by
        cases (List.mem_singleton.mp hg)
        exact ⟨h1, h2⟩, fun z => by rw [List.length_reverse, ← vrs_len h2]; exact z (ghL a vs ds) List.mem_cons_self⟩⟩
  | err x i =>
    rw [r] at q
    exact q
  | bad =>
    rw [r] at q
    exact q⟩

/-! ### for, while -/
def forE (g : Da → En → R En) (body : En → SRs) : List Da → En → SRs
  | [], ρ => .go .nx ρ
  | x :: xs, ρ => match g x ρ with
    | .ok ρ1 => (match body ρ1 with
      | .go .nx ρ2 => forE g body xs ρ2
      | .go .ct ρ2 => forE g body xs ρ2
      | .go .bk ρ2 => .go .nx ρ2
      | r => r)
    | _ => .bad
def sFor (fi : En → R (List Da)) (g : Da → En → R En) (body : En → SRs) : En → SRs := fun ρ => sB (fi ρ) ρ fun ds => forE g body ds ρ
theorem sarm_ghost {H0 : Hp} {Z : Addr → Prop} {G rs : Gh} {D : Ends} {r : SRs} (h : SArm X W fr H0 Z G D r) : SArm X W fr H0 Z (rs ++ G) D r := by
  cases r with
  | go fl ρ =>
    cases fl with
    | nx => exact fun σ H S => h σ H (S.unwatch rs)
    | bk => exact fun σ H S => h σ H (S.unwatch rs)
    | ct => exact fun σ H S => h σ H (S.unwatch rs)
    | rt d => exact h
  | er c i ρ => exact fun cls dd σ H S e => h cls dd σ H (S.unwatch rs) e
  | bad => exact h
theorem sv_for {L : List Nat} {tg : Expr} {fi : En → R (List Da)} {gt : Da → En → R En} (hp : PassesOwn (model X.prog X.w) X.A X.env X.xe) (hc : X.calm = true) (hi : IV X W true tg e fi) (hg : GV X L tg gt) (hb : BV X W fr bd f)
    (hs : ∀ x, foldedSetIterable e X.env x = pure x := by intro _; rfl) : SV X W fr (.For tg e bd [] pos) (sFor fi gt f) := ps_imp (ps_for hp hc hi hg hb hs) fun D σ H ⟨H0, Z, G, ρ, S, h⟩ => by
  refine ⟨H0, Z, G, ρ, S, (SArm.bind S h).imp fun J1 H1 ⟨e1, ds, ⟨rs, w, hr, _⟩, h1⟩ => ?_⟩
  refine ⟨fun i m σ H => ∃ ρ, SR X.bx H0 Z (rs ++ G) ρ σ H ∧ m = ds.length - i ∧ i ≤ ds.length ∧ SArm X W fr H0 Z (rs ++ G) D (forE gt f (ds.drop i) ρ),
    ⟨ds.length, ρ, (S.grow e1).watchs rs hr, by simp, Nat.zero_le _, sarm_ghost (by simpa using h1)⟩, fun i m σ H ⟨ρ, S, em, hi, h⟩ => ?_⟩
  have look := w i H (hid Z ρ σ) (fun a z => S.hidin z) fun g hg => g.mono hide_sub (Same.refl _) (S.gh g (List.mem_append_left _ hg))
  by_cases hlt : i < ds.length
  · have hd : ds[i]? = some ds[i] := List.getElem?_eq_getElem hlt
    obtain ⟨go, yl⟩ := look.2 _ hd
    rw [List.drop_eq_getElem_cons hlt] at h
    refine .inr ⟨go, fun σ' H' => ∃ ρ', SR X.bx H0 Z (rs ++ G) ρ' σ' H' ∧ SArm X W fr H0 Z (rs ++ G) D (forE gt f (ds.drop (i + 1)) ρ'), fun σ' H' ⟨ρ', S', h'⟩ => ⟨ds.length - (i + 1), by omega, ρ', S', rfl, hlt, h'⟩, fun x H' hy => ?_⟩
    obtain ⟨e2, hx⟩ := yl x H' hy
    refine ⟨H0, Z, rs ++ G, ρ, ds[i], S.grow e2, hx, ?_⟩
    have h' : SArm X W fr H0 Z (rs ++ G) D (match gt ds[i] ρ with
      | .ok ρ1 => (match f ρ1 with
        | .go .nx ρ2 => forE gt f (ds.drop (i + 1)) ρ2
        | .go .ct ρ2 => forE gt f (ds.drop (i + 1)) ρ2
        | .go .bk ρ2 => .go .nx ρ2
        | r => r)
      | _ => .bad) := h
    cases q : gt ds[i] ρ with
    | ok ρ1 =>
      rw [q] at h'
      refine fun σ1 S1 _ _ => ⟨H0, Z, rs ++ G, ρ1, S1, ?_⟩
      have h2 : SArm X W fr H0 Z (rs ++ G) D (match f ρ1 with
        | .go .nx ρ2 => forE gt f (ds.drop (i + 1)) ρ2
        | .go .ct ρ2 => forE gt f (ds.drop (i + 1)) ρ2
        | .go .bk ρ2 => .go .nx ρ2
        | r => r) := h'
      cases q2 : f ρ1 with
      | go fl ρ2 =>
        rw [q2] at h2
        cases fl with
        | nx => exact fun σ2 H2 S2 => ⟨ρ2, S2, h2⟩
        | ct => exact fun σ2 H2 S2 => ⟨ρ2, S2, h2⟩
        | bk => exact h2
        | rt d => exact h2
      | er c i ρ2 =>
        rw [q2] at h2
        exact h2
      | bad =>
        rw [q2] at h2
        exact h2
    | err c i =>
      rw [q] at h'
      exact h'.elim
    | bad =>
      rw [q] at h'
      exact h'.elim
  · have e : i = ds.length := by omega
    refine .inl ⟨look.1 (by omega), ?_⟩
    subst e
    rw [List.drop_length] at h
    exact h σ H S
def whileE (t : En → R Bool) (body : En → SRs) : Nat → En → SRs
  | 0, _ => .bad
  | n + 1, ρ => sB (t ρ) ρ fun b => match b with
    | false => .go .nx ρ
    | true => (match body ρ with
      | .go .nx ρ2 => whileE t body n ρ2
      | .go .ct ρ2 => whileE t body n ρ2
      | .go .bk ρ2 => .go .nx ρ2
      | r => r)
def sWhile (F : Nat) (t : En → R Bool) (body : En → SRs) : En → SRs := fun ρ => whileE t body F ρ
theorem sv_while {F : Nat} {t : Expr} (hp : PassesOwn (model X.prog X.w) X.A X.env X.xe) (ht : TV X W t ft) (hb : BV X W fr bd f) : SV X W fr (.While t bd [] pos) (sWhile F ft f) := ps_imp (ps_while hp ht hb) fun D σ H ⟨H0, Z, G, ρ, S, h⟩ => by
  refine ⟨fun m σ H => ∃ ρ, SR X.bx H0 Z G ρ σ H ∧ SArm X W fr H0 Z G D (whileE ft f m ρ), ⟨F, ρ, S, h⟩, fun m σ H ⟨ρ, S, h⟩ => ?_⟩
  cases m with
  | zero => exact h.elim
  | succ m =>
    refine ⟨H0, Z, G, ρ, S, (SArm.bind (q := fun b => match b with
      | false => .go .nx ρ
      | true => (match f ρ with
        | .go .nx ρ2 => whileE ft f m ρ2
        | .go .ct ρ2 => whileE ft f m ρ2
        | .go .bk ρ2 => .go .nx ρ2
        | r => r)) S h).imp fun v H1 ⟨e1, b, hb, h1⟩ => ?_⟩
    cases hb
    cases v with
    | false => exact iteF (h1 σ H1 (S.grow e1))
    | true =>
      refine iteT ⟨fun σ' H' => ∃ ρ, SR X.bx H0 Z G ρ σ' H' ∧ SArm X W fr H0 Z G D (whileE ft f m ρ), fun σ' H' z => ⟨m, Nat.lt_succ_self m, z⟩, H0, Z, G, ρ, S.grow e1, ?_⟩
      have h2 : SArm X W fr H0 Z G D (match f ρ with
        | .go .nx ρ2 => whileE ft f m ρ2
        | .go .ct ρ2 => whileE ft f m ρ2
        | .go .bk ρ2 => .go .nx ρ2
        | r => r) := h1
      cases q2 : f ρ with
      | go fl ρ2 =>
        rw [q2] at h2
        cases fl with
        | nx => exact fun σ2 H2 S2 => ⟨ρ2, S2, h2⟩
        | ct => exact fun σ2 H2 S2 => ⟨ρ2, S2, h2⟩
        | bk => exact h2
        | rt d => exact h2
      | er c i ρ2 =>
        rw [q2] at h2
        exact h2
      | bad =>
        rw [q2] at h2
        exact h2
end
end VL
namespace VL
open PySem PySem.Spec PyProof.Rows L2
/-! ### comprehensions -/
abbrev W0 : WX := fun _ _ _ _ => False
def wipeE (ρ : En) : List Nat → En
  | [] => ρ
  | v :: vs => (wipeE ρ vs).set v .no
def notOwn (ρ : En) (v : Nat) : Bool := match ρ[v]? with
  | some (.own _) => false
  | _ => true
def compE (g : Da → En → R En) (t : En → R Bool) (el : En → R Da) (ρ : En) : List Da → Option (List Da)
  | [] => some []
  | x :: xs => match g x ρ with
    | .ok ρ1 => (match t ρ1 with
      | .ok true => (match el ρ1 with
        | .ok y => (compE g t el ρ xs).map (y :: ·)
        | _ => none)
      | .ok false => compE g t el ρ xs
      | _ => none)
    | _ => none
def eLc (vs : List Nat) (fi : En → R (List Da)) (g : Da → En → R En) (t : En → R Bool) (el : En → R Da) : En → R (List Da) := fun ρ => (fi ρ).bind fun ds => if vs.all (notOwn ρ) = true then opt (compE g t el (wipeE ρ vs) ds) else .bad
def tAll : En → R Bool := fun _ => .ok true
theorem wipe_get {σ : Sg} {j : Nat} : ∀ {vs : List Nat}, j ∉ vs → (wipe σ vs)[j]? = σ[j]?
  | [], _ => rfl
  | v :: vs, h => by
    unfold wipe
    rw [List.getElem?_set_ne (fun e => h (by rw [e]; exact List.mem_cons_self))]
    exact wipe_get fun z => h (List.mem_cons_of_mem _ z)
theorem wipe_in {σ : Sg} {j : Nat} : ∀ {vs : List Nat}, j ∈ vs → (wipe σ vs)[j]? = if j < σ.length then some none else none
  | [], h => absurd h (by simp)
  | v :: vs, h => by
    unfold wipe
    by_cases e : v = j
    · subst e
      by_cases hl : v < σ.length
      · rw [if_pos hl, List.getElem?_set_self (by rw [wipe_length]; exact hl)]
      · rw [if_neg hl, List.getElem?_eq_none (by rw [List.length_set, wipe_length]; omega)]
    · rw [List.getElem?_set_ne e]
      exact wipe_in ((List.mem_cons.mp h).resolve_left fun z => e z.symm)
theorem wipe_eq {σ σ' : Sg} {vs : List Nat} (hl : σ'.length = σ.length) (h : ∀ j, j ∉ vs → σ'[j]? = σ[j]?) : wipe σ' vs = wipe σ vs := by
  apply List.ext_getElem?
  intro j
  by_cases hj : j ∈ vs
  · rw [wipe_in hj, wipe_in hj, hl]
  · rw [wipe_get hj, wipe_get hj, h j hj]
theorem wipe_wipe {σ : Sg} {vs : List Nat} : wipe (wipe σ vs) vs = wipe σ vs := wipe_eq (wipe_length _ _) fun j hj => wipe_get hj
theorem wipeE_get {ρ : En} {j : Nat} : ∀ {vs : List Nat}, j ∉ vs → (wipeE ρ vs)[j]? = ρ[j]?
  | [], _ => rfl
  | v :: vs, h => by
    unfold wipeE
    rw [List.getElem?_set_ne (fun e => h (by rw [e]; exact List.mem_cons_self))]
    exact wipeE_get fun z => h (List.mem_cons_of_mem _ z)
section
variable {B : Bx} {H0 H H' : Hp} {Z : Addr → Prop} {G : Gh} {ρ : En} {σ : Sg}
theorem SR.wipe (S : SR B H0 Z G ρ σ H) : ∀ vs : List Nat, SR B H0 Z G (wipeE ρ vs) (wipe σ vs) H
  | [] => S
  | v :: vs => (SR.wipe S vs).set_no
/-- a new thing is put out of sight -/
theorem SR.cover {D : Addr} (S : SR B H0 Z G ρ σ H) (e : Same H H') (hD : H D = none) (hD' : ∃ vs, H' D = some (.lst vs)) : SR B H0 (fun a => Z a ∨ a = D) G ρ σ H' := by
  have hh : ∀ a, H a ≠ none → hid (fun a => Z a ∨ a = D) ρ σ a → hid Z ρ σ a := fun a ha z => by
    rcases z with (z | z) | z
    · exact .inl z
    · rw [z] at ha
      exact absurd hD ha
    · exact .inr z
  exact S.step e S.len hh (fun a z => by
    rcases z with z | z
    · exact (S.grow e).zin a z
    · rw [z]; exact hD') S.inj (fun i d h => .inl ⟨h, rfl⟩) (fun i ds h => .inl ⟨h, rfl, fun a z => z.imp id fun y => by rw [y]; exact hD⟩) (fun i c n h => ⟨h, rfl⟩)
end
section
variable {X : Cx} {W : WX} {fr c : Bool} {a b e : Expr} {es : List Expr} {fa fb : En → R Da} {ft fu : En → R Bool} {fl fm fi : En → R (List Da)} {pos : Pos} {n : Nat} {g : Da → En → R En} {el : En → R Da} {L vs : List Nat} {tg : Expr}
theorem pi_len {wi : TI} (h : PI X tg e wi) : PI X tg e (fun σ H R => wi σ H fun J' H' => LenOk X.K H' → R J' H') := ⟨fun pins s σ H R I q => by
  refine thn (h.run pins s σ H _ I q) fun v s1 hv => thn hv fun w s2 ⟨it, fp, tn, J', H', h1, h2, h3, h4, h5, h6⟩ => ⟨it, fp, tn, J', H', h1, h2, h3, h4, h5, h6 ⟨fun a xs hx => ?_, fun a xs hx => ?_⟩⟩
  · obtain ⟨_, _, _, z⟩ := h2.list hx
    exact z
  · obtain ⟨_, _, _, z⟩ := h2.tuple hx
    exact z⟩
theorem lc_of {σ : Sg} {H : Hp} {Q : VK} (hL : ∀ j ∈ L, j ∈ vs) (h : J X W kF (eLc vs fi g ft el) σ H Q) :
    tLc (fun σ H R => J X W (kI false) fi σ H fun J' H' => LenOk X.K H' → R J' H') (TG' X.bx L g) (J X W0 kT ft) (J X W0 (kV true) el) vs σ H Q := by
  obtain ⟨H0, Z, G, ρ, S, h⟩ := h
  refine ⟨H0, Z, G, ρ, S, (Arm.bind h).imp fun J1 H1 ⟨e1, ds, ⟨rs, w, hr, hb⟩, h1⟩ lo D hD => ?_⟩
  by_cases hno : vs.all (notOwn ρ) = true
  rotate_left
  · rw [if_neg hno] at h1
    exact h1.elim
  rw [if_pos hno] at h1
  have S1 := S.grow e1
  have hlen : ds.length ≤ sizeLine := hb fun gg hg => gg.fit (gg.mono hide_sub (Same.refl _) (hr gg hg)) lo
  cases tot : compE g ft el (wipeE ρ vs) ds with
  | none =>
    rw [tot] at h1
    exact h1.elim
  | some total =>
    rw [tot] at h1
    refine ⟨fun i m H2 => i ≤ ds.length ∧ m = ds.length - i ∧ Same H1 H2 ∧ ∃ acc done rem, H2 D = some (.lst acc) ∧ Vrs X.K (hide (fun a => hid Z ρ σ a ∨ a = D) H2) acc done ∧ done.length ≤ i ∧ compE g ft el (wipeE ρ vs) (ds.drop i) = some rem ∧ total = done ++ rem,
      ⟨ds.length, Nat.zero_le _, by simp, same_upd hD, [], [], total, upd_same, .nil, Nat.le_refl _, by simpa using tot, rfl⟩, fun i m H2 ⟨hi, em, e2, acc, done, rem, hacc, hv, hl, hrem, ht⟩ => ?_⟩
    have Sw : SR X.bx H0 (fun a => Z a ∨ a = D) G (wipeE ρ vs) (wipe σ vs) H2 := (S1.cover e2 hD ⟨_, hacc⟩).wipe vs
    have seen : ∀ a, hid (fun a => Z a ∨ a = D) (wipeE ρ vs) (wipe σ vs) a → hid Z ρ σ a ∨ a = D := fun a z => by
      rcases z with (z | z) | ⟨j, es, z1, z2⟩
      · exact .inl (.inl z)
      · exact .inr z
      · by_cases hj : j ∈ vs
        · rw [wipe_in hj] at z2
          split at z2 <;> cases z2
        · rw [wipeE_get hj] at z1
          rw [wipe_get hj] at z2
          exact .inl (.inr ⟨j, es, z1, z2⟩)
    have look := w i H2 (hid (fun a => Z a ∨ a = D) (wipeE ρ vs) (wipe σ vs)) (fun a z => Sw.hidin z) fun gg hg =>
      gg.mono (fun b o z => e2 b o (hide_sub b o z)) (hide_to fun a o h n => ⟨fun z => (seen a z).elim n (fun y => absurd hD (by rw [← y, h]; exact fun z => nomatch z)), e2 a o h⟩) (hr gg hg)
    by_cases hlt : i < ds.length
    · have hd : ds[i]? = some ds[i] := List.getElem?_eq_getElem hlt
      obtain ⟨go, yl⟩ := look.2 _ hd
      rw [List.drop_eq_getElem_cons hlt] at hrem
      refine .inr ⟨go, fun H3 => Same H1 H3 ∧ ∃ acc done rem, H3 D = some (.lst acc) ∧ Vrs X.K (hide (fun a => hid Z ρ σ a ∨ a = D) H3) acc done ∧ done.length ≤ i + 1 ∧ compE g ft el (wipeE ρ vs) (ds.drop (i + 1)) = some rem ∧ total = done ++ rem,
        fun H3 z => ⟨ds.length - (i + 1), by omega, hlt, rfl, z.1, z.2⟩, fun x H3 hy => ?_⟩
      obtain ⟨e3, hx⟩ := yl x H3 hy
      refine ⟨H0, _, G, wipeE ρ vs, ds[i], Sw.grow e3, hx, ?_⟩
      have hrem' : (match g ds[i] (wipeE ρ vs) with
        | .ok ρ1 => (match ft ρ1 with
          | .ok true => (match el ρ1 with
            | .ok y => (compE g ft el (wipeE ρ vs) (ds.drop (i + 1))).map (y :: ·)
            | _ => none)
          | .ok false => compE g ft el (wipeE ρ vs) (ds.drop (i + 1))
          | _ => none)
        | _ => none) = some rem := hrem
      cases q : g ds[i] (wipeE ρ vs) with
      | err c i =>
        rw [q] at hrem'
        cases hrem'
      | bad =>
        rw [q] at hrem'
        cases hrem'
      | ok ρ1 =>
        rw [q] at hrem'
        refine fun σ1 T1 o1 m1 => ⟨?_, ?_⟩
        · rw [wipe_eq (σ := wipe σ vs) o1.1 fun j hj => (o1.2 j fun z => hj (hL j z)).1, wipe_wipe]
        have hrem2 : (match ft ρ1 with
          | .ok true => (match el ρ1 with
            | .ok y => (compE g ft el (wipeE ρ vs) (ds.drop (i + 1))).map (y :: ·)
            | _ => none)
          | .ok false => compE g ft el (wipeE ρ vs) (ds.drop (i + 1))
          | _ => none) = some rem := hrem'
        refine ⟨H0, _, G, ρ1, T1, ?_⟩
        cases q2 : ft ρ1 with
        | err c i =>
          rw [q2] at hrem2
          cases hrem2
        | bad =>
          rw [q2] at hrem2
          cases hrem2
        | ok b =>
          rw [q2] at hrem2
          intro b' H4 e4 eb
          cases eb
          have e14 : Same H1 H4 := (e2.trans e3).trans e4
          cases b with
          | false =>
            refine iteF ⟨e14, acc, done, rem, e4 _ _ (e3 _ _ hacc), vrs_same (hide_grow (e3.trans e4)) hv, Nat.le_succ_of_le hl, hrem2, ht⟩
          | true =>
            refine iteT ⟨H0, _, G, ρ1, T1.grow e4, ?_⟩
            have hrem3 : (match el ρ1 with
              | .ok y => (compE g ft el (wipeE ρ vs) (ds.drop (i + 1))).map (y :: ·)
              | _ => none) = some rem := hrem2
            cases q3 : el ρ1 with
            | err c i =>
              rw [q3] at hrem3
              cases hrem3
            | bad =>
              rw [q3] at hrem3
              cases hrem3
            | ok y =>
              rw [q3] at hrem3
              intro v H5 e5 hy5
              have e15 : Same H1 H5 := e14.trans e5
              have hacc5 : H5 D = some (.lst acc) := e5 _ _ (e4 _ _ (e3 _ _ hacc))
              refine ⟨acc, hacc5, ?_, ?_⟩
              · have := vrs_len hv
                omega
              · cases q4 : compE g ft el (wipeE ρ vs) (ds.drop (i + 1)) with
                | none =>
                  rw [q4] at hrem3
                  cases hrem3
                | some rem' =>
                  rw [q4] at hrem3
                  cases (show y :: rem' = rem from Option.some.inj hrem3)
                  have back : ∀ a, hid Z ρ σ a ∨ a = D → hid (fun a => Z a ∨ a = D) ρ1 σ1 a := fun a z => by
                    rcases z with (z | ⟨j, es, z1, z2⟩) | z
                    · exact .inl (.inl z)
                    · have hj : j ∉ vs := fun hj => by
                        have := List.all_eq_true.mp hno j hj
                        unfold notOwn at this
                        rw [z1] at this
                        cases this
                      have hj' : j ∉ L := fun z => hj (hL j z)
                      refine .inr ⟨j, es, ?_, ?_⟩
                      · rw [(o1.2 j hj').2, wipeE_get hj]
                        exact z1
                      · rw [(o1.2 j hj').1, wipe_get hj]
                        exact z2
                    · exact .inl (.inr z)
                  have up : Same (hide (fun a => hid Z ρ σ a ∨ a = D) H5) (hide (fun a => hid Z ρ σ a ∨ a = D) (upd H5 D (.lst (acc ++ [v])))) := hide_to fun a o h n => ⟨n, by rw [upd_ne (fun z => n (.inr z))]; exact h⟩
                  refine ⟨fun b o z => ?_, acc ++ [v], done ++ [y], rem', upd_same, vrs_app (vrs_same up (vrs_same (hide_grow ((e3.trans e4).trans e5)) hv)) (.cons (vr_same up (vr_same (hide_to fun a o h n => ⟨fun z => n (back a z), h⟩) hy5)) .nil), by simp; omega, rfl, by rw [ht]; simp⟩
                  rw [upd_ne (ne_of_none z hD)]
                  exact e15 b o z
    · refine .inl ⟨look.1 (by omega), ?_⟩
      have e : i = ds.length := by omega
      subst e
      rw [List.drop_length] at hrem
      cases (show ([] : List Da) = rem from Option.some.inj hrem)
      rw [List.append_nil] at ht
      subst ht
      exact h1 _ _ e2 ⟨D, acc, rfl, hD, hacc, hv⟩
theorem pts_imp {ifs : List Expr} {t t' : TT} (h : PTs X ifs t) (i : ∀ σ H Q, t' σ H Q → t σ H Q) : PTs X ifs t' := ⟨fun pins s σ H Q I q => h.run pins s σ H Q I (i σ H Q q)⟩
theorem iv_all : PTs X [] (J X W kT tAll) := pts_imp pts_nil fun σ H Q ⟨H0, Z, G, ρ, S, q⟩ => q true H (Same.refl _) rfl
theorem iv_one (h : TV X W e ft) : PTs X [e] (J X W kT ft) := pts_one h
theorem bx_blk {X : Cx} (hc : X.calm = true) (s : Shared) (H : Hp) (scope : Scope) (cenv : Env) (fp : List Addr) : (X.blk s H scope cenv fp).bx = X.bx := by
  show (⟨X.K, X.mg, if X.calm = true then none else ([] : List (Addr × Obj)).head?⟩ : Bx) = ⟨X.K, X.mg, if X.calm = true then none else X.pn.head?⟩
  rw [if_pos hc, if_pos hc]
theorem j_blk {α β : Type} {X : Cx} {k : Kd α β} {f : En → R α} (hc : X.calm = true) (s : Shared) (H : Hp) (scope : Scope) (cenv : Env) (fp : List Addr) {σ : Sg} {H1 : Hp} {Q : β → Hp → Prop} (h : J X W0 k f σ H1 Q) : J (X.blk s H scope cenv fp) W0 k f σ H1 Q := by
  obtain ⟨H0, Z, G, ρ, S, q⟩ := h
  exact ⟨H0, Z, G, ρ, by rw [bx_blk hc]; exact S, q⟩
theorem ef_lc {elt iter : Expr} {ifs : List Expr} {scope : Scope} {own : List (Str × Nat)} (hc : X.calm = true) (hN : X.N.Nodup) (hi : IV X W false tg iter fi) (ok : BlkOk X.N X.env.scope scope own) (hL : ∀ j ∈ L, j ∈ own.map (·.2))
    (hg : ∀ (s : Shared) (H : Hp) (C : Addr) (cl : List (Str × Addr)) (fp : List Addr), GV (X.blk s H scope (compEnvC scope cl C X.env) fp) L tg g) (ht : ∀ (s : Shared) (H : Hp) (C : Addr) (cl : List (Str × Addr)) (fp : List Addr), PTs (X.blk s H scope (compEnvC scope cl C X.env) fp) ifs (J (X.blk s H scope (compEnvC scope cl C X.env) fp) W0 kT ft))
    (he : ∀ (s : Shared) (H : Hp) (C : Addr) (cl : List (Str × Addr)) (fp : List Addr), EV (X.blk s H scope (compEnvC scope cl C X.env) fp) W0 true elt el) (hs : ∀ x, foldedSetIterable iter X.env x = pure x := by intro _; rfl) :
    EF X W (.ListComp elt [⟨tg, iter, ifs, 0⟩] scope pos) (eLc (own.map (·.2)) fi g ft el) := pe_imp (pe_lc hc hN (pi_len hi) ok (fun s H C cl fp => bx_blk hc s H scope _ fp ▸ hg s H C cl fp) (fun s H C cl fp => pts_imp (ht s H C cl fp) fun _ _ _ z => j_blk hc s H scope _ fp z) (fun s H C cl fp => pe_imp (he s H C cl fp) fun _ _ _ z => j_blk hc s H scope _ fp z) hs) fun σ H Q h => lc_of hL h
theorem sv_setLc {i : Nat} {y : Str} {py spos : Pos} {elt iter : Expr} {ifs : List Expr} {scope : Scope} {own : List (Str × Nat)} (hc : X.calm = true) (hN : X.N.Nodup) (hy : X.N[i]? = some y) (hyl : X.env.scope.names.lookup y = some .local)
    (hsw : swapsWith (.ListComp elt [⟨tg, iter, ifs, 0⟩] scope pos) (some (.Name y py)) spos.line X.env = pure true) (hi : IV X W false tg iter fi) (ok : BlkOk X.N X.env.scope scope own) (hL : ∀ j ∈ L, j ∈ own.map (·.2))
    (hg : ∀ (s : Shared) (H : Hp) (C : Addr) (cl : List (Str × Addr)) (fp : List Addr), GV (X.blk s H scope (compEnvC scope cl C X.env) fp) L tg g) (ht : ∀ (s : Shared) (H : Hp) (C : Addr) (cl : List (Str × Addr)) (fp : List Addr), PTs (X.blk s H scope (compEnvC scope cl C X.env) fp) ifs (J (X.blk s H scope (compEnvC scope cl C X.env) fp) W0 kT ft))
    (he : ∀ (s : Shared) (H : Hp) (C : Addr) (cl : List (Str × Addr)) (fp : List Addr), EV (X.blk s H scope (compEnvC scope cl C X.env) fp) W0 true elt el) (hs : ∀ x, foldedSetIterable iter X.env x = pure x := by intro _; rfl) :
    SV X W fr (.Assign [.Name y py] (.ListComp elt [⟨tg, iter, ifs, 0⟩] scope pos) spos) (sSetF i (eLc (own.map (·.2)) fi g ft el)) := ps_imp (ps_setLc hc hN hy hyl hsw (pi_len hi) ok (fun s H C cl fp => bx_blk hc s H scope _ fp ▸ hg s H C cl fp) (fun s H C cl fp => pts_imp (ht s H C cl fp) fun _ _ _ z => j_blk hc s H scope _ fp z) (fun s H C cl fp => pe_imp (he s H C cl fp) fun _ _ _ z => j_blk hc s H scope _ fp z) hs) fun D σ H h => lc_of hL (setF_of h)
end
end VL
namespace VL
open PySem PySem.Spec PyProof.Rows L2
/-! ### defs: as FnOk of the layer, for callers whose guards are known to be none -/
structure FnG (P : Program) (w : World) (K : PySem.W.Frag) (mg : Str → Option Value) (base : Heap) (k : Nat) (fA : Addr) (fd : FuncData) (ps : List Str) (sp : Sp) : Prop where
  len : ∀ ys G wq we, sp ys G wq we → ys.length = ps.length
  run : ∀ (B : Around) (out : List Env) (t : Shared) (G : Hp) (ar : Args) (ws : List Value) (ys : List V) (wq : VK) (we : XK), B.guards = some [] → Room k B → Env0 P w K mg base B out t G → BindsTo t fd ar (ps.zip ws) → Vals ys ws → sp ys G wq we →
    codeAny (model P w) B (.call (.ref fA) ar) (CR (L2.CX P w) out P w G t wq we) t
section
variable {P : Program} {w : World} {K : PySem.W.Frag} {mg : Str → Option Value} {base : Heap} {k : Nat}
theorem fnG_of {fA : Addr} {nm qual : Str} {prm : Arguments} {bdy : List Stmt} {sc : Scope} {dV kV doc pm cdv ct oc : Value} {an od : Option Addr} {osl : Array (Option Value)} {N ps : List Str} {sp : Sp}
    (lk : K.lookup fA = some ⟨oc, od, .func (PySem.W.fnOf nm qual prm bdy sc dV kV doc pm an cdv ct), osl⟩) (hcd : PySem.W.codeIn K cdv qual = true) (sS : FnScope N ps sc)
    (ln : ∀ ys G wq we, sp ys G wq we → ys.length = ps.length)
    (hbd : ∀ (B : Around) (out : List Env) (t : Shared) (G : Hp) (ys : List V) (wq : VK) (we : XK), B.guards = some [] → Room k (B.deeper (envOfC qual sc t.heap.objs.size fA cdv)) → sp ys G wq we →
      ∃ rd, PSs (cxOf (L2.CX P w) P w K mg base N qual sc fA cdv B out t G we) bdy rd ∧ rd { nx := fun _ G' => wq .non G', rt := wq } (start N ys) G) :
    FnG P w K mg base (k + 1) fA (PySem.W.fnOf nm qual prm bdy sc dV kV doc pm an cdv ct) ps sp := by
  constructor
  · exact ln
  intro B out t G ar ws ys wq we gd rm env bnd rv hs
  have inK : K.In t.heap := env.mod.kin.keeps fun a o q => (env.bs a o q).1
  have nolim : t.heap.NoLimit := env.mod.nolimit.keeps fun a o q => (env.bs a o q).1
  have kinds : ∀ y ∈ ps.zip ws, sc.names.lookup y.1 = some .local ∨
      (sc.names.lookup y.1 = some .cell ∧ ((cellsFrom (t.heap.objs.size + 1) sc.names []).lookup y.1).isSome = true) := by
    intro y hy
    obtain ⟨n, v⟩ := y
    rcases sS.par n (List.of_mem_zip hy).1 with q | q
    · left; exact q
    · right
      constructor
      · exact q
      · exact PySem.W.cellsFrom_some _ _ _ (.inl q)
  apply codeAny_call_function rm.depth (inK _ _ lk) rfl sS.co sS.gen rfl (PySem.W.codeRec_of inK hcd)
  apply bnd
  apply wpAny_newFunctionEnv_cells sS.kind kinds
  intro e1 he t1 x1
  subst he
  constructor
  · exact nolim.keeps x1.toInCall.keep
  apply codeAny_func
  obtain ⟨rd, h1, h2⟩ := hbd B out t G ys wq we gd (rm.deeper _) hs
  have I0 := inv_start (CX := L2.CX P w) (cd := cdv) (qual := qual) (f := fA) (E := we) sS rm.hd env (ln _ _ _ _ hs) rv x1
  apply wpAny_mono (h1.run [] t1 (start N ys) G _ I0 h2)
  · intro fl t2 hf
    cases fl with
    | brk => obtain ⟨_, _, _, q⟩ := hf; exact q.elim
    | cont => obtain ⟨_, _, _, q⟩ := hf; exact q.elim
    | next =>
      obtain ⟨σ2, G2, I2, q⟩ := hf
      exact ⟨V.non, G2, I2.os, I2.bare, I2.base, I2.hok, rfl, q⟩
    | ret u =>
      obtain ⟨v2, σ2, G2, I2, r2, q⟩ := hf
      exact ⟨v2, G2, I2.os, I2.bare, I2.base, I2.hok, r2, q⟩
  · intro _ _ q
    exact q
end
section
variable {X : Cx} {k : Nat} {fA : Addr} {fd : FuncData} {ps : List Str} {sp : Sp} {we : Sg → XK} {x : Str} {p pos : Pos} {e : Expr} {es : List Expr} {ta : TA}
theorem pe_callG (F : FnG X.prog X.w X.K X.mg X.base k fA fd ps sp) (rm : Room k X.A) (gd : X.A.guards = some []) (hg : Gl X x) (hm : X.mg x = some (.ref fA)) (kp : PySem.W.keepIn X.K (.ref fA) = true) (bd : Binds X.K fd ps [])
    (hx : ∀ σ, PassesAt (L2.CX X.prog X.w) X σ (we σ)) (ha : PA X (e :: es) ta) (hdb : (x == ("__debug__" : Str)) = false := by decide) (he : starEach (e :: es) X.env = (false, eval e X.env) :: starEach es X.env := by rfl)
    (hpl : (backTo pos (starEach es X.env)).any (·.1) = false := by rfl) : PE X (.Call (.Name x p) (e :: es) [] pos) (tCallS sp we ta) := by
  constructor
  intro pins s σ H Q I h
  apply wpAny_Call_Name_kw (ld_glob I hg hm _ hdb)
  refine PySem.W.callWith_K (h₀ := X.base) I.ok.mod.kin kp (thn (ha.run pos pins s σ H _ I h) ?_) he hpl
  rintro us s1 ⟨vs, H1, I1, rv, q⟩
  refine ⟨I1.kIn, ?_⟩
  have hl : us.length = ps.length := rv.length.symm.trans (F.len _ _ _ _ q)
  have bb := bd s1 us I1.kIn (by simpa using hl)
  rw [List.append_nil] at bb
  apply wpAny_call
  apply codeAny_mono (F.run X.A X.stack s1 H1 ⟨us, []⟩ us vs Q (we σ) gd rm I1.env0 bb rv q)
  intro r s2 hr
  cases r with
  | error er => exact hx σ pins H1 s1 er s2 I1 hr
  | ok fl =>
    cases fl with
    | ret u => exact I1.after hr
    | next => exact hr.elim
    | brk => exact hr.elim
    | cont => exact hr.elim
end

/-! ### a def as a function on data -/
def spV (K : PySem.W.Frag) (mg : Str → Option Value) (n : Nat) (fr : Bool) (f : List Da → R Da) : Sp := fun vs H Q E => vs.length = n ∧ ∃ (Z : Addr → Prop) (ds : List Da), (∀ a, Z a → ∃ ls, H a = some (.lst ls)) ∧ Vrs K (hide Z H) vs ds ∧ match f ds with
  | .ok d => ∀ v H', Same H H' → RetOk K fr H Z H' v d → Q v H'
  | .err c i => ∀ cls dd H', Same H H' → Err mg c i cls dd H' → E cls dd H'
  | .bad => False
structure FnV (P : Program) (w : World) (K : PySem.W.Frag) (mg : Str → Option Value) (base : Heap) (k : Nat) (x : Str) (n : Nat) (fr : Bool) (f : List Da → R Da) : Prop where
  ex : ∃ (fA : Addr) (fd : FuncData) (ps : List Str), mg x = some (.ref fA) ∧ PySem.W.keepIn K (.ref fA) = true ∧ Binds K fd ps [] ∧ ps.length = n ∧ FnG P w K mg base k fA fd ps (spV K mg n fr f)
def runF (fr : Bool) (fb : En → SRs) (N : Nat) (ds : List Da) : R Da := match fb (ds.map Slot.val ++ List.replicate (N - ds.length) Slot.no) with
  | .go (.rt d) _ => .ok d
  | .go .nx _ => .ok .none
  | .er c i _ => .err c i
  | _ => .bad
section
variable {P : Program} {w : World} {K : PySem.W.Frag} {mg : Str → Option Value} {base : Heap} {k : Nat}
theorem sr_start {B : Bx} {N : List Str} {vs : List V} {ds : List Da} {H : Hp} {Z : Addr → Prop} (hz : ∀ a, Z a → ∃ ls, H a = some (.lst ls)) (h : Vrs B.K (hide Z H) vs ds) (hl : vs.length ≤ N.length) : SR B H Z [] (ds.map Slot.val ++ List.replicate (N.length - ds.length) Slot.no) (start N vs) H := by
  have el := vrs_len h
  have no : ∀ (i : Nat) (es : List Da), (ds.map Slot.val ++ List.replicate (N.length - ds.length) Slot.no)[i]? ≠ some (Slot.own es) := fun i es q => by
    have := List.mem_of_getElem? q
    rcases List.mem_append.mp this with z | z
    · obtain ⟨d, _, z⟩ := List.mem_map.mp z
      cases z
    · have := List.eq_of_mem_replicate z
      cases this
  have nx : ∀ (i : Nat) (c : Str) (n : Int), (ds.map Slot.val ++ List.replicate (N.length - ds.length) Slot.no)[i]? ≠ some (Slot.exc c n) := fun i c n q => by
    have := List.mem_of_getElem? q
    rcases List.mem_append.mp this with z | z
    · obtain ⟨d, _, z⟩ := List.mem_map.mp z
      cases z
    · have := List.eq_of_mem_replicate z
      cases this
  have hh : ∀ a, hid Z (ds.map Slot.val ++ List.replicate (N.length - ds.length) Slot.no) (start N vs) a → Z a := fun a z => z.elim id fun ⟨i, es, q, _⟩ => absurd q (no i es)
  refine ⟨by simp [L2.start]; omega, fun i j es fs a q _ _ _ => absurd q (no i es), fun i d q => ?_, fun i es q => absurd q (no i es), fun g hg => absurd hg (by simp), Same.refl H, hz, fun i c n q => absurd q (nx i c n)⟩
  by_cases hi : i < ds.length
  · rw [List.getElem?_append_left (by simpa using hi), List.getElem?_map] at q
    cases r : ds[i]? with
    | none =>
      rw [r] at q
      cases q
    | some d' =>
      rw [r] at q
      cases q
      obtain ⟨v, g1, g2⟩ := vrs_get h r
      refine ⟨v, ?_, vr_same (hide_to fun a o y m => ⟨fun z => m (hh a z), y⟩) g2⟩
      unfold L2.start
      rw [List.getElem?_append_left (by simp; omega), List.getElem?_map, g1]
      rfl
  · rw [List.getElem?_append_right (by simpa using hi), List.getElem?_replicate] at q
    split at q <;> cases q
theorem fnV_mk {x x' qual : Str} {st : Stmt} {fA : Addr} {fd : FuncData} {N ps : List Str} {fr : Bool} {fb : En → SRs} {n nl : Nat} (F : Fun K x' qual st fA fd) (hm : mg x = some (.ref fA)) (sS : FnScope N ps (defScope st)) (bd : Binds K fd ps []) (hn : ps.length = n) (hnl : N.length = nl) (hle : n ≤ nl)
    (body : ∀ (cdv : Value) (B : Around) (out : List Env) (t : Shared) (G : Hp) (E : XK), B.guards = some [] → Room k (B.deeper (envOfC qual (defScope st) t.heap.objs.size fA cdv)) →
      BV (cxOf (L2.CX P w) P w K mg base N qual (defScope st) fA cdv B out t G E) (fun cls d _ H => E cls d H) fr (defBody st) fb) :
    FnV P w K mg base (k + 1) x n fr (runF fr fb nl) := by
  obtain ⟨oc, od, kV, doc, pm, an, cdv, ct, osl, rfl, lk, hcd⟩ := F.ex
  refine ⟨fA, _, ps, hm, F.kp, bd, hn, fnG_of lk hcd sS (fun ys G wq we q => q.1.trans hn.symm) fun B out t G ys wq we gd rm q => ⟨_, body cdv B out t G we gd rm, ?_⟩⟩
  obtain ⟨hl, Z, ds, hz, hv, q⟩ := q
  subst hnl
  refine ⟨G, Z, [], _, sr_start hz hv (by omega), ?_⟩
  unfold runF at q
  cases r : fb (ds.map Slot.val ++ List.replicate (N.length - ds.length) Slot.no) with
  | go fl ρ =>
    rw [r] at q
    cases fl with
    | nx =>
      intro σ' H' S'
      refine q .non H' S'.base ?_
      cases fr <;> exact .non
    | bk => exact q.elim
    | ct => exact q.elim
    | rt d => exact q
  | er c i ρ =>
    rw [r] at q
    exact fun cls dd σ' H' S' e => q cls dd H' S'.base e
  | bad =>
    rw [r] at q
    exact q.elim
end
section
variable {X : Cx} {W : WX} {c : Bool} {k n : Nat} {x : Str} {p pos : Pos} {e : Expr} {es : List Expr} {f : List Da → R Da} {fl : En → R (List Da)}
theorem FnV.mono {P : Program} {w : World} {K : PySem.W.Frag} {mg : Str → Option Value} {base : Heap} {j k : Nat} {x : Str} {n : Nat} {fr : Bool} {f : List Da → R Da} (F : FnV P w K mg base j x n fr f) (h : j ≤ k) : FnV P w K mg base k x n fr f := by
  obtain ⟨fA, fd, ps, h1, h2, h3, h4, h5⟩ := F
  exact ⟨fA, fd, ps, h1, h2, h3, h4, h5.len, fun B out t G ar ws ys wq we gd rm => h5.run B out t G ar ws ys wq we gd (rm.mono h)⟩
theorem ev_call (F : FnV X.prog X.w X.K X.mg X.base k x n false f) (rm : Room k X.A) (gd : X.A.guards = some []) (tk : Takes X W) (hg : Gl X x) (ha : AV X W c n (e :: es) fl) (hdb : (x == ("__debug__" : Str)) = false := by decide)
    (he : starEach (e :: es) X.env = (false, eval e X.env) :: starEach es X.env := by rfl) (hpl : (backTo pos (starEach es X.env)).any (·.1) = false := by rfl) : EV X W c (.Call (.Name x p) (e :: es) [] pos) (eAp f fl) := by
  obtain ⟨fA, fd, ps, h1, h2, h3, h4, h5⟩ := F
  refine pe_imp (pe_callG h5 rm gd hg h1 h2 h3 (fun σ => passAt tk σ) ha hdb he hpl) fun σ H Q ⟨H0, Z, G, ρ, S, q⟩ => ⟨H0, Z, G, ρ, S, (Arm.bind q).imp fun vs H1 ⟨e1, ds, hd, q1⟩ => ?_⟩
  refine ⟨(vrs_len hd.1).trans hd.2, lv c Z ρ σ, ds, fun a z => (S.grow e1).hidl (lv_hid z), hd.1, ?_⟩
  cases r : f ds with
  | ok d =>
    rw [r] at q1
    exact fun v H' e2 hr => q1 v H' e2 hr
  | err c i =>
    rw [r] at q1
    exact q1
  | bad =>
    rw [r] at q1
    exact q1
def eApF (g : List Da → R Da) (f : En → R (List Da)) : En → R Da := fun ρ => (f ρ).bind fun ds => (g ds).bind fun d => if flat d = true then .ok d else .bad
/-- borrowed arguments, an answer that hangs on no list -/
theorem ev_callF (F : FnV X.prog X.w X.K X.mg X.base k x n false f) (rm : Room k X.A) (gd : X.A.guards = some []) (tk : Takes X W) (hg : Gl X x) (ha : AV X W false n (e :: es) fl) (hdb : (x == ("__debug__" : Str)) = false := by decide)
    (he : starEach (e :: es) X.env = (false, eval e X.env) :: starEach es X.env := by rfl) (hpl : (backTo pos (starEach es X.env)).any (·.1) = false := by rfl) : EV X W c (.Call (.Name x p) (e :: es) [] pos) (eApF f fl) := by
  refine EV.lo (pe_imp (ev_call F rm gd tk hg ha hdb he hpl) fun σ H Q ⟨H0, Z, G, ρ, S, q⟩ => ⟨H0, Z, G, ρ, S, ?_⟩)
  unfold eApF at q
  unfold eAp
  cases r : fl ρ with
  | ok ds =>
    rw [r] at q
    show Arm X W (kV false) Z ρ σ (f ds) H Q
    have q' : Arm X W (kV true) Z ρ σ ((f ds).bind fun d => if flat d = true then .ok d else .bad) H Q := q
    cases r2 : f ds with
    | ok d =>
      rw [r2] at q'
      have q2 : Arm X W (kV true) Z ρ σ (if flat d = true then .ok d else .bad) H Q := q'
      by_cases hf : flat d = true
      · rw [if_pos hf] at q2
        refine fun v H' e1 hv => q2 v H' e1 (flat_vr (fun a o h no => ?_) (show Vr X.K (hide Z H') v d from hv) hf)
        obtain ⟨h1, h2⟩ := hide_eq.mp h
        refine hide_eq.mpr ⟨fun z => z.elim h1 fun ⟨i, es, y1, y2⟩ => ?_, h2⟩
        obtain ⟨b, vs, k1, k2, k3, k4, k5⟩ := (S.grow e1).own i es y1
        rw [y2] at k1
        cases k1
        rw [h2] at k4
        cases k4
        exact no vs rfl
      · rw [if_neg hf] at q2
        exact q2.elim
    | err c i =>
      rw [r2] at q'
      exact q'
    | bad =>
      rw [r2] at q'
      exact q'
  | err x i =>
    rw [r] at q
    exact q
  | bad =>
    rw [r] at q
    exact q
def eApL (g : List Da → R Da) (f : En → R (List Da)) : En → R (List Da) := fun ρ => (f ρ).bind fun ds => (g ds).bind asL
theorem ef_call (F : FnV X.prog X.w X.K X.mg X.base k x n true f) (rm : Room k X.A) (gd : X.A.guards = some []) (tk : Takes X W) (hg : Gl X x) (ha : AV X W true n (e :: es) fl) (hdb : (x == ("__debug__" : Str)) = false := by decide)
    (he : starEach (e :: es) X.env = (false, eval e X.env) :: starEach es X.env := by rfl) (hpl : (backTo pos (starEach es X.env)).any (·.1) = false := by rfl) : EF X W (.Call (.Name x p) (e :: es) [] pos) (eApL f fl) := by
  obtain ⟨fA, fd, ps, h1, h2, h3, h4, h5⟩ := F
  refine pe_imp (pe_callG h5 rm gd hg h1 h2 h3 (fun σ => passAt tk σ) ha hdb he hpl) fun σ H Q ⟨H0, Z, G, ρ, S, q⟩ => ⟨H0, Z, G, ρ, S, ?_⟩
  unfold eApL at q
  cases r : fl ρ with
  | ok ds =>
    rw [r] at q
    refine fun vs H1 e1 hd => ⟨(vrs_len hd.1).trans hd.2, hid Z ρ σ, ds, fun a z => (S.grow e1).hidl z, hd.1, ?_⟩
    have q' : Arm X W kF Z ρ σ ((f ds).bind asL) H Q := q
    cases r2 : f ds with
    | ok d =>
      rw [r2] at q'
      intro v H' e2 hr
      cases d with
      | list es =>
        obtain ⟨p, ws, k1, k3, k4, k5⟩ := hr
        exact q' v H' (e1.trans e2) ⟨p, ws, k1, e1.free k3, k4, k5⟩
      | _ => exact q'.elim
    | err c i =>
      rw [r2] at q'
      exact fun cls dd H' e2 he => q' cls dd H' (e1.trans e2) he
    | bad =>
      rw [r2] at q'
      exact q'
  | err x i =>
    rw [r] at q
    exact q
  | bad =>
    rw [r] at q
    exact q
/-- a def that hands out new lists, its answer as a datum -/
theorem ev_callX (F : FnV X.prog X.w X.K X.mg X.base k x n true f) (rm : Room k X.A) (gd : X.A.guards = some []) (tk : Takes X W) (hg : Gl X x) (ha : AV X W c n (e :: es) fl) (hdb : (x == ("__debug__" : Str)) = false := by decide)
    (he : starEach (e :: es) X.env = (false, eval e X.env) :: starEach es X.env := by rfl) (hpl : (backTo pos (starEach es X.env)).any (·.1) = false := by rfl) : EV X W c (.Call (.Name x p) (e :: es) [] pos) (eAp f fl) := by
  obtain ⟨fA, fd, ps, h1, h2, h3, h4, h5⟩ := F
  refine pe_imp (pe_callG h5 rm gd hg h1 h2 h3 (fun σ => passAt tk σ) ha hdb he hpl) fun σ H Q ⟨H0, Z, G, ρ, S, q⟩ => ⟨H0, Z, G, ρ, S, (Arm.bind q).imp fun vs H1 ⟨e1, ds, hd, q1⟩ => ?_⟩
  refine ⟨(vrs_len hd.1).trans hd.2, lv c Z ρ σ, ds, fun a z => (S.grow e1).hidl (lv_hid z), hd.1, ?_⟩
  cases r : f ds with
  | ok d =>
    rw [r] at q1
    intro v H' e2 hr
    refine q1 v H' e2 ?_
    cases d with
    | list es =>
      obtain ⟨p, ws, k1, k3, k4, k5⟩ := hr
      rw [k1]
      have np : ¬ lv c Z ρ σ p := fun z => (S.grow e1).hidin (lv_hid z) k3
      exact .lst (.of (hide_eq.mpr ⟨np, k4⟩)) (vrs_same (hide_to fun a o h n => ⟨fun z => n (.inl z), h⟩) k5)
    | _ => exact hr
  | err c i =>
    rw [r] at q1
    exact q1
  | bad =>
    rw [r] at q1
    exact q1
end
end VL
namespace PySem
namespace KrX
open PySem.W PySem.Calls PyProof.Rows PySem.HandSPX
/-! ### KerbError.__init__: super().__init__(at); self.at = at -/
def kA : Arguments := { posonlyargs := [], args := [{ arg := "self", annotation := none, pos := ⟨4, 17, 4, 21⟩ }, { arg := "at", annotation := none, pos := ⟨4, 23, 4, 25⟩ }], vararg := none, kwonlyargs := [], kw_defaults := [], kwarg := none, defaults := [] }
def kB : List Stmt := [.Expr (.Call (.Attribute (.Call (.Name "super" ⟨5, 8, 5, 13⟩) [] [] ⟨5, 8, 5, 15⟩) "__init__" ⟨5, 8, 5, 24⟩) [.Name "at" ⟨5, 25, 5, 27⟩] [] ⟨5, 8, 5, 28⟩) ⟨5, 8, 5, 28⟩,
  .Assign [.Attribute (.Name "self" ⟨6, 8, 6, 12⟩) "at" ⟨6, 8, 6, 15⟩] (.Name "at" ⟨6, 18, 6, 20⟩) ⟨6, 8, 6, 20⟩]
def kS : Scope := { kind := .function, names := [(PySem.Str.ofString "self", .local), (PySem.Str.ofString "at", .local), (PySem.Str.ofString "__class__", .free), (PySem.Str.ofString "super", .globalImplicit)], isGenerator := false, isCoroutine := false, more := [] }
/-- what the written part says of KerbError at D, its __init__ at fI, the cell of __class__ at cc -/
structure KrD (prog : Program) (K : Frag) (mg : Str → Option Value) (D fI : Addr) : Prop where
  fn : ∃ (cc cda : Addr) (oc : Value) (od : Option Addr) (doc pm : Value) (an : Option Addr) (ct : Value) (osl : Array (Option Value)) (cl : Value) (cld : Option Addr) (csl : Array (Option Value)) (ccl : Value) (cdd : Option Addr) (vs : Array Value) (ccs : Array (Option Value)) (file : Str) (tf : Tok),
    K.lookup fI = some ⟨oc, od, .func (ksFn "__init__" "KerbError.__init__" kA kB kS .none .none doc pm an (.ref cda) ct cc), osl⟩ ∧ codeIn K (.ref cda) "KerbError.__init__" = true ∧
    K.lookup cc = some ⟨cl, cld, .cell (some (.ref D)), csl⟩ ∧ K.lookup cda = some ⟨ccl, cdd, .fields vs, ccs⟩ ∧ vs[2]? = some (.str file tf) ∧ ((prog.main.file : Str) == file) = true
  clD : ∃ cd, clsIn K D = some cd
  sup : mg "super" = none
  top : (prog.main.scope.names.lookup ("super" : Str)).isSome = false
  opq : nsIn K cStatics "thirdparty.any" = some none
  tI : typeIn K (.ref fI) = some (.type "function")
/-- .. of a class C below it (KerbError itself too) -/
structure KrC (K : Frag) (mg : Str → Option Value) (x : Str) (C D fI : Addr) : Prop where
  gC : mg x = some (.ref C)
  cls : ∃ nm q N bs bm sn sub ab col dd k0 k1 k2 k3 k5, K.lookup C = some (excClassObj nm q C N bs bm true sn sub ab col dd k0 k1 k2 k3 k5 "ValueError.__new__") ∧ refsVE bm = true
  sa : findIn K (.ref C) "__setattr__" = some (some (.builtin "object.__setattr__"))
  ga : findIn K (.ref C) "__getattribute__" = some (some (.builtin "BaseException.__getattribute__"))
  gg : findIn K (.ref C) "__getattr__" = some none
  noN : findIn K (.ref C) "at" = some none
  iC : findIn K (.ref C) "__init__" = some (some (.ref fI))
  kC : keepIn K (.ref C) = true
  exC : subIn K (.ref C) (.type "BaseException") = some true
  veC : subIn K (.ref C) (.type "ValueError") = some true
  tyC : typeIn K (.ref C) = some (.type "type")
  hdC : hasDictIn K C = true
  mro : mroIn K C (.ref D) = some true
  qI : excInitIn K C [.type "ValueError", .type "Exception", .type "BaseException", .type "object"] "ValueError.__new__" = true
  sup : ks_superIn K C D "__init__" = some (some (.builtin "ValueError.__init__"))
structure KrEnd (h h' : Heap) (x C dx t1 : Addr) (v : Value) : Prop where
  keep : ∀ b o, b ≠ x → h.get? b = some o → h'.get? b = some o
  obj : h'.get? x = some { cls := .ref C, dict := some dx, data := .fields #[.ref t1, .none, .none, .none, .bool false, .none] }
  dbig : h.objs.size ≤ dx
  dne : dx ≠ x
  ns : h'.Ns1 dx (fun y => if y = "at" then some v else none)
structure KrMade (h h' : Heap) (e C d : Addr) (v : Value) : Prop where
  keep : ∀ b o, h.get? b = some o → h'.get? b = some o
  new : h.objs.size ≤ e
  obj : ∃ oe vs, h'.get? e = some oe ∧ oe.cls = .ref C ∧ oe.dict = some d ∧ oe.data = .fields vs ∧ vs[1]? = some .none
  dbig : h.objs.size ≤ d
  dne : d ≠ e
  ns : h'.Ns1 d (fun y => if y = "at" then some v else none)
section
variable {prog : Program} {w : World} {A : Around} {E : Value → Shared → Prop} {R : Result → Shared → Prop} {s : Shared} {K : Frag} {mg mb : Str → Option Value} {C D fI : Addr} {nx : Str}
/-- the __init__ run upon a new one at x; h₀: what stood before x -/
theorem krb_init {h₀ : Heap} (T : KrD prog K mg D fI) (U : KrC K mg nx C D fI) {x t0 : Addr} {v : Value} (X₀ : K.In h₀) (G₀ : h₀.Ns mainGlobals mg) (B₀ : h₀.Ns builtinsNs mb) (hb : ∀ y : Str, y ≠ "__name__" → mb y = bootBuiltins y) (hlim : s.heap.NoLimit)
    (k₀ : ∀ b o, h₀.get? b = some o → s.heap.get? b = some o) (hx0 : h₀.objs.size ≤ x) (hx : s.heap.get? x = some (excO C t0)) (hroom : A.depth < recursionLimit)
    (hq : ∀ h' tk dx t1, KrEnd h₀ h' x C dx t1 v → R (.ok (.ret .none)) { s with heap := h', toks := tk }) :
    codeAny (model prog w) A (.call (.ref fI) ⟨[.ref x, v], []⟩) R s := by
  obtain ⟨cc, cda, oc, od, doc, pm, an, ct, osl, cl, cld, csl, ccl, cdd, vs, ccs, file, tf, ho, hcd, hcc, hcda, hvs, hfile⟩ := T.fn
  obtain ⟨cdD, hD⟩ := T.clD
  obtain ⟨nm, q, N, bs, bm, sn, sub, ab, col, dd, k0, k1, k2, k3, k5, hC, hbm⟩ := U.cls
  have hcl : clsIn K C = some { name := nm, bases := bs, mro := .ref C :: bm, ns := N, qualname := q, hasDict := true, slotNames := sn, subclasses := sub, abstract := ab, collection := col, hasDel := false } := by unfold clsIn; rw [hC] <;> rfl
  have X : K.In s.heap := X₀.keeps k₀
  obtain ⟨oD, hD1, hD2⟩ : ∃ oD, h₀.get? D = some oD ∧ oD.data = .cls cdD := by
    unfold clsIn at hD
    split at hD
    · rename_i c d cd' sl hl
      cases hD
      exact ⟨_, X₀ _ _ hl, rfl⟩
    · cases hD
  have hloc : ∀ y ∈ [(("self" : Str), Value.ref x), (("at" : Str), v)], kS.names.lookup y.1 = some .local := fun y hy => by
    rcases List.mem_cons.mp hy with e | hy
    · rw [e]; rfl
    · rw [List.mem_singleton.mp hy]; rfl
  refine ks_codeAny_call_defAt (body := kB) (binds := [(("self" : Str), Value.ref x), (("at" : Str), v)]) hroom (X _ _ ho) rfl hlim (codeRec_of X hcd) rfl (BindsTo.of_eq (by first | rfl | with_unfolding_all rfl)) (show ∀ y ∈ kS.names, y.2 ≠ .cell by decide) hloc (fun h₁ hns hk => ?_) rfl rfl rfl
  have kk : ∀ b o, h₀.get? b = some o → h₁.get? b = some o := fun b o e => hk b o (k₀ b o e)
  have X₁ : K.In h₁ := X₀.keeps kk
  have Fr1 : Fr h₀ s.heap.objs.size h₁ (fun y => [(("self" : Str), Value.ref x), (("at" : Str), v)].reverse.lookup y) := ⟨hns, kk, Nat.le_trans hx0 (Nat.le_of_lt (Heap.lt_size hx))⟩
  have hx₁ : h₁.get? x = some (excO C t0) := hk _ _ hx
  have xL : x ≠ s.heap.objs.size := Nat.ne_of_lt (Heap.lt_size hx)
  have x0 : h₀.get? x = none := Heap.get?_none_of_le hx0
  have N1 : News h₀ s.heap.objs.size h₁ [(x, excO C t0)] := fun p hp => by
    cases (List.mem_singleton.mp hp)
    exact ⟨hx₁, xL, x0⟩
  show wpAt (model prog w) (A.deeper (ksEnv "KerbError.__init__" kS s.heap.objs.size fI (.ref cda) cc)) (.func kB (ksEnv "KerbError.__init__" kS s.heap.objs.size fI (.ref cda) cc))
    (execs kB (ksEnv "KerbError.__init__" kS s.heap.objs.size fI (.ref cda) cc)) _ _ _
  refine ks_wpAt_execs_cons ?_
  refine ks_wpAt_Expr_any ?_ rfl rfl
  refine ks_wpAt_MethodCall ?_ (by rfl)
  refine ks_wpAt_super_base (f := fI) (fd := ksFn "__init__" "KerbError.__init__" kA kB kS .none .none doc pm an (.ref cda) ct cc) (ar := { arg := "self", annotation := none, pos := ⟨4, 17, 4, 21⟩ }) (cc := cda) rfl rfl (by decide) rfl (X₁ _ _ ho) rfl rfl rfl (X₁ _ _ hcda) rfl hvs hfile T.top ?_
  refine ks_loadName_global rfl rfl (loadGlobal_builtin (G₀.keeps kk) T.sup (B₀.keeps kk) ((hb _ (by decide)).trans (by first | rfl | kernel_rfl | decide +kernel)) ⟨rfl, ?_⟩)
  refine wpAny_loadName_free rfl rfl rfl ⟨_, X₁ _ _ hcc, rfl⟩ ?_
  refine wpAny_loadName_local rfl rfl hns (v := .ref x) rfl ?_
  refine ks_wpAny_isType_cls (kk _ _ hD1) hD2 ⟨rfl, ?_⟩
  refine ks_wpAny_call_super (kk _ _ hD1) hD2 hx₁ rfl (fun c z => by cases z) (looks_mroIn X₁ U.mro) (fun h₂ e2 k2 => ?_)
  have k12 : ∀ b o, h₁.get? b = some o → h₂.get? b = some o := k2
  have X₂ : K.In h₂ := X₁.keeps k12
  have I₂ : InstAt h₂ x (excO C t0) C none := ⟨k12 _ _ hx₁, rfl, rfl, trivial⟩
  have hm : alongIn K "__init__" (((Value.ref C :: bm).dropWhile (· != .ref D)).drop 1) = some (some (.builtin "ValueError.__init__")) := by
    have z := U.sup
    unfold ks_superIn at z
    rw [hcl] at z
    exact z
  have hI : Looks (model prog w) h₂ (isInstance (.ref x) (.type "ValueError")) true := I₂.type.andThen (looks_subIn X₂ U.veC)
  have hmro : Looks (model prog w) h₂ (mroOf (.ref C)) (.ref C :: bm) := (looks_clsIn X₂ hcl).andThen .now
  refine kxs_getMethod kxs_ValueError e2 (looks_opaque X₂ T.opq) hmro rfl X₂ hm hI (ks_ne X₂ I₂ hcl) (by decide) ?_
  have k13 : ∀ b o, h₁.get? b = some o → (h₂.push (kxs_mw "ValueError.__init__" x)).get? b = some o := fun b o e => Heap.get?_push_of_some _ (k12 b o e)
  have hu : (h₂.push (kxs_mw "ValueError.__init__" x)).get? h₂.objs.size = some (kxs_mw "ValueError.__init__" x) := Heap.get?_push_at rfl rfl
  have Fr3 : Fr h₀ s.heap.objs.size (h₂.push (kxs_mw "ValueError.__init__" x)) (fun y => [(("self" : Str), Value.ref x), (("at" : Str), v)].reverse.lookup y) := ⟨hns.keeps k13, fun b o e => k13 b o (kk b o e), Fr1.above⟩
  have xu : h₂.objs.size ≠ x := Nat.ne_of_gt (Heap.lt_size (k12 _ _ hx₁))
  have uL : h₂.objs.size ≠ s.heap.objs.size := by
    obtain ⟨oL, _, _, hL, _⟩ := hns.keeps k12
    exact Nat.ne_of_gt (Heap.lt_size hL)
  have u0 : h₀.get? h₂.objs.size = none := by
    cases z : h₀.get? h₂.objs.size with
    | none => rfl
    | some o => exact absurd (Heap.lt_size (k12 _ _ (kk _ _ z))) (Nat.lt_irrefl _)
  have N3 : News h₀ s.heap.objs.size (h₂.push (kxs_mw "ValueError.__init__" x)) [(h₂.objs.size, kxs_mw "ValueError.__init__" x), (x, excObj C t0 none .none)] := fun p hp => by
    rcases List.mem_cons.mp hp with e | hp
    · rw [e]
      exact ⟨hu, uL, u0⟩
    · rw [List.mem_singleton.mp hp]
      exact ⟨k13 _ _ hx₁, xL, x0⟩
  refine kxs_callWith (i := "ValueError.__init__") (x := x) rfl (evalArgs_plain ?_)
  refine spliced_cons ?_
  refine wpAny_Name (wpAny_loadName_local rfl rfl Fr3.ns (v := v) rfl ?_) (by decide)
  refine spliced_nil ⟨hu, ?_⟩
  refine kxs_call (dv := none) (c2 := .none) Fr3 X₀ N3 F.excBase_ValueError U.qI List.mem_cons_self (UpdF.tail xu (UpdF.head fun p hp => absurd hp (by simp))) (by rw [sizeLine_eq]; exact Nat.le_of_ble_eq_true rfl) (fun t1 h4 F4 N4 _ => ?_)
  have hx4 : h4.get? x = some (excO C t1) := (N4 (x, excObj C t1 none .none) (by simp)).1
  have X4 : K.In h4 := X₀.keeps F4.keep
  show wpAt _ _ _ (execs _ _) _ _ _
  refine ks_wpAt_execs_cons ?_
  refine ks_wpAt_Assign_Attr (wpAt_of_wpAny ?_) (by rfl)
  refine wpAny_Name (wpAny_loadName_local rfl rfl F4.ns (v := v) rfl ?_) (by decide)
  refine wpAny_Name (wpAny_loadName_local rfl rfl F4.ns (v := .ref x) rfl ?_) (by decide)
  refine set_plain X4 (ox := excO C t1) (od := none) ⟨hx4, rfl, rfl, trivial⟩ U.sa ?_
  refine exc_osa X4 hx4 hcl (show refsVE (.ref C :: bm) = true from hbm) rfl U.noN (fun h5 tk5 dx k5 dn dne hx5 hn5 => ?_)
  show wpAt _ _ _ (execs _ _) _ _ _
  refine wpAt_of_wpAny (wpAny_execs_nil ?_)
  have s0 : h₀.objs.size ≤ h4.objs.size := by
    obtain ⟨oL, _, _, hL, _⟩ := F4.ns
    exact Nat.le_trans Fr1.above (Nat.le_of_lt (Heap.lt_size hL))
  exact hq h5 tk5 dx t1 ⟨fun b o hb e => k5 b o hb (F4.keep b o e), hx5, Nat.le_trans s0 dn, dne, hn5⟩
/-- C(v) -/
theorem krb_made (T : KrD prog K mg D fI) (U : KrC K mg nx C D fI) {v : Value} (X : K.In s.heap) (G₀ : s.heap.Ns mainGlobals mg) (B₀ : s.heap.Ns builtinsNs mb) (hb : ∀ y : Str, y ≠ "__name__" → mb y = bootBuiltins y) (hlim : s.heap.NoLimit) (hroom : A.depth + 1 < recursionLimit)
    (hq : ∀ h' tk e d, KrMade s.heap h' e C d v → R (.ok (.ret (.ref e))) { s with heap := h', toks := tk }) :
    codeAny (model prog w) A (.call (.ref C) ⟨[v], []⟩) R s := by
  obtain ⟨nm, q, N, bs, bm, sn, sub, ab, col, dd, k0, k1, k2, k3, k5, hC, hbm⟩ := U.cls
  obtain ⟨hp, g, dr, tk, os⟩ := s
  have k : ∀ b o, hp.get? b = some o → ((hp.push (kdv_tup [v])).push (excO C hp.objs.size)).get? b = some o := fun b o e => Heap.get?_push_of_some _ (Heap.get?_push_of_some _ e)
  have hget : ((hp.push (kdv_tup [v])).push (excO C hp.objs.size)).get? (hp.objs.size + 1) = some (excO C hp.objs.size) := by heap_get
  refine call_own F.excBase_ValueError (fun X => refsVE_contains X bm hbm) (X _ _ hC) (looks_findIn X U.iC) (fun self => bind_fn X self T.tI) (show [v].length ≤ sizeLine by rw [sizeLine_eq]; exact Nat.le_of_ble_eq_true rfl) ?_
  refine krb_init (s := ⟨(hp.push (kdv_tup [v])).push (excO C hp.objs.size), g, dr, tk, os⟩) T U X G₀ B₀ hb (hlim.keeps k) k (Nat.le_succ _) hget ?_ fun h' tk' dx t1 M => ?_
  · show A.depth + 1 < recursionLimit
    exact hroom
  · exact ⟨rfl, hq h' tk' (hp.objs.size + 1) dx ⟨fun b o e => M.keep b o (Nat.ne_of_lt (Nat.lt_succ_of_lt (Heap.lt_size e))) e, Nat.le_succ _, ⟨_, _, M.obj, rfl, rfl, rfl, rfl⟩, M.dbig, M.dne, M.ns⟩⟩
end
end KrX
end PySem
namespace L2
open PySem PySem.Spec PyProof.Rows
theorem relO_at {v : V} {v' : Value} (r : RelV v v') (f : Str) : RelO (List.lookup f [(("at" : Str), v)]) (if f = "at" then some v' else none) := by
  by_cases hw : f = "at"
  · subst hw
    rw [if_pos rfl, show List.lookup ("at" : Str) [(("at" : Str), v)] = some v by simp [List.lookup]]
    exact r
  · have qw : (f == ("at" : Str)) = false := by simpa using hw
    rw [if_neg hw, show List.lookup f [(("at" : Str), v)] = none by simp [List.lookup, qw]]
    trivial
section
variable {X : Cx} {C D fI : Addr} {x : Str}
/-- C(e) -/
def tMkKr (C : Addr) (ta : TA) : St → Hp → XK → Prop := fun σ H Q => ta σ H fun vs H1 => ∃ v, vs = [v] ∧ ∀ d, H1 d = none → Q (.ref C) (some d) (upd H1 d (.xd [(("at" : Str), v)]))
theorem pmk_krb {a : Expr} {ta : TA} {p pos : Pos} {k : Nat} (T : PySem.KrX.KrD X.prog X.K X.mg D fI) (U : PySem.KrX.KrC X.K X.mg x C D fI) (hr : Room k X.A) (ha : PA X [a] ta) (hg : Gl X x) (hdb : (x == ("__debug__" : Str)) = false := by decide)
    (he : starEach (a :: []) X.env = (false, eval a X.env) :: starEach [] X.env := by rfl) (hpl : (backTo pos (starEach [] X.env)).any (·.1) = false := by rfl) :
    PMk X (.Call (.Name x p) [a] [] pos) (tMkKr C ta) := by
  intro pins s σ H Q I h
  refine wpAny_Call_Name_kw (ld_glob I hg U.gC ?_ hdb)
  refine PySem.W.callWith_K (h₀ := X.base) I.ok.mod.kin U.kC (thn (ha.run pos pins s σ H _ I h) fun us s1 hh => ?_) he hpl
  obtain ⟨vs, H1, I1, r1, v, ev, q1⟩ := hh
  subst ev
  refine ⟨I1.kIn, ?_⟩
  cases r1 with
  | cons rv rn =>
    rename_i v' us'
    cases rn
    show wpAny _ _ (call (.ref C) [v']) _ _ _
    have hlim := I1.nolimit
    obtain ⟨mb, B1, B2⟩ := I1.mod.blt
    have G1 := I1.mod.glob.keeps I1.bk
    have B3 := B1.keeps I1.bk
    obtain ⟨hp, g, dr, tk, os⟩ := s1
    refine wpAny_call (PySem.KrX.krb_made T U I1.kIn G1 B3 B2 hlim (by have := hr.dp; omega) fun h' tk' e d M => ?_)
    show MkP X pins σ Q (.ref e) ⟨h', g, dr, tk', os⟩
    obtain ⟨oe, fv, hoe, hc, hd, hdat, h1⟩ := M.obj
    have hns := M.ns
    obtain ⟨G', g1, g2⟩ := restrict h' fun b => decide (b ≠ e)
    have gk : ∀ b, b ≠ e → G'.get? b = h'.get? b := fun b hb => g1 b (decide_eq_true hb)
    have ge : G'.get? e = none := g2 e (by simp)
    have old : ∀ b o, hp.get? b = some o → G'.get? b = some o := fun b o q => (gk b (Nat.ne_of_lt (Nat.lt_of_lt_of_le (Heap.lt_size q) M.new))).trans (M.keep b o q)
    have ob : ObjOk X.prog X.w (upd H1 d (.xd [(("at" : Str), v)])) G' d (.xd [(("at" : Str), v)]) := ⟨_, hns.at (fun o q => (gk d M.dne).trans q), fun f => relO_at rv f⟩
    have J : Inv X pins σ (upd H1 d (.xd [(("at" : Str), v)])) ⟨G', g, dr, tk', os⟩ := I1.laid (t' := tk') old M.dbig ob
    refine ⟨e, oe, fv, ⟨G', g, dr, tk', os⟩, _, .ref C, some d, rfl, J, fun b o q => ?_, ge, hoe, ⟨hc, hd⟩, hdat, h1, ?_, rfl, I1.bare, raises_own U.exC U.tyC, q1 d (I1.hok.fresh M.dbig)⟩
    · by_cases hb : b = e
      · have q' : G'.get? b = some o := q
        rw [hb, ge] at q'; cases q'
      · exact (gk b hb).symm.trans q
    · rw [upd_ne (Ne.symm M.dne)]
      exact I1.hok.fresh M.new
end
end L2
namespace VL
open PySem PySem.Spec PyProof.Rows L2 PySem.KrX
/-! ### the program's errors: a table of their names -/
structure Krs (prog : Program) (K : PySem.W.Frag) (mg : Str → Option Value) (D fI : Addr) (tb : List Str) : Prop where
  d : KrD prog K mg D fI
  gD : mg "KerbError" = some (.ref D)
  sD : PySem.W.subIn K (.ref D) (.type "BaseException") = some true
  hD : PySem.W.hasDictIn K D = true
  tD : PySem.W.typeIn K (.ref D) = some (.type "type")
  c : ∀ x ∈ tb, ∃ C, KrC K mg x C D fI
  cl : ∀ x ∈ tb, ∀ C, mg x = some (.ref C) → PySem.W.findIn K (.ref C) "__class__" = some (some (.builtin "object.__class__")) ∧ PySem.W.mroIn K C (.type "object") = some true
  gt : PySem.W.specialIn K (.builtin "object.__class__") "__get__" = some (some (.builtin "getset_descriptor.__get__"))
  tk : PySem.W.takesIn K (.builtin "object.__class__") = some true
  kit : ∀ x ∈ tb, ∀ y ∈ tb, ∀ C C', mg x = some (.ref C) → mg y = some (.ref C') → PySem.W.kitOne K (.ref C) (.ref C') = some (x == y)
section
variable {X : Cx} {W : WX} {fr c : Bool} {a b e : Expr} {es : List Expr} {fa fb : En → R Da} {fl fm : En → R (List Da)} {f g : En → SRs} {pos p : Pos} {n : Nat} {D fI : Addr} {tb : List Str} {x : Str}
def sRaise (x : Str) (f : En → R Da) : En → SRs := fun ρ => sB (f ρ) ρ fun d => match d with
  | .int i => .er x i ρ
  | _ => .bad
theorem sv_raise {k : Nat} {pos2 : Pos} (hc : X.calm = true) (T : Krs X.prog X.K X.mg D fI tb) (hx : x ∈ tb) (hr : Room k X.A) (tk : Takes X W) (ha : EV X W false a fa) (hg : Gl X x) (hdb : (x == ("__debug__" : Str)) = false := by decide)
    (he : starEach (a :: []) X.env = (false, eval a X.env) :: starEach [] X.env := by rfl) (hpl : (backTo pos (starEach [] X.env)).any (·.1) = false := by rfl) :
    SV X W fr (.Raise (some (.Call (.Name x p) [a] [] pos)) none pos2) (sRaise x fa) := by
  obtain ⟨C, U⟩ := T.c x hx
  refine ps_imp (ps_raise hc tk (pmk_krb T.d U hr (pa_cons ha pa_nil he) hg hdb he hpl)) fun Dd σ H ⟨H0, Z, G, ρ, S, h⟩ => ⟨H0, Z, G, ρ, S, (SArm.bind S h).imp fun v H1 ⟨e1, d, hd, h1⟩ => ?_⟩
  have hd' : Vr X.K (hide Z H1) v d := hd
  cases hd' with
  | int i => exact ⟨_, rfl, fun dd hdd => h1 _ _ σ _ ((S.grow e1).grow (same_upd hdd)) ⟨C, dd, U.gC, rfl, rfl, upd_same⟩⟩
  | _ => exact h1.elim
/-! try: .. except KerbError as e: .. -/
def noExc (ρ : En) : Bool := ρ.all fun s => match s with
  | .exc _ _ => false
  | _ => true
def sTry (tb : List Str) (i : Nat) (body suite : En → SRs) : En → SRs := fun ρ => match body ρ with
  | .er c n ρ' => if tb.contains c = true ∧ noExc ρ' = true then (match suite (ρ'.set i (.exc c n)) with
    | .go fl ρ'' => if noExc (ρ''.set i .no) = true then .go fl (ρ''.set i .no) else .bad
    | _ => .bad) else .bad
  | r => r
theorem no_exc {ρ : En} (h : noExc ρ = true) (i : Nat) (c : Str) (n : Int) : ρ[i]? ≠ some (Slot.exc c n) := fun q => by
  have := List.all_eq_true.mp h _ (List.mem_of_getElem? q)
  cases this
/-- into an except suite, and out of it -/
theorem SR.sx {K : PySem.W.Frag} {mg : Str → Option Value} {s1 s2 : Option (Addr × Obj)} {H0 H : Hp} {Z : Addr → Prop} {G : Gh} {ρ : En} {σ : Sg} (S : SR ⟨K, mg, s1⟩ H0 Z G ρ σ H) (h : noExc ρ = true) : SR ⟨K, mg, s2⟩ H0 Z G ρ σ H :=
  ⟨S.len, S.inj, S.val, S.own, S.gh, S.base, S.zin, fun i c n q => absurd q (no_exc h i c n)⟩
theorem ownAt_set_exc {ρ : En} {σ : Sg} {c : Str} {n : Int} {i : Nat} {v : Option V} {a : Addr} (h : OwnAt (ρ.set i (.exc c n)) (σ.set i v) a) : OwnAt ρ σ a := by
  obtain ⟨j, ds, h1, h2⟩ := h
  obtain ⟨e, h1⟩ := set_other h1 (fun z => nomatch z)
  rw [List.getElem?_set_ne e] at h2
  exact ⟨j, ds, h1, h2⟩
theorem SR.set_exc {B : Bx} {H0 H : Hp} {Z : Addr → Prop} {G : Gh} {ρ : En} {σ : Sg} {i : Nat} {c : Str} {n : Int} {ad : Addr} {oe : Obj} {C d : Addr} (S : SR B H0 Z G ρ σ H) (h1 : B.sx = some (ad, oe)) (h2 : oe.cls = .ref C) (h3 : oe.dict = some d) (h4 : ∃ vs, oe.data = .fields vs)
    (h5 : B.mg c = some (.ref C)) (h6 : H d = some (.xd [(("at" : Str), V.int n)])) (hd : ¬ hid Z ρ σ d) : SR B H0 Z G (ρ.set i (.exc c n)) (σ.set i (some (.ref ad))) H := by
  have hh : ∀ a, hid Z (ρ.set i (.exc c n)) (σ.set i (some (.ref ad))) a → hid Z ρ σ a := fun a z => z.imp id ownAt_set_exc
  have up : Same (hide (hid Z ρ σ) H) (hide (hid Z (ρ.set i (.exc c n)) (σ.set i (some (.ref ad)))) H) := hide_to fun a o h n => ⟨fun z => n (hh a z), h⟩
  refine ⟨by simp [S.len], fun j k ds es a g1 g2 g3 g4 => ?_, fun j e he => ?_, fun j ds he => ?_, fun g hg => g.mono up up (S.gh g hg), S.base, S.zin, fun j c' n' he => ?_⟩
  · obtain ⟨n1, g1⟩ := set_other g1 (fun z => nomatch z)
    obtain ⟨n2, g2⟩ := set_other g2 (fun z => nomatch z)
    rw [List.getElem?_set_ne n1] at g3
    rw [List.getElem?_set_ne n2] at g4
    exact S.inj j k ds es a g1 g2 g3 g4
  · obtain ⟨n1, g1⟩ := set_other he (fun z => nomatch z)
    obtain ⟨v, k1, k2⟩ := S.val j e g1
    exact ⟨v, (List.getElem?_set_ne n1).trans k1, vr_same up k2⟩
  · obtain ⟨n1, g1⟩ := set_other he (fun z => nomatch z)
    obtain ⟨b, vs, k1, k2, k3, k4, k5⟩ := S.own j ds g1
    exact ⟨b, vs, (List.getElem?_set_ne n1).trans k1, k2, k3, k4, vrs_same up k5⟩
  · by_cases ej : i = j
    · subst ej
      have hl : i < ρ.length := by
        have := (List.getElem?_eq_some_iff.mp he).1
        simpa using this
      rw [List.getElem?_set_self hl] at he
      cases he
      exact ⟨ad, oe, C, d, h1, h2, h3, h4, h5, List.getElem?_set_self (by rw [← S.len]; exact hl), up _ _ (hide_eq.mpr ⟨hd, h6⟩)⟩
    · rw [List.getElem?_set_ne ej] at he
      obtain ⟨a, oe', C', d', k1, k2, k3, k4, k5, k6, k7⟩ := S.exc j c' n' he
      exact ⟨a, oe', C', d', k1, k2, k3, k4, k5, (List.getElem?_set_ne ej).trans k6, up _ _ k7⟩
theorem sarm_sx {X X' : Cx} {W W' : WX} {H0 : Hp} {Z : Addr → Prop} {G : Gh} {D D' : Ends} {i : Nat} {r : SRs} (hK : X'.K = X.K)
    (h : SArm X W fr H0 Z G D (match r with
      | .go fl ρ'' => if noExc (ρ''.set i .no) = true then .go fl (ρ''.set i .no) else .bad
      | _ => .bad))
    (hs : ∀ ρ σ H, noExc (ρ.set i .no) = true → SR X'.bx H0 Z G ρ σ H → SR X.bx H0 Z G (ρ.set i .no) (σ.set i none) H)
    (h1 : ∀ σ H, D.nx (σ.set i none) H → D'.nx σ H) (h2 : ∀ σ H, D.bk (σ.set i none) H → D'.bk σ H) (h3 : ∀ σ H, D.ct (σ.set i none) H → D'.ct σ H) (h4 : ∀ v H, D.rt v H → D'.rt v H) : SArm X' W' fr H0 Z G D' r := by
  cases r with
  | go fl ρ =>
    have h' : SArm X W fr H0 Z G D (if noExc (ρ.set i .no) = true then .go fl (ρ.set i .no) else .bad) := h
    by_cases z : noExc (ρ.set i .no) = true
    · rw [if_pos z] at h'
      cases fl with
      | nx => exact fun σ H S => h1 σ H (h' _ H (hs ρ σ H z S))
      | bk => exact fun σ H S => h2 σ H (h' _ H (hs ρ σ H z S))
      | ct => exact fun σ H S => h3 σ H (h' _ H (hs ρ σ H z S))
      | rt d => exact fun v H e k => h4 v H (h' v H e (hK ▸ k))
    · rw [if_neg z] at h'
      exact h'.elim
  | er c n ρ => exact h.elim
  | bad => exact h.elim
theorem sv_try {i : Nat} {nm : Str} {body suite : List Stmt} {b₀ : Stmt} {np pos' : Pos} (T : Krs X.prog X.K X.mg D fI tb) (hc0 : X.calm = true) (hs : X.stack = X.env :: X.outer) (hf : X.env.frame = some X.env.locals) (hN : X.N.Nodup) (hi : X.N[i]? = some nm) (hln : X.env.kindOf nm = some .local) (hgK : Gl X "KerbError") (tk : Takes X W)
    (hb : ∀ (W' : WX) (pn : List (Addr × Obj)) (xe : Value → Shared → Prop), Takes (X.tr pn xe) W' → PassesOwn (model X.prog X.w) X.A X.env xe → BV (X.tr pn xe) W' fr body f)
    (hsu : ∀ (ad : Addr) (oe : Obj) (pn : List (Addr × Obj)), BV (X.suite ad ((ad, oe) :: pn)) W0 fr (b₀ :: suite) g) :
    SV X W fr (.Try body [.ExceptHandler (some (.Name "KerbError" np)) (some nm) (b₀ :: suite) pos'] [] [] pos) (sTry tb i f g) := by
  have bt : ∀ pn xe, (X.tr pn xe).bx = ⟨X.K, X.mg, none⟩ := fun pn xe => by
    show (⟨X.K, X.mg, if X.calm = true then none else pn.head?⟩ : Bx) = _
    rw [if_pos hc0]
  have bX : X.bx = ⟨X.K, X.mg, none⟩ := by
    show (⟨X.K, X.mg, if X.calm = true then none else X.pn.head?⟩ : Bx) = _
    rw [if_pos hc0]
  refine ps_imp (ps_try_as (c := .ref D) (tb := fun W' => fun Dd σ H => ∃ H0 Z G ρ, SR ⟨X.K, X.mg, none⟩ H0 Z G ρ σ H ∧ SArm X W' fr H0 Z G Dd (f ρ) ∧ True)
    (ts := fun ad cls d => fun Dd σ H => ∃ H0 Z G ρ, ∀ oe pn, Zc cls d oe → (∃ vs, oe.data = .fields vs) → SR (X.suite ad ((ad, oe) :: pn)).bx H0 Z G ρ σ H ∧ SArm (X.suite ad ((ad, oe) :: pn)) W0 fr H0 Z G Dd (g ρ))
    hs hf hN hi hln ⟨hgK, by decide, .inl T.gD⟩ tk (fun W' pn xe t1 t2 => pss_imp (hb W' pn xe t1 t2) fun Dd σ H ⟨H0, Z, G, ρ, S, h, _⟩ => ⟨H0, Z, G, ρ, by rw [bt]; exact S, ?_⟩)
    (fun ad oe cls d pn z1 z2 => pss_imp (hsu ad oe pn) fun Dd σ H ⟨H0, Z, G, ρ, h⟩ => ⟨H0, Z, G, ρ, (h oe pn z1 z2).1, (h oe pn z1 z2).2⟩)) fun Dd σ H ⟨H0, Z, G, ρ, S, h⟩ => ?_
  · have : ∀ r, SArm X W' fr H0 Z G Dd r → SArm (X.tr pn xe) W' fr H0 Z G Dd r := fun r q => by
      cases r with
      | go fl ρ =>
        cases fl with
        | nx => exact fun σ H S => q σ H (by rw [bX, ← bt pn xe]; exact S)
        | bk => exact fun σ H S => q σ H (by rw [bX, ← bt pn xe]; exact S)
        | ct => exact fun σ H S => q σ H (by rw [bX, ← bt pn xe]; exact S)
        | rt d => exact q
      | er c n ρ => exact fun cls dd σ H S e => q cls dd σ H (by rw [bX, ← bt pn xe]; exact S) e
      | bad => exact q
    exact this _ h
  · rw [bX] at S
    refine ⟨H0, Z, G, ρ, S, ?_, trivial⟩
    unfold sTry at h
    cases r : f ρ with
    | go fl ρ1 =>
      rw [r] at h
      cases fl <;> exact h
    | bad =>
      rw [r] at h
      exact h
    | er ce n ρ1 =>
      rw [r] at h
      have h' : SArm X W fr H0 Z G Dd (if tb.contains ce = true ∧ noExc ρ1 = true then (match g (ρ1.set i (.exc ce n)) with
        | .go fl ρ'' => if noExc (ρ''.set i .no) = true then .go fl (ρ''.set i .no) else .bad
        | _ => .bad) else .bad) := h
      by_cases z : tb.contains ce = true ∧ noExc ρ1 = true
      · rw [if_pos z] at h'
        intro cls dd σ1 H1 S1 er
        rw [bX] at S1
        obtain ⟨C, d, e1, e2, e3, e4⟩ := er
        subst e2 e3
        obtain ⟨C', U⟩ := T.c ce (by simpa using z.1)
        have eC : C' = C := by
          have := U.gC.symm.trans e1
          cases this
          rfl
        subst eC
        refine ⟨true, PySem.W.exm_ref T.sD T.hD T.tD U.mro, fun _ ad hna => ⟨H0, Z, G, ρ1.set i (.exc ce n), fun oe pn z1 z2 => ?_⟩, fun q => nomatch q⟩
        have bS : (X.suite ad ((ad, oe) :: pn)).bx = ⟨X.K, X.mg, some (ad, oe)⟩ := rfl
        rw [bS]
        have nd : ¬ hid Z ρ1 σ1 d := fun q => by
          obtain ⟨ls, q⟩ := S1.hidl q
          rw [e4] at q
          cases q
        refine ⟨SR.set_exc (S1.sx z.2) rfl z1.1 z1.2 z2 e1 e4 nd, ?_⟩
        refine sarm_sx (X := X) (i := i) rfl h' (fun ρ σ H q S => ?_) (fun σ H q => q) (fun σ H q => q) (fun σ H q => q) (fun v H q => q)
        rw [bX]
        rw [bS] at S
        exact S.set_no.sx q
      · rw [if_neg z] at h'
        exact h'.elim
/-! within the suite: e.at, isinstance(e, T) -/
def eAt (tb : List Str) (i : Nat) : En → R Da := fun ρ => match ρ[i]? with
  | some (.exc c n) => if tb.contains c = true then .ok (.int n) else .bad
  | _ => .bad
def eIs (tb : List Str) (i : Nat) (t : Str) : En → R Da := fun ρ => match ρ[i]? with
  | some (.exc c _) => if tb.contains c = true then .ok (.bool (c == t)) else .bad
  | _ => .bad
section
variable {ad : Addr} {oe : Obj} {pn : List (Addr × Obj)} {i : Nat} {nm t : Str} {p1 : Pos}
theorem SR.excat {H0 H : Hp} {Z : Addr → Prop} {G : Gh} {ρ : En} {σ : Sg} {cc : Str} {m : Int} (T : Krs X.prog X.K X.mg D fI tb) (S : SR (X.suite ad ((ad, oe) :: pn)).bx H0 Z G ρ σ H) (h : ρ[i]? = some (.exc cc m)) (z : tb.contains cc = true) :
    ∃ C d, KrC X.K X.mg cc C D fI ∧ oe.cls = .ref C ∧ oe.dict = some d ∧ (∃ vs, oe.data = .fields vs) ∧ σ[i]? = some (some (V.ref ad)) ∧ H d = some (.xd [(("at" : Str), V.int m)]) := by
  obtain ⟨a, oe', C, d, h1, h2, h3, h4, h5, h6, h7⟩ := S.exc i cc m h
  have e : (ad, oe) = (a, oe') := Option.some.inj h1
  cases e
  obtain ⟨C', U⟩ := T.c cc (by simpa using z)
  have eC : C' = C := by
    have := U.gC.symm.trans h5
    cases this
    rfl
  subst eC
  exact ⟨C', d, U, h2, h3, h4, h6, (hide_eq.mp h7).2⟩
theorem ev_at (T : Krs X.prog X.K X.mg D fI tb) (hx : PE (X.suite ad ((ad, oe) :: pn)) (.Name nm p) (tVar i))
    (hb : attributeBase (.Name nm p) "at" X.env (eval (.Name nm p) X.env) = eval (.Name nm p) X.env := by rfl) : EV (X.suite ad ((ad, oe) :: pn)) W c (.Attribute (.Name nm p) "at" pos) (eAt tb i) :=
  ⟨fun pins s σ H Q I ⟨H0, Z, G, ρ, S, q⟩ => by
    unfold eAt at q
    split at q
    next cc m hd =>
      by_cases z : tb.contains cc = true
      · rw [if_pos z] at q
        obtain ⟨C, d, U, h2, h3, h4, h6, h7⟩ := S.excat T hd z
        exact (pe_xf (X := X) (pn := pn) ⟨U.ga, U.gg, U.exC, U.hdC⟩ U.noN ⟨h2, h3⟩ h4 hx hb).run pins s σ H Q I ⟨.ref ad, h6, rfl, rfl, d, _, .int m, rfl, h7, by simp [List.lookup], q _ H (Same.refl _) (.int m)⟩
      · rw [if_neg z] at q
        exact q.elim
    next => exact q.elim⟩
/-- isinstance(e, c), e the exception that the suite holds -/
def rIsX (K : PySem.W.Frag) (ad : Addr) (oe : Obj) : List V → Hp → VK → Prop := fun xs H Q => ∃ (C C' d : Addr) (fs : List (Str × V)) (b : Bool), xs = [.ref ad, .ref C'] ∧ oe.cls = .ref C ∧ oe.dict = some d ∧ (∃ vs, oe.data = .fields vs) ∧ H d = some (.xd fs) ∧
  (∀ od x, PySem.W.KitX K (.ref x) (.ref C) (fun h => PySem.W.InstAt h x oe C od)) ∧ PySem.W.kitOne K (.ref C) (.ref C') = some b ∧ Q (.bl b) H
theorem call_isX : CallR (X.suite ad ((ad, oe) :: pn)) (.builtin "isinstance") (rIsX X.K ad oe) := by
  intro pins s σ H xs us Q I r h
  obtain ⟨C, C', d, fs, b, rfl, hc, hd, ⟨vs, hv⟩, hH, hK, e, q⟩ := h
  cases r with
  | cons rx rr =>
    cases rr with
    | cons rt rr =>
      cases rr
      cases rx
      cases rt
      obtain ⟨hget, _⟩ := I.pin (ad, oe) (List.mem_append.mpr (.inl List.mem_cons_self))
      have hx : ObjOk X.prog X.w H s.heap d (.xd fs) := I.hok d _ hH
      obtain ⟨mA, hns, hr⟩ := hx
      obtain ⟨od, ho, hl⟩ := lookIn_ns hns
      have J : PySem.W.InstAt s.heap ad oe C (some od) := ⟨hget, hc, by unfold PySem.W.notCls; rw [hv] <;> rfl, by rw [hd]; exact ho⟩
      exact PySem.W.kia_one (hK (some od) ad) I.kIn J e (fun z => nomatch z) fun tk => ⟨.bl b, H, I.kept (t' := tk) fun _ _ z => z, rfl, q⟩
theorem ev_is {px : Pos} (T : Krs X.prog X.K X.mg D fI tb) (ht : t ∈ tb) (hx : PE (X.suite ad ((ad, oe) :: pn)) (.Name nm p) (tVar i)) (hg : Gl (X.suite ad ((ad, oe) :: pn)) "isinstance") (hm : X.mg "isinstance" = none) (hgt : Gl (X.suite ad ((ad, oe) :: pn)) t) (hdt : (t == ("__debug__" : Str)) = false := by decide)
    (he : starEach [.Name nm p, .Name t p1] X.env = (false, eval (.Name nm p) X.env) :: starEach [.Name t p1] X.env := by rfl) (hpl : (backTo pos (starEach [.Name t p1] X.env)).any (·.1) = false := by rfl) (he2 : starEach [.Name t p1] X.env = (false, eval (.Name t p1) X.env) :: starEach [] X.env := by rfl) :
    EV (X.suite ad ((ad, oe) :: pn)) W c (.Call (.Name "isinstance" px) [.Name nm p, .Name t p1] [] pos) (eIs tb i t) := by
  obtain ⟨C', U'⟩ := T.c t ht
  refine pe_imp (pe_callB (X := X.suite ad ((ad, oe) :: pn)) call_isX hg hm (by decide +kernel) (pa_cons hx (pa_cons (pe_glob (v := V.ref C') hgt U'.gC rfl hdt) pa_nil he2) he) (by decide) (by decide) he hpl) fun σ H Q ⟨H0, Z, G, ρ, S, q⟩ => ?_
  unfold eIs at q
  split at q
  next cc m hd =>
    by_cases z : tb.contains cc = true
    · rw [if_pos z] at q
      obtain ⟨C, d, U, h2, h3, h4, h6, h7⟩ := S.excat T hd z
      have zc : cc ∈ tb := by simpa using z
      obtain ⟨k1, k2⟩ := T.cl cc zc C U.gC
      have hcl : (PySem.W.clsIn X.K C).isSome = true := by
        obtain ⟨cd, e, _⟩ := PySem.W.any_some U.hdC
        rw [e]
        rfl
      exact ⟨.ref ad, h6, C, C', d, _, _, rfl, h2, h3, h4, h7, fun od x => PySem.W.kitx_exc hcl U.ga U.gg U.exC k1 T.gt T.tk k2, T.kit cc zc t ht C C' U.gC U'.gC, q _ H (Same.refl _) (.bl _)⟩
    · rw [if_neg z] at q
      exact q.elim
  next => exact q.elim
end
end
end VL
namespace VL
open PySem PySem.Spec PyProof.Rows L2
section
variable {X : Cx} {W : WX} {fr c : Bool} {a b e : Expr} {es : List Expr} {fa fb : En → R Da} {fl fm : En → R (List Da)} {pos p : Pos} {n k : Nat} {x : Str}
/-! ### == where both may be strs of any kind -/
def isSt : Da → Bool
  | .str _ => true
  | _ => false
def eqOk (x y : Da) : Bool := (isSt x && isSt y) || (SeqAt.shaped x && SeqAt.shaped y)
def qEq (x y : Da) : R Bool := if eqOk x y = true then .ok (PyData.eqv x y) else .bad
def qNe (x y : Da) : R Bool := if eqOk x y = true then .ok (!PyData.eqv x y) else .bad
def rEqQ (K : PySem.W.Frag) : R2 := fun x y H Q => rEqD K x y H Q ∨ rEq x y H Q
def rNeQ (K : PySem.W.Frag) : R2 := fun x y H Q => rNeD K x y H Q ∨ rNe x y H Q
theorem op_eqQ (hu : X.A.units + 64 < cLine) : OpR X (compareOp .Eq) (rEqQ X.K) := fun pins s σ H x y v u Q I rx ry h => h.elim (op_eqD hu pins s σ H x y v u Q I rx ry) (op_eq pins s σ H x y v u Q I rx ry)
theorem op_neQ (hu : X.A.units + 64 < cLine) : OpR X (compareOp .NotEq) (rNeQ X.K) := fun pins s σ H x y v u Q I rx ry h => h.elim (op_neD hu pins s σ H x y v u Q I rx ry) (op_ne pins s σ H x y v u Q I rx ry)
theorem cm2_eqQ {K : PySem.W.Frag} : Cm2 K qEq (rEqQ K) := by
  intro x y H v u Q hx hy
  unfold qEq eqOk
  by_cases h : isSt x = true ∧ isSt y = true
  · cases hx with
    | str i =>
      cases hy with
      | str j =>
        show Q (.bl (PyData.eqv (.str i) (.str j))) H → _
        exact fun q => .inr ⟨rfl, by rw [dec_str]; simpa [PyData.eqv] using q⟩
      | _ => exact absurd h.2 (by simp [isSt])
    | _ => exact absurd h.1 (by simp [isSt])
  · rw [show (isSt x && isSt y) = false by simpa using h, Bool.false_or]
    by_cases g : (SeqAt.shaped x && SeqAt.shaped y) = true
    · rw [if_pos g]
      have g' := Bool.and_eq_true_iff.mp g
      exact fun q => .inl ⟨x, y, vr_dp hx, vr_dp hy, g'.1, g'.2, q⟩
    · rw [if_neg g]
      trivial
theorem cm2_neQ {K : PySem.W.Frag} : Cm2 K qNe (rNeQ K) := by
  intro x y H v u Q hx hy
  unfold qNe eqOk
  by_cases h : isSt x = true ∧ isSt y = true
  · cases hx with
    | str i =>
      cases hy with
      | str j =>
        show Q (.bl (!PyData.eqv (.str i) (.str j))) H → _
        exact fun q => .inr ⟨rfl, by rw [dec_str]; simpa [PyData.eqv] using q⟩
      | _ => exact absurd h.2 (by simp [isSt])
    | _ => exact absurd h.1 (by simp [isSt])
  · rw [show (isSt x && isSt y) = false by simpa using h, Bool.false_or]
    by_cases g : (SeqAt.shaped x && SeqAt.shaped y) = true
    · rw [if_pos g]
      have g' := Bool.and_eq_true_iff.mp g
      exact fun q => .inl ⟨x, y, vr_dp hx, vr_dp hy, g'.1, g'.2, q⟩
    · rw [if_neg g]
      trivial
/-! ### xs.count(x), xs.index(x) -/
def rCountD (K : PySem.W.Frag) : V → List V → Hp → VK → Prop := fun x xs H Q => ∃ (a : Addr) (y : V) (d : Da) (ds : List Da), x = V.ref a ∧ xs = [y] ∧ Dp K H (V.ref a) (.list ds) ∧ Dp K H y d ∧
  SeqAt.shaped (.list ds) = true ∧ SeqAt.shaped d = true ∧ Q (.int ((ds.countP fun z => PyData.eqv z d : Nat) : Int)) H
theorem mt_countD (hu : X.A.units + 65 < cLine) : MtR X "list.count" (rCountD X.K) := by
  intro pins s σ H x xs v us Q I rx rxs h
  obtain ⟨a, y, d, ds, rfl, rfl, hl, hy, sl, sd, q⟩ := h
  cases rx
  cases rxs with
  | cons ry rt =>
    rename_i uy ut
    cases rt
    obtain ⟨bs, r1⟩ := Dp.reads I d y uy hy ry
    obtain ⟨as, r2⟩ := Dp.reads I (.list ds) (.ref a) (.ref a) hl rfl
    have lay : PyData.canLayAll0 ds = true := SeqAt.canLay_of_shaped sl
    cases r2 with
    | list h1 h2 h3 h4 =>
      rename_i o vs n as'
      obtain ⟨cls, dd, data, sls⟩ := o
      simp only at h2 h3
      subst h2 h3
      have mp := SeqAt.readsAll_map ds _ _ lay h4
      refine call_meets PySem.F.slot_list_count ⟨_, h1, rfl⟩ PySem.F.entry_list_count (PySem.F.args_list_count_2 _ _) (SeqAt.list_countAt a _ n dd sls uy (fun u => PyData.eqv (SeqAt.readOf s.heap u) d)) ⟨h1, SeqAt.items_eqAt h4 r1 lay (SeqAt.canLay_of_shaped sd) (room_in_shaped sd hu), ?_⟩
      rw [← mp, List.countP_map] at q
      exact ⟨.int _, H, I.tok _, ⟨_, rfl⟩, q⟩
def gCount (ds : List Da) (d : Da) : R Da := if SeqAt.shaped (.list ds) = true ∧ SeqAt.shaped d = true then .ok (.int ((ds.countP fun z => PyData.eqv z d : Nat) : Int)) else .bad
def gIndex (ds : List Da) (d : Da) : R Da := if SeqAt.shaped (.list ds) = true ∧ SeqAt.shaped d = true then (match ds.findIdx? fun z => PyData.eqv z d with
  | some j => .ok (.int (j : Int))
  | none => .bad) else .bad
def eM1 (g : List Da → Da → R Da) (fl : En → R (List Da)) (fa : En → R Da) : En → R Da := fun ρ => (fl ρ).bind fun ds => (fa ρ).bind fun d => g ds d
theorem ls_dp {K : PySem.W.Frag} {H : Hp} {l : Addr} {vs : List V} {ds : List Da} (h : Ls K H l vs) (h2 : Vrs K H vs ds) : Dp K H (.ref l) (.list ds) := .lst h.sq (vrs_dp h2)
theorem ls_tyV {K : PySem.W.Frag} {H : Hp} {l : Addr} {vs : List V} (h : Ls K H l vs) : tyV K "list" (.ref l) H := .inl ⟨rfl, vs, h.sq⟩
/-- the receiver's list and the argument, in sight of each other -/
theorem m1_of {g : List Da → Da → R Da} {σ : Sg} {H : Hp} {Q : VK} {r : V → List V → Hp → VK → Prop} (h : J X W (kV c) (eM1 g fl fa) σ H Q)
    (f : ∀ l vs ds v d H2, Ls X.K H2 l vs → Vrs X.K H2 vs ds → Vr X.K H2 v d → ∀ Q' : VK, match g ds d with
      | .ok d' => ∃ w, Sca w d' ∧ (Q' w H2 → r (.ref l) [v] H2 Q')
      | .err _ _ => False
      | .bad => True) :
    tBM X.K "list" r (J X W kS fl) (J X W (kA false 1) (aCons fa aNil)) σ H Q := by
  obtain ⟨H0, Z, G, ρ, S, h⟩ := h
  refine ⟨H0, Z, G, ρ, S, (Arm.bind h).imp fun v H1 ⟨e1, ds, ⟨l, vs, hv, h1, h2⟩, h3⟩ => ⟨?_, H0, Z, G, ρ, S.grow e1, ?_⟩⟩
  · rw [hv]
    exact ls_tyV (ls_same hide_sub h1)
  · unfold aCons aNil
    have h3' := Arm.bind (k := kV false) h3
    cases q1 : fa ρ with
    | ok d =>
      rw [q1] at h3'
      intro us H2 e2 hu
      have hu' : Vrs X.K (hide Z H2) us [d] := hu.1
      obtain ⟨u, rfl, hd⟩ := vrs_one hu'
      obtain ⟨_, d', hd', q⟩ := h3' u H2 e2 hd
      rw [hv]
      obtain ⟨_, d2, hd2, q2⟩ := h3' u H2 e2 hd
      have z := f l vs ds u d H2 (ls_same (fun b o y => e2 b o (hide_sub b o y)) h1) (vrs_same (fun b o y => e2 b o (hide_sub b o y)) h2) (vr_same hide_sub hd) Q
      clear hd' q hd2 q2 d' d2
      have h4 : Arm X W (kV c) Z ρ σ (g ds d) H1 Q := by
        rw [q1] at h3
        exact h3
      cases k : g ds d with
      | ok d' =>
        rw [k] at z h4
        obtain ⟨w, sc, z⟩ := z
        exact z (h4 w H2 e2 sc.vr)
      | err x i =>
        rw [k] at z
        exact z.elim
      | bad =>
        rw [k] at h4
        exact h4.elim
    | err x i =>
      rw [q1] at h3
      exact h3
    | bad =>
      rw [q1] at h3
      exact h3.elim
section
variable {o : Expr} {apos cpos : Pos}
theorem ev_count (hu : X.A.units + 65 < cLine) (ho : ES X W o fl) (ha : EV X W false e fa)
    (hbase : attributeBase o "count" X.env (eval o X.env) = eval o X.env := by rfl)
    (hfew : ((backTo cpos (starEach (e :: []) X.env)).all (fun x => !x.1) && (backToKw cpos (keywordEach [] X.env)).all (fun x => x.1.isSome) && decide ((e :: []).length + ([] : List Keyword).length + (if ([] : List Keyword).isEmpty then 0 else 1) < 30)) = true := by rfl)
    (hline : (apos.endLine == cpos.line) = true := by rfl) (hst : starEach (e :: []) X.env = (false, eval e X.env) :: starEach [] X.env := by rfl) (hplain : (backTo cpos (starEach [] X.env)).any (·.1) = false := by rfl) :
    EV X W c (.Call (.Attribute o "count" apos) [e] [] cpos) (eM1 gCount fl fa) :=
  pe_imp (pe_bm PySem.F.plainAttrs_list PySem.F.slot_list_count PySem.F.type_list_count (mt_countD hu) ho (av_cons ha av_nil hst) hbase hfew hline hst hplain) fun σ H Q h => m1_of h fun l vs ds v d H2 h1 h2 h3 Q' => by
    unfold gCount
    by_cases z : SeqAt.shaped (.list ds) = true ∧ SeqAt.shaped d = true
    · rw [if_pos z]
      exact ⟨.int _, .int _, fun q => ⟨l, v, d, ds, rfl, rfl, ls_dp h1 h2, vr_dp h3, z.1, z.2, q⟩⟩
    · rw [if_neg z]
      trivial
theorem ev_index (hu : X.A.units + 65 < cLine) (ho : ES X W o fl) (ha : EV X W false e fa)
    (hbase : attributeBase o "index" X.env (eval o X.env) = eval o X.env := by rfl)
    (hfew : ((backTo cpos (starEach (e :: []) X.env)).all (fun x => !x.1) && (backToKw cpos (keywordEach [] X.env)).all (fun x => x.1.isSome) && decide ((e :: []).length + ([] : List Keyword).length + (if ([] : List Keyword).isEmpty then 0 else 1) < 30)) = true := by rfl)
    (hline : (apos.endLine == cpos.line) = true := by rfl) (hst : starEach (e :: []) X.env = (false, eval e X.env) :: starEach [] X.env := by rfl) (hplain : (backTo cpos (starEach [] X.env)).any (·.1) = false := by rfl) :
    EV X W c (.Call (.Attribute o "index" apos) [e] [] cpos) (eM1 gIndex fl fa) :=
  pe_imp (pe_bm PySem.F.plainAttrs_list PySem.F.slot_list_index PySem.F.type_list_index (mt_indexD hu) ho (av_cons ha av_nil hst) hbase hfew hline hst hplain) fun σ H Q h => m1_of h fun l vs ds v d H2 h1 h2 h3 Q' => by
    unfold gIndex
    by_cases z : SeqAt.shaped (.list ds) = true ∧ SeqAt.shaped d = true
    · rw [if_pos z]
      cases k : ds.findIdx? fun z => PyData.eqv z d with
      | none => trivial
      | some j =>
        obtain ⟨k1, k2, k3⟩ := List.findIdx?_eq_some_iff_getElem.mp k
        refine ⟨.int _, .int _, fun q => ⟨l, v, d, ds, j, ds[j], rfl, rfl, ls_dp h1 h2, vr_dp h3, z.1, z.2, List.getElem?_eq_getElem k1, k2, fun m y hm hy => ?_, q⟩⟩
        have := k3 m hm
        rw [List.getElem?_eq_getElem (by omega)] at hy
        cases hy
        simpa using this
    · rw [if_neg z]
      trivial
end
/-! ### xs * n -/
def rRepL (K : PySem.W.Frag) : R2 := fun x y H Q => ∃ l i xs, x = .ref l ∧ y = .int i ∧ Ls K H l xs ∧ -(2 ^ 63) ≤ i ∧ i < 2 ^ 63 ∧ xs.length * i.toNat ≤ sizeLine ∧ ∀ p, H p = none → Q (.ref p) (upd H p (.lst (List.replicate i.toNat xs).flatten))
theorem op_repL : OpR X (binaryOp .Mult) (rRepL X.K) := by
  intro pins s σ H x y v u Q I rx ry ⟨l, i, xs, ex, ey, h1, lo, hi, hz, q⟩
  subst ex ey
  cases rx
  obtain ⟨t, rfl⟩ := ry
  obtain ⟨its, n, r, il, _⟩ := ls_isL I h1
  have ln := r.length
  have small : its.toArray.size * i.toNat ≤ sizeLine := by
    rw [List.size_toArray, ← ln]
    exact hz
  have nocap : ¬ its.toArray.size * i.toNat > (2 ^ 63 - 1) / 8 := by
    have z : (sizeLine : Nat) ≤ (2 ^ 63 - 1) / 8 := by decide
    omega
  have fits : ¬ (!Builtin.List.listFitsIndex i) = true := by
    rw [fitsIndex_both lo hi]
    decide
  have nolong : ¬ Builtin.List.listTooLong (its.toArray.size * i.toNat) = true := by
    rw [notLongL small]
    decide
  have new : List.foldl (fun x y => x ++ y) #[] (List.replicate (if its.toArray.isEmpty = true then 0 else i.toNat) its.toArray) = (List.replicate i.toNat its).flatten.toArray := by
    have z : ∀ m : Nat, List.foldl (fun x y => x ++ y) #[] (List.replicate m its.toArray) = (List.replicate m its).flatten.toArray := fun m => by
      have y := foldl_rep its m []
      rw [List.nil_append] at y
      exact y
    rw [z]
    cases its with
    | nil => simp
    | cons a r' => rw [if_neg (by simp)]
  apply wpAny_binaryOp_repeat_ref (T := "list") (U := "int") (by decide) (show s.TypeIs (.ref l) "list" from ⟨_, il, rfl⟩) (fun s' => typeIs_int s' i t) noFill_list_mul F.fills_int_mul F.slot_int_rmul repeat_list F.slot_int_index.lookup
  refine (fun z => call_meets F.slot_int_rmul (typeIs_int s i t) F.entry_int_rmul (F.args_int_rmul_2 _ _) (int___rmul___int_list i t l its.toArray n) ⟨il, rfl, (show s.TypeIs (.ref l) "list" from ⟨_, il, rfl⟩), z⟩) ?_
  refine (fun z => call_meets F.slot_list_mul (show s.TypeIs (.ref l) "list" from ⟨_, il, rfl⟩) F.entry_list_mul (F.args_list_mul_2 _ _) (AutoListH.list___mul___list_int_3 l its.toArray n i t fits nocap nolong) ⟨il, z⟩) ?_
  rw [new]
  exact ⟨.ref _, _, I.lnew (t' := s.toks) (r.rep i.toNat) (by rw [PyProof.Rows.lm_len_rep_flat, Nat.mul_comm]; exact hz), rfl, q _ I.fresh⟩
def repD (n : Nat) (ds : List Da) : List Da := (List.replicate n ds).flatten
def eRep (fl : En → R (List Da)) (fa : En → R Da) : En → R (List Da) := fun ρ => (fl ρ).bind fun ds => (fa ρ).bind fun d => match d with
  | .int i => if -(2 ^ 63) ≤ i ∧ i < 2 ^ 63 ∧ ds.length * i.toNat ≤ lim then .ok (repD i.toNat ds) else .bad
  | _ => .bad
theorem vrs_rep {K : PySem.W.Frag} {H : Hp} {vs : List V} {ds : List Da} (h : Vrs K H vs ds) : ∀ n : Nat, Vrs K H (List.replicate n vs).flatten (repD n ds)
  | 0 => .nil
  | n + 1 => by
    unfold repD
    rw [List.replicate_succ, List.flatten_cons, List.replicate_succ, List.flatten_cons]
    exact vrs_app h (vrs_rep h n)
theorem ef_rep (ha : ES X W a fl) (hb : EV X W false b fb) : EF X W (.BinOp a .Mult b pos) (eRep fl fb) := pe_imp (pe_op op_repL ha hb) fun σ H Q ⟨H0, Z, G, ρ, S, h⟩ => by
  refine ⟨H0, Z, G, ρ, S, (Arm.bind h).imp fun v H1 ⟨e1, ds, ⟨l, vs, hv, h1, h2⟩, h3⟩ => ⟨H0, Z, G, ρ, S.grow e1, (Arm.bind h3).imp fun u H2 ⟨e2, y, hy, q⟩ => ?_⟩⟩
  have hy' : Vr X.K (hide Z H2) u y := hy
  cases hy' with
  | int i =>
    have q' : Arm X W kF Z ρ σ (if -(2 ^ 63) ≤ i ∧ i < 2 ^ 63 ∧ ds.length * i.toNat ≤ lim then .ok (repD i.toNat ds) else .bad) H2 Q := q
    by_cases z : -(2 ^ 63) ≤ i ∧ i < 2 ^ 63 ∧ ds.length * i.toNat ≤ lim
    · rw [if_pos z] at q'
      refine ⟨l, i, vs, hv, rfl, ls_same (fun b o z => e2 b o (hide_sub b o z)) h1, z.1, z.2.1, ?_, fun p hp => Arm.okF q' ((S.grow e1).grow e2) (vrs_rep (vrs_same (hide_grow e2) h2) _) hp⟩
      rw [vrs_len h2, lim_eq]
      exact z.2.2
    · rw [if_neg z] at q'
      exact q'.elim
  | _ => exact q.elim
/-! ### [f, g][i](..) -/
structure IsFn (X : Cx) (k n : Nat) (fr : Bool) (v : V) (g : List Da → R Da) : Prop where
  ex : ∃ (fA : Addr) (fd : FuncData) (ps : List Str), v = .ref fA ∧ PySem.W.keepIn X.K (.ref fA) = true ∧ Binds X.K fd ps [] ∧ ps.length = n ∧ FnG X.prog X.w X.K X.mg X.base k fA fd ps (spV X.K X.mg n fr g)
inductive IsFns (X : Cx) (k n : Nat) (fr : Bool) : List V → List (List Da → R Da) → Prop
  | nil : IsFns X k n fr [] []
  | cons {v : V} {vs : List V} {g : List Da → R Da} {gs : List (List Da → R Da)} : IsFn X k n fr v g → IsFns X k n fr vs gs → IsFns X k n fr (v :: vs) (g :: gs)
theorem IsFns.len {fr : Bool} : ∀ {vs : List V} {gs : List (List Da → R Da)}, IsFns X k n fr vs gs → vs.length = gs.length
  | _, _, .nil => rfl
  | _, _, .cons _ t => congrArg (· + 1) t.len
theorem IsFns.get {fr : Bool} : ∀ {vs : List V} {gs : List (List Da → R Da)} {i : Nat} {g : List Da → R Da}, IsFns X k n fr vs gs → gs[i]? = some g → ∃ v, vs[i]? = some v ∧ IsFn X k n fr v g
  | _, _, _, _, .nil, e => by simp at e
  | _, _, 0, _, .cons h t, e => by simp at e; subst e; exact ⟨_, rfl, h⟩
  | _, _, i + 1, _, .cons h t, e => by
    obtain ⟨v, h1, h2⟩ := IsFns.get (i := i) t (by simpa using e)
    exact ⟨v, by simpa using h1, h2⟩
def tFs (X : Cx) (k n : Nat) (fr : Bool) (gs : List (List Da → R Da)) : TA := fun _ H Q => ∀ vs, IsFns X k n fr vs gs → Q vs H
abbrev FsV (X : Cx) (k n : Nat) (fr : Bool) (es : List Expr) (gs : List (List Da → R Da)) : Prop := PA X es (tFs X k n fr gs)
theorem fs_nil : FsV X k n fr [] [] := pa_imp pa_nil fun σ H Q h => h [] .nil
theorem fs_cons {g : List Da → R Da} {gs : List (List Da → R Da)} (F : FnV X.prog X.w X.K X.mg X.base k x n fr g) (hg : Gl X x) (hr : FsV X k n fr es gs) (hdb : (x == ("__debug__" : Str)) = false := by decide)
    (he : starEach (.Name x p :: es) X.env = (false, eval (.Name x p) X.env) :: starEach es X.env := by rfl) : FsV X k n fr (.Name x p :: es) (g :: gs) := by
  obtain ⟨fA, fd, ps, h1, h2, h3, h4, h5⟩ := F
  exact pa_imp (pa_cons (pe_glob (v := V.ref fA) hg h1 rfl hdb) hr he) fun σ H Q h vs hv => h _ (.cons ⟨fA, fd, ps, rfl, h2, h3, h4, h5⟩ hv)
def pickF (gs : List (List Da → R Da)) : Da → R (List Da → R Da)
  | .int i => opt (atI gs i)
  | _ => .bad
def eApI (gs : List (List Da → R Da)) (fi : En → R Da) (fl : En → R (List Da)) : En → R Da := fun ρ => (fi ρ).bind fun d => (pickF gs d).bind fun g => (fl ρ).bind g
def kG (X : Cx) (k n : Nat) (fr : Bool) : Kd (List Da → R Da) V := ⟨fun _ _ _ _ _ g v _ => IsFn X k n fr v g, fun _ _ _ _ _ _ _ _ _ _ h => h⟩
theorem fns_atI {vs : List V} {gs : List (List Da → R Da)} {i : Int} {g : List Da → R Da} (h : IsFns X k n fr vs gs) (e : atI gs i = some g) : ∃ v, atI vs i = some v ∧ IsFn X k n fr v g := by
  unfold atI at e ⊢
  rw [h.len]
  cases k1 : ixN gs.length i with
  | none =>
    rw [k1] at e
    cases e
  | some j =>
    rw [k1] at e
    exact h.get e
theorem pe_pick {gs : List (List Da → R Da)} {ix : Expr} {pl ps : Pos} {fi : En → R Da} (hf : FsV X k n fr es gs) (hn : gs.length ≤ 1000 := by decide) (hi : EV X W false ix fi) (hs : PlainIx ix) :
    PE X (.Subscript (.List es pl) ix ps) (J X W (kG X k n fr) fun ρ => (fi ρ).bind (pickF gs)) := pe_imp (pe_ix ix_list (pe_lst hf) hi hs) fun σ H Q ⟨H0, Z, G, ρ, S, h⟩ vs hv => by
  have z := hv.len
  refine ⟨by rw [z]; exact Nat.le_of_lt (small1000 hn), fun p hp => ⟨H0, Z, G, ρ, S.grow (same_upd hp), (Arm.bind (Arm.grow h (same_upd hp))).imp fun u H2 ⟨e2, y, hy, q⟩ => ?_⟩⟩
  have hy' : Vr X.K (hide Z H2) u y := hy
  cases hy' with
  | int i =>
    have q' : Arm X W (kG X k n fr) Z ρ σ (opt (atI gs i)) H2 Q := q
    cases e : atI gs i with
    | none =>
      rw [e] at q'
      exact q'.elim
    | some g =>
      rw [e] at q'
      obtain ⟨w, k1, k2⟩ := fns_atI hv e
      exact ⟨p, vs, i, w, rfl, rfl, SqL.of (e2 _ _ upd_same), k1, q' w H2 (Same.refl _) k2⟩
  | _ => exact q.elim
theorem ev_callI {gs : List (List Da → R Da)} {cal : Expr} {fi : En → R Da} (hc : PE X cal (J X W (kG X k n false) fun ρ => (fi ρ).bind (pickF gs))) (rm : Room k X.A) (gd : X.A.guards = some []) (tk : Takes X W) (ha : AV X W c n (e :: es) fl)
    (ht : eval (.Call cal (e :: es) [] pos) X.env = (do
      callWith pos (← eval cal X.env) [] (backTo pos (starEach (e :: es) X.env)) (backToKw pos (keywordEach [] X.env))) := by rfl)
    (he : starEach (e :: es) X.env = (false, eval e X.env) :: starEach es X.env := by rfl) (hpl : (backTo pos (starEach es X.env)).any (·.1) = false := by rfl) : EV X W c (.Call cal (e :: es) [] pos) (eApI gs fi fl) := by
  refine ⟨fun pins s σ H Q I ⟨H0, Z, G, ρ, S, h⟩ => ?_⟩
  rw [ht]
  have h' : Arm X W (kV c) Z ρ σ (((fi ρ).bind (pickF gs)).bind fun g => (fl ρ).bind g) H Q := by
    unfold eApI at h
    cases q : fi ρ <;> rw [q] at h <;> exact h
  refine wpAny_bind (thn (hc.run pins s σ H _ I ⟨H0, Z, G, ρ, S, Arm.bind h'⟩) fun fv s1 ⟨v, H1, I1, r1, e1, g, ⟨fA, fd, ps, k1, k2, k3, k4, k5⟩, h1⟩ => ?_)
  subst k1
  cases r1
  refine PySem.W.callWith_K (h₀ := X.base) I1.ok.mod.kin k2 (thn (ha.run pos pins s1 σ H1 _ I1 ⟨H0, Z, G, ρ, S.grow e1, Arm.bind h1⟩) fun us s2 ⟨vs, H2, I2, rv, e2, ds, hd, q⟩ => ⟨I2.kIn, ?_⟩) he hpl
  have hl : us.length = ps.length := rv.length.symm.trans ((vrs_len hd.1).trans (hd.2.trans k4.symm))
  have bb := k3 s2 us I2.kIn (by simpa using hl)
  rw [List.append_nil] at bb
  have sp : spV X.K X.mg n false g vs H2 Q (fun cls d H => W cls d σ H) := by
    refine ⟨(vrs_len hd.1).trans hd.2, lv c Z ρ σ, ds, fun a z => ((S.grow e1).grow e2).hidl (lv_hid z), hd.1, ?_⟩
    cases r : g ds with
    | ok d =>
      rw [r] at q
      exact fun v H' e2 hr => q v H' e2 hr
    | err c i =>
      rw [r] at q
      exact q
    | bad =>
      rw [r] at q
      exact q
  refine wpAny_call (codeAny_mono (k5.run X.A X.stack s2 H2 ⟨us, []⟩ us vs Q _ gd rm I2.env0 bb rv sp) fun r s3 hr => ?_)
  cases r with
  | error er => exact passAt tk σ pins H2 s2 er s3 I2 hr
  | ok fl =>
    cases fl with
    | ret u => exact I2.after hr
    | next => exact hr.elim
    | brk => exact hr.elim
    | cont => exact hr.elim
end
end VL
namespace VL
open PySem PySem.Spec PyProof.Rows L2
def sFz (i : Nat) (f : En → SRs) : En → SRs := fun ρ => f (fz i ρ)
def sRetN : En → SRs := fun ρ => .go (.rt .none) ρ
def dInts (ns : List Int) : List Da := ns.map PyData.int
theorem vrs_dInts {K : PySem.W.Frag} {H : Hp} : ∀ ns : List Int, Vrs K H (ns.map V.int) (dInts ns)
  | [] => .nil
  | n :: ns => .cons (.int n) (vrs_dInts ns)
/-- what a heap tracks of the script alone -/
structure Scr (P : Program) (w : World) (K : PySem.W.Frag) (h : Heap) (a : Addr) (o : Obj) (xs : List V) (H : Hp) : Prop where
  ok : HOk P w H h
  out : ∀ b, b ≠ a → H b = none
  inn : H a = none ∨ (H a = some (.frz o (.lst xs)) ∧ K.lookup a = none)
  ls : Ls K H a xs
theorem scr_of {P : Program} {w : World} {K : PySem.W.Frag} {h : Heap} {a : Addr} {vs : List Value} {ns : List Int} (KX : K.In h) (ha : h.get? a = some { cls := .type "list", data := .seq vs.toArray }) (hi : IntsAre vs ns) (hl : ns.length ≤ sizeLine) :
    ∃ H, Scr P w K h a { cls := .type "list", data := .seq vs.toArray } (ns.map V.int) H := by
  have rv := vals_ints hi
  cases q : K.lookup a with
  | some o =>
    have e := KX a o q
    rw [ha] at e
    cases e
    refine ⟨fun _ => none, ⟨fun b u z => (by cases z), fun b _ => rfl, .inl rfl, .inr ⟨vs.toArray, _, q, ?_, ?_⟩⟩⟩
    · have := hi.length
      rw [List.size_toArray, this]
      exact hl
    · rw [show vs.toArray.toList = vs from rfl]
      exact rv
  | none =>
    have same : ∀ b, (if b = a then some (HO.frz { cls := .type "list", data := .seq vs.toArray } (.lst (ns.map V.int))) else none) = (upd (fun _ => none) a (.frz { cls := .type "list", data := .seq vs.toArray } (.lst (ns.map V.int))) : Hp) b := fun b => by
      by_cases e : b = a
      · rw [if_pos e, e, upd_same]
      · rw [if_neg e, upd_ne (fun z => e z)]
    refine ⟨upd (fun _ => none) a (.frz { cls := .type "list", data := .seq vs.toArray } (.lst (ns.map V.int))), ⟨fun b u z => ?_, fun b nb => ?_, .inr ⟨upd_same, q⟩, .inl (.inr ⟨_, upd_same⟩)⟩⟩
    · rw [← same] at z
      by_cases e : b = a
      · rw [if_pos e] at z
        cases z
        subst e
        exact ⟨ha, by rw [List.length_map]; exact hl, vs, _, rv, ha⟩
      · rw [if_neg e] at z
        cases z
    · rw [← same, if_neg nb]
theorem law_run {P : Program} {w : World} {K : PySem.W.Frag} {mg mb : Str → Option Value} {k : Nat} {fa a : Addr} {x : Str} {f : List Da → R Da} {s₁ : Shared} {vs : List Value} {ns : List Int}
    (KX : K.In s₁.heap) (hns : s₁.heap.Ns mainGlobals mg) (hb : s₁.heap.Ns builtinsNs mb) (hbb : ∀ x : Str, x ≠ "__name__" → mb x = bootBuiltins x) (hlim : s₁.heap.NoLimit) (hg : s₁.gens = #[])
    (ha : s₁.heap.get? a = some { cls := .type "list", data := .seq vs.toArray }) (hi : IntsAre vs ns) (hl : ns.length ≤ sizeLine) (hr : Room k callerA) (hm : mg x = some (.ref fa))
    (F : ∀ base : Heap, K.In base → base.Ns mainGlobals mg → FnV P w K mg base k x 1 false f) (hf : f [.list (dInts ns)] = .ok (.bool true)) :
    codeAny (model P w) callerA (.call (.ref fa) ⟨[.ref a], []⟩) (fun r s' => r = .ok (.ret (.bool true)) ∧ OldK s₁.heap s'.heap ∧ s'.os = s₁.os ∧ AllBare s'.gens) s₁ := by
  obtain ⟨H, T⟩ := scr_of (P := P) (w := w) KX ha hi hl
  have only : ∀ b u, H b = some u → b = a := fun b u z => Classical.byContradiction fun n => by
    rw [T.out b n] at z
    cases z
  have dct : ∀ {b : Addr} {o : Obj} {es : Array DictEntry} {ep : Nat}, s₁.heap.get? b = some o → o.data = .dict es ep → H b = none := fun {b o es ep} e d => T.out b fun z => by
    subst z
    rw [ha] at e
    cases e
    cases (show Data.seq vs.toArray _ = Data.dict es ep from d)
  have nss : ∀ {b : Addr} {m : Str → Option Value}, s₁.heap.Ns b m → (hidT s₁.heap H).Ns b m := fun {b m} ⟨o, es, ep, e, d, r⟩ => ⟨o, es, ep, hidT_get e (dct e d), d, r⟩
  have kin : K.In (hidT s₁.heap H) := fun b o e => hidT_get (KX b o e) (by
    cases z : H b with
    | none => rfl
    | some u =>
      have eb := only b u z
      subst eb
      rcases T.inn with y | y
      · rw [y] at z
        cases z
      · rw [y.2] at e
        cases e)
  have md : Mod K mg (hidT s₁.heap H) := ⟨kin, nss hns, ⟨mb, nss hb, hbb⟩, let ⟨mc, h1, h2⟩ := hlim; ⟨mc, nss h1, h2⟩⟩
  obtain ⟨fA, fd, ps, g1, g2, g3, g4, g5⟩ := F _ kin (nss hns)
  cases hm.symm.trans g1
  have env : Env0 P w K mg (hidT s₁.heap H) callerA [] s₁ H := ⟨rfl, md, fun b o e => of_hidT e, Nat.le_of_eq (hidT_size _ _), trivial, fun b hb => absurd (show b ∈ ([] : List Addr) from hb) (by simp), T.ok, .of_eq hg⟩
  have bd := g3 s₁ [.ref a] KX (by rw [g4]; rfl)
  rw [List.append_nil] at bd
  have sp : spV K mg 1 false f [.ref a] H (fun v _ => v = .bl true) fun _ _ _ => False := by
    refine ⟨rfl, fun _ => False, [.list (dInts ns)], fun _ z => z.elim, .cons (.lst (ls_same (fun b o z => hide_eq.mpr ⟨fun y => y, z⟩) T.ls) (vrs_dInts ns)) .nil, ?_⟩
    rw [hf]
    intro v H' _ hv
    have hv' : Vr K (hide (fun _ => False) H') v (.bool true) := hv
    cases hv'
    rfl
  refine codeAny_mono (g5.run callerA [] s₁ H ⟨[.ref a], []⟩ [.ref a] [.ref a] _ _ rfl hr env bd (.cons rfl .nil) sp) fun r s' h => ?_
  cases r with
  | error e =>
    obtain ⟨_, _, _, _, _, _, _, _, _, _, _, _, z⟩ := h
    exact z.elim
  | ok fl =>
    cases fl with
    | next => exact h.elim
    | brk => exact h.elim
    | cont => exact h.elim
    | ret u =>
      obtain ⟨v, H', os, bare, un, hok', r', q⟩ := h
      have q' : v = .bl true := q
      subst q'
      cases (show u = Value.bool true from r')
      refine ⟨rfl, OldK.of_keep fun b o e => ?_, os, bare⟩
      cases z : H b with
      | none => exact un.keep b o e z (fun y => absurd (show b ∈ ([] : List Addr) from y) (by simp)) (by simp)
      | some u =>
        have eb := only b u z
        subst eb
        rcases T.inn with y | ⟨y, _⟩
        · rw [y] at z
          cases z
        · have y2 := un.frzs b _ _ y
          obtain ⟨e1, _⟩ := T.ok b _ y
          obtain ⟨e2, _⟩ := hok' b _ y2
          rw [e] at e1
          cases e1
          exact e2
theorem law_walk {l : PySem.W.OpenLaw} {n k : Nat} {q : Program} {loose : List Str} {XP : (Str → Option Value) → Heap → Prop} {YP : World → Heap → Prop} {d : DefRec} {K : Params → PySem.W.Frag} {f : List Da → R Da}
    (hn : l.most = some n) (hn2 : n ≤ sizeLine) (hdf : d.params.defaults = []) (hr : Room k callerA) (hY : ∀ (w : World) (h : Heap), YP w h → (K w.params).In h)
    (F : ∀ (w : World) (mg : Str → Option Value) (h : Heap), (K w.params).In h → h.Ns mainGlobals mg → ∀ base : Heap, (K w.params).In base → base.Ns mainGlobals mg → FnV l.prog w (K w.params) mg base k d.name 1 false f)
    (hf : ∀ ns : List Int, ns.length ≤ n → f [.list (dInts ns)] = .ok (.bool true)) :
    PySem.W.WalkO q loose XP YP l.row.toRowW d [] (fun f vs => PySem.call f vs) := by
  refine Att.attach_call hn hdf fun w s₀ s₁ mg mb fa o pm cd doc a vs ns G Y ho hd hcd hmg hobj hints hlen hg => ?_
  have KX := hY w _ Y
  exact law_run KX G.T.g G.T.b G.T.builtins G.T.nolimit hg hobj hints (Nat.le_trans hlen hn2) hr hmg (F w mg _ KX G.T.g) (hf ns hlen)
end VL
namespace VL
open PySem PySem.Spec PyProof.Rows L2
/-! ### evaluators at slots, as equations for simp -/
section
variable {α β : Type} {ρ : En} {b : Bool} {fa fb fc : En → R Da} {fl fm : En → R (List Da)} {t u : En → R Bool} {f g : En → SRs}
def SRs.nx (r : SRs) (g : En → SRs) : SRs := match r with
  | .go .nx ρ' => g ρ'
  | r => r
def finR (fr : Bool) : SRs → R Da
  | .go (.rt d) _ => .ok d
  | .go .nx _ => .ok .none
  | .er c i _ => .err c i
  | _ => .bad
theorem q_run {fr : Bool} {n : Nat} {ds : List Da} : runF fr f n ds = finR fr (f (ds.map Slot.val ++ List.replicate (n - ds.length) Slot.no)) := by
  unfold runF finR
  rfl
theorem q_seq : sSeq f g ρ = SRs.nx (f ρ) g := rfl
theorem nx_nx : SRs.nx (.go .nx ρ) g = g ρ := rfl
theorem nx_rt {d : Da} : SRs.nx (.go (.rt d) ρ) g = .go (.rt d) ρ := rfl
theorem nx_bk : SRs.nx (.go .bk ρ) g = .go .bk ρ := rfl
theorem nx_ct : SRs.nx (.go .ct ρ) g = .go .ct ρ := rfl
theorem nx_er {c : Str} {i : Int} : SRs.nx (.er c i ρ) g = .er c i ρ := rfl
theorem nx_cond {x y : SRs} : SRs.nx (cond b x y) g = cond b (SRs.nx x g) (SRs.nx y g) := by cases b <;> rfl
theorem bind_ok {a : α} {k : α → R β} : (R.ok a).bind k = k a := rfl
theorem bind_err {c : Str} {i : Int} {k : α → R β} : (R.err c i).bind k = .err c i := rfl
theorem bind_cond {x y : R α} {k : α → R β} : (cond b x y).bind k = cond b (x.bind k) (y.bind k) := by cases b <;> rfl
theorem sB_ok {a : α} {k : α → SRs} : sB (.ok a) ρ k = k a := rfl
theorem sB_err {c : Str} {i : Int} {k : α → SRs} : sB (.err c i) ρ k = .er c i ρ := rfl
theorem sB_cond {x y : R α} {k : α → SRs} : sB (cond b x y) ρ k = cond b (sB x ρ k) (sB y ρ k) := by cases b <;> rfl
theorem cond_ok {x y : α} : cond b (R.ok x) (R.ok y) = R.ok (cond b x y) := by cases b <;> rfl
theorem cond_bool {x y : Bool} : cond b (PyData.bool x) (PyData.bool y) = PyData.bool (cond b x y) := by cases b <;> rfl
theorem cond_int {x y : Int} : cond b (PyData.int x) (PyData.int y) = PyData.int (cond b x y) := by cases b <;> rfl
theorem cond_and {x : Bool} : cond b x false = (b && x) := by cases b <;> rfl
theorem cond_or {x : Bool} : cond b true x = (b || x) := by cases b <;> rfl
theorem cond_nand {x : Bool} : cond b false x = (!b && x) := by cases b <;> rfl
theorem fin_rt {fr : Bool} {d : Da} : finR fr (.go (.rt d) ρ) = .ok d := rfl
theorem fin_nx {fr : Bool} : finR fr (.go .nx ρ) = .ok .none := rfl
theorem fin_er {fr : Bool} {c : Str} {i : Int} : finR fr (.er c i ρ) = .err c i := rfl
theorem fin_cond {fr : Bool} {x y : SRs} : finR fr (cond b x y) = cond b (finR fr x) (finR fr y) := by cases b <;> rfl
theorem q_nil : sNil ρ = .go .nx ρ := rfl
theorem q_retN : sRetN ρ = .go (.rt .none) ρ := rfl
theorem q_set {i : Nat} : sSet i fa ρ = sB (fa ρ) ρ fun d => .go .nx (ρ.set i (.val d)) := rfl
theorem q_setF {i : Nat} : sSetF i fl ρ = sB (fl ρ) ρ fun d => .go .nx (ρ.set i (.own d)) := rfl
theorem q_ret : sRet fa ρ = sB (fa ρ) ρ fun d => .go (.rt d) ρ := rfl
theorem q_retF : sRetF fl ρ = sB (fl ρ) ρ fun d => .go (.rt (.list d)) ρ := rfl
theorem q_if : sIf t f g ρ = sB (t ρ) ρ fun b => cond b (f ρ) (g ρ) := rfl
theorem q_retX : sRetX fa ρ = sB (fa ρ) ρ fun d => if noL d = true then .go (.rt d) ρ else .bad := rfl
theorem q_do : sDo fa ρ = sB (fa ρ) ρ fun _ => .go .nx ρ := rfl
def patR (ρ : En) : R En → SRs
  | .ok ρ' => .go .nx ρ'
  | _ => .bad
theorem pat_ok {ρ' : En} : patR ρ (.ok ρ') = .go .nx ρ' := rfl
theorem q_pat {h : Da → En → R En} : sPat h fa ρ = sB (fa ρ) ρ fun d => patR ρ (h d ρ) := by
  unfold sPat patR
  rfl
theorem q_fz {i : Nat} : sFz i f ρ = f (fz i ρ) := rfl
theorem q_nm {i : Nat} {d : Da} : gNm i d ρ = .ok (ρ.set i (.val d)) := rfl
theorem q_tp {n : Nat} {h : List Da → En → R En} {ds : List Da} (hl : ds.length = n) : gTp n h (.tuple ds) ρ = h ds ρ := if_pos hl
theorem q_gcons {h : Da → En → R En} {r : List Da → En → R En} {d : Da} {ds : List Da} : gsCons h r (d :: ds) ρ = (h d ρ).bind fun ρ' => r ds ρ' := rfl
theorem q_gnil : gsNil [] ρ = .ok ρ := rfl
theorem q_var0 {d : Da} : eVar 0 (.val d :: ρ) = .ok d := rfl
theorem q_varS {i : Nat} {s : Slot} : eVar (i + 1) (s :: ρ) = eVar i ρ := rfl
theorem q_own0 {ds : List Da} : eOwn 0 (.own ds :: ρ) = .ok ds := rfl
theorem q_own1 {ds : List Da} : eOwn 0 (.val (.list ds) :: ρ) = .ok ds := rfl
theorem q_ownS {i : Nat} {s : Slot} : eOwn (i + 1) (s :: ρ) = eOwn i ρ := rfl
theorem q_retO0 {ds : List Da} (i : Nat) (h : ρ[i]? = some (.own ds)) : sRetO i ρ = .go (.rt (.list ds)) ρ := by
  unfold sRetO
  rw [h]
theorem q_c {d : Da} : eC d ρ = .ok d := rfl
theorem q_L : eL fa ρ = (fa ρ).bind asL := rfl
theorem asL_l {ds : List Da} : asL (.list ds) = .ok ds := rfl
theorem q_D : eD fl ρ = (fl ρ).bind fun ds => .ok (.list ds) := rfl
theorem q_B : eB t ρ = (t ρ).bind fun b => .ok (.bool b) := rfl
theorem q_T : eT fa ρ = (fa ρ).bind asB := rfl
theorem asB_b : asB (.bool b) = .ok b := rfl
theorem q_No : tNo t ρ = (t ρ).bind fun b => .ok (!b) := rfl
theorem q_An : tAn t u ρ = (t ρ).bind fun b => cond b (u ρ) (.ok false) := rfl
theorem q_Or : tOr' t u ρ = (t ρ).bind fun b => cond b (.ok true) (u ρ) := rfl
theorem q_Ch {r : En → Da → R Bool} : tCh fa r ρ = (fa ρ).bind (r ρ) := rfl
theorem q_cN {h : Da → Da → R Bool} {r : En → Da → R Bool} {x : Da} : cN h fb r ρ x = (fb ρ).bind fun y => (h x y).bind fun k => cond k (r ρ y) (.ok false) := rfl
theorem q_c1 {h : Da → Da → R Bool} {x : Da} : c1 h fb ρ x = (fb ρ).bind fun y => h x y := rfl
theorem q_2 {h : Da → Da → R Da} : e2 h fa fb ρ = (fa ρ).bind fun x => (fb ρ).bind fun y => h x y := rfl
theorem q_1 {h : Da → R Da} : e1 h fa ρ = (fa ρ).bind h := rfl
theorem q_t2 {h : Da → Da → R Bool} : t2 h fa fb ρ = (fa ρ).bind fun x => (fb ρ).bind fun y => h x y := rfl
theorem q_If {f g : En → R α} : eIf t f g ρ = (t ρ).bind fun b => cond b (f ρ) (g ρ) := rfl
theorem q_anil : aNil ρ = .ok [] := rfl
theorem q_acons : aCons fa fl ρ = (fa ρ).bind fun x => (fl ρ).bind fun xs => .ok (x :: xs) := rfl
theorem q_tup : eTup fl ρ = (fl ρ).bind fun xs => .ok (.tuple xs) := rfl
theorem q_ap {h : List Da → R Da} : eAp h fl ρ = (fl ρ).bind h := rfl
theorem q_apL {h : List Da → R Da} : eApL h fl ρ = (fl ρ).bind fun ds => (h ds).bind asL := rfl
theorem q_apI {gs : List (List Da → R Da)} : eApI gs fa fl ρ = (fa ρ).bind fun d => (pickF gs d).bind fun h => (fl ρ).bind h := rfl
theorem q_cat : eCat fl fm ρ = (fl ρ).bind fun xs => (fm ρ).bind fun ys => if xs.length + ys.length ≤ lim then .ok (xs ++ ys) else .bad := rfl
theorem q_sl {lo hi : En → R (Option Int)} : eSl fl lo hi ρ = (fl ρ).bind fun ds => (lo ρ).bind fun i => (hi ρ).bind fun j => .ok (cutD ds i j) := rfl
theorem q_oNo : oNo ρ = .ok none := rfl
theorem q_oSo : oSo fa ρ = (fa ρ).bind asO := rfl
theorem asO_i {i : Int} : asO (.int i) = .ok (some i) := rfl
theorem q_ixS : eIxS fl fb ρ = (fl ρ).bind fun ds => (fb ρ).bind fun y => dIx (.list ds) y := rfl
theorem q_m1 {h : List Da → Da → R Da} : eM1 h fl fa ρ = (fl ρ).bind fun ds => (fa ρ).bind fun d => h ds d := rfl
theorem q_for {fi : En → R (List Da)} {h : Da → En → R En} : sFor fi h f ρ = sB (fi ρ) ρ fun ds => forE h f ds ρ := rfl
theorem q_add {i j : Int} : dAdd (.int i) (.int j) = .ok (.int (i + j)) := rfl
theorem q_sub {i j : Int} : dSub (.int i) (.int j) = .ok (.int (i - j)) := rfl
theorem q_neg {i : Int} : dNeg (.int i) = .ok (.int (-i)) := rfl
theorem q_mul {i j : Int} (h : -(2 ^ 64) < j ∧ j < 2 ^ 64) : dMul (.int i) (.int j) = .ok (.int (i * j)) := if_pos (.inr h)
theorem q_mul' {i j : Int} (h : -(2 ^ 64) < i ∧ i < 2 ^ 64) : dMul (.int i) (.int j) = .ok (.int (i * j)) := if_pos (.inl h)
theorem q_div {i j : Int} (h : 0 < j ∧ j < 1073741824) : dDiv (.int i) (.int j) = .ok (.int (i / j)) := if_pos h
theorem q_mod {i j : Int} (h : 0 < j) : dMod (.int i) (.int j) = .ok (.int (i % j)) := if_pos h
theorem q_p6 : dPow (.int 10) (.int 6) = .ok (.int 1000000) := rfl
theorem q_p9 : dPow (.int 10) (.int 9) = .ok (.int 1000000000) := rfl
theorem q_p18 : dPow (.int 10) (.int 18) = .ok (.int 1000000000000000000) := rfl
theorem cond_t {x y : α} : cond true x y = x := rfl
theorem cond_f {x y : α} : cond false x y = y := rfl
theorem q_lt {i j : Int} : cLt (.int i) (.int j) = .ok (decide (i < j)) := rfl
theorem q_le {i j : Int} : cLe (.int i) (.int j) = .ok (decide (i ≤ j)) := rfl
theorem q_gt {i j : Int} : cGt (.int i) (.int j) = .ok (decide (j < i)) := rfl
theorem q_ge {i j : Int} : cGe (.int i) (.int j) = .ok (decide (j ≤ i)) := rfl
theorem q_eqI {i j : Int} : qEq (.int i) (.int j) = .ok (i == j) := rfl
theorem q_neI {i j : Int} : qNe (.int i) (.int j) = .ok (!(i == j)) := rfl
theorem q_neB {i j : Bool} : qNe (.bool i) (.bool j) = .ok (!(i == j)) := rfl
theorem q_eqB {i j : Bool} : qEq (.bool i) (.bool j) = .ok (i == j) := rfl
theorem q_neS {i j : Str} : qNe (.str i) (.str j) = .ok (!(i == j)) := rfl
theorem q_isN {d : Da} : cIsN d .none = .ok (isNo d) := by cases d <;> rfl
theorem q_notN {d : Da} : cNotN d .none = .ok (!isNo d) := by cases d <;> rfl
theorem q_notB {i j : Bool} : cNotB (.bool i) (.bool j) = .ok (!(decide (i = j))) := rfl
theorem q_isB {i j : Bool} : cIsB (.bool i) (.bool j) = .ok (decide (i = j)) := rfl
theorem q_len {ds : List Da} : gLen [.list ds] = .ok (.int ds.length) := rfl
theorem q_int {i : Int} : gInt [.int i] = .ok (.int i) := rfl
theorem q_intB : gInt [.bool b] = .ok (.int (if b then 1 else 0)) := rfl
theorem q_max2 {i j : Int} : gMax2 [.int i, .int j] = .ok (.int (if j > i then j else i)) := rfl
theorem q_min2 {i j : Int} : gMin2 [.int i, .int j] = .ok (.int (if j < i then j else i)) := rfl
end
end VL
namespace VL
open PySem PySem.Spec PyProof.Rows L2
/-! ### loops, comprehensions, lists of data -/
theorem forE_each {g : Da → En → R En} {body : En → SRs} (I : En → Prop) : ∀ (ds : List Da) (ρ : En), I ρ → (∀ x ∈ ds, ∀ ρ, I ρ → ∃ ρ1 ρ2, g x ρ = .ok ρ1 ∧ body ρ1 = .go .nx ρ2 ∧ I ρ2) → ∃ ρ', forE g body ds ρ = .go .nx ρ' ∧ I ρ'
  | [], ρ, h, _ => ⟨ρ, rfl, h⟩
  | x :: xs, ρ, h, hs => by
    obtain ⟨ρ1, ρ2, h1, h2, h3⟩ := hs x List.mem_cons_self ρ h
    obtain ⟨ρ', h4, h5⟩ := forE_each I xs ρ2 h3 fun y hy => hs y (List.mem_cons_of_mem _ hy)
    refine ⟨ρ', ?_, h5⟩
    unfold forE
    rw [h1]
    dsimp only
    rw [h2]
    exact h4
theorem forE_ix {g : Da → En → R En} {body : En → SRs} (I : Nat → En → Prop) : ∀ (ds : List Da) (k : Nat) (ρ : En), I k ρ → (∀ i x, ds[i]? = some x → ∀ ρ, I (k + i) ρ → ∃ ρ1 ρ2, g x ρ = .ok ρ1 ∧ body ρ1 = .go .nx ρ2 ∧ I (k + i + 1) ρ2) → ∃ ρ', forE g body ds ρ = .go .nx ρ' ∧ I (k + ds.length) ρ'
  | [], k, ρ, h, _ => ⟨ρ, rfl, h⟩
  | x :: xs, k, ρ, h, hs => by
    obtain ⟨ρ1, ρ2, h1, h2, h3⟩ := hs 0 x rfl ρ h
    obtain ⟨ρ', h4, h5⟩ := forE_ix I xs (k + 1) ρ2 h3 fun i y hy ρ hI => by
      have e : k + 1 + i = k + (i + 1) := by omega
      rw [e] at hI ⊢
      exact hs (i + 1) y (by simpa using hy) ρ hI
    refine ⟨ρ', ?_, ?_⟩
    · unfold forE
      rw [h1]
      dsimp only
      rw [h2]
      exact h4
    · rw [List.length_cons, show k + (xs.length + 1) = k + 1 + xs.length by omega]
      exact h5
theorem mem_rngD {lo : Int} {n : Nat} {x : Da} (h : x ∈ rngD lo n) : ∃ i : Nat, i < n ∧ x = .int (lo + (i : Int)) := by
  unfold rngD at h
  obtain ⟨i, h1, h2⟩ := List.mem_map.mp h
  exact ⟨i, List.mem_range.mp h1, h2.symm⟩
theorem get_rngD {lo : Int} {n i : Nat} {x : Da} (h : (rngD lo n)[i]? = some x) : i < n ∧ x = .int (lo + (i : Int)) := by
  unfold rngD at h
  rw [List.getElem?_map] at h
  cases e : (List.range n)[i]? with
  | none =>
    rw [e] at h
    cases h
  | some j =>
    rw [e] at h
    obtain ⟨h1, h2⟩ := List.getElem?_eq_some_iff.mp e
    rw [List.length_range] at h1
    rw [List.getElem_range] at h2
    subst h2
    exact ⟨h1, (Option.some.inj h).symm⟩
theorem q_rng1 {j : Int} (h : -(2 ^ 62) ≤ j ∧ j ≤ lim) : rng1 (.int j) = .ok (rngD 0 j.toNat) := if_pos h
theorem q_R1 {fa : En → R Da} {ρ : En} : eR1 fa ρ = (fa ρ).bind rng1 := rfl
theorem compE_all {α : Type} {g : Da → En → R En} {el : En → R Da} {ρ : En} {D : α → Da} {P : α → Prop} : ∀ (ds : List Da), (∀ x ∈ ds, ∃ ρ1 a, g x ρ = .ok ρ1 ∧ el ρ1 = .ok (D a) ∧ P a) → ∃ as : List α, compE g tAll el ρ ds = some (as.map D) ∧ as.length = ds.length ∧ ∀ a ∈ as, P a
  | [], _ => ⟨[], rfl, rfl, fun a h => nomatch h⟩
  | x :: xs, h => by
    obtain ⟨ρ1, a, h1, h2, h3⟩ := h x List.mem_cons_self
    obtain ⟨as, k1, k2, k3⟩ := compE_all xs fun y hy => h y (List.mem_cons_of_mem _ hy)
    refine ⟨a :: as, ?_, ?_, fun b hb => ?_⟩
    · unfold compE
      rw [h1]
      dsimp only [tAll]
      rw [h2]
      dsimp only
      rw [k1]
      rfl
    · rw [List.length_cons, List.length_cons, k2]
    · rcases List.mem_cons.mp hb with e | hb
      · rw [e]
        exact h3
      · exact k3 b hb
theorem compE_map {α : Type} {g : Da → En → R En} {el : En → R Da} {ρ : En} {C D : α → Da} : ∀ (as : List α), (∀ a ∈ as, ∃ ρ1, g (C a) ρ = .ok ρ1 ∧ el ρ1 = .ok (D a)) → compE g tAll el ρ (as.map C) = some (as.map D)
  | [], _ => rfl
  | a :: as, h => by
    obtain ⟨ρ1, h1, h2⟩ := h a List.mem_cons_self
    rw [List.map_cons, List.map_cons]
    unfold compE
    rw [h1]
    dsimp only [tAll]
    rw [h2]
    dsimp only
    rw [compE_map as fun b hb => h b (List.mem_cons_of_mem _ hb)]
    rfl
theorem q_lc {vs : List Nat} {fi : En → R (List Da)} {g : Da → En → R En} {el : En → R Da} {ρ : En} {ds out : List Da} (hf : fi ρ = .ok ds) (hw : vs.all (notOwn ρ) = true) (hc : compE g tAll el (wipeE ρ vs) ds = some out) : eLc vs fi g tAll el ρ = .ok out := by
  unfold eLc
  rw [hf, bind_ok, if_pos hw, hc]
  rfl
theorem dIx_nat {ds : List Da} {j : Nat} {d : Da} (h : ds[j]? = some d) : dIx (.list ds) (.int (j : Int)) = .ok d := by
  show opt (atI ds (j : Int)) = .ok d
  rw [atI_nat h]
  rfl
theorem dIx_at {ds : List Da} {z : Int} (h0 : 0 ≤ z) (h1 : z < ds.length) : ∃ d, d ∈ ds ∧ ds[z.toNat]? = some d ∧ dIx (.list ds) (.int z) = .ok d := by
  have hj : z.toNat < ds.length := by omega
  refine ⟨ds[z.toNat], List.getElem_mem hj, List.getElem?_eq_getElem hj, ?_⟩
  have e := dIx_nat (List.getElem?_eq_getElem hj)
  rwa [Int.toNat_of_nonneg h0] at e
theorem dIx_map {α : Type} {D : α → Da} {as : List α} {z : Int} (h0 : 0 ≤ z) (h1 : z < as.length) : ∃ a, a ∈ as ∧ as[z.toNat]? = some a ∧ dIx (.list (as.map D)) (.int z) = .ok (D a) := by
  have hj : z.toNat < as.length := by omega
  refine ⟨as[z.toNat], List.getElem_mem hj, List.getElem?_eq_getElem hj, ?_⟩
  have e := dIx_nat (ds := as.map D) (j := z.toNat) (d := D as[z.toNat]) (by rw [List.getElem?_map, List.getElem?_eq_getElem hj]; rfl)
  rwa [Int.toNat_of_nonneg h0] at e
theorem cutD_map {α : Type} {D : α → Da} {as : List α} {lo hi : Option Int} : cutD (as.map D) lo hi = (cutD as lo hi).map D := by
  unfold cutD
  rw [List.length_map, List.map_take, List.map_drop]
theorem cutD_mem {α : Type} {as : List α} {lo hi : Option Int} {a : α} (h : a ∈ cutD as lo hi) : a ∈ as := List.mem_of_mem_drop (List.mem_of_mem_take h)
theorem cutD_len {α : Type} {as : List α} {lo hi : Option Int} : (cutD as lo hi).length ≤ as.length := by
  unfold cutD
  rw [List.length_take, List.length_drop]
  omega
theorem ixN_lt {n : Nat} {z : Int} (h0 : 0 ≤ z) (h1 : z < n) : ixN n z = some z.toNat := by
  unfold ixN
  rw [if_pos h0, if_pos h1]
/-! ### what repr can show -/
mutual
def small : Da → Bool
  | .none => true
  | .bool _ => true
  | .int i => decide (i.natAbs < 10 ^ 12)
  | .list ds => smalls ds
  | .tuple ds => smalls ds
  | _ => false
def smalls : List Da → Bool
  | [] => true
  | d :: ds => small d && smalls ds
end
mutual
def cells : Da → Nat
  | .list ds => cellss ds + 1
  | .tuple ds => cellss ds + 1
  | _ => 1
def cellss : List Da → Nat
  | [] => 0
  | d :: ds => cells d + cellss ds
end
theorem log2_small {n : Nat} (h : n < 10 ^ 12) : n.log2 < 40 := by
  by_cases z : n = 0
  · subst z
    decide
  · exact (Nat.log2_lt z).mpr (Nat.lt_of_lt_of_le h (by decide))
mutual
theorem small_show : ∀ d : Da, small d = true → d.showable = true ∧ d.leavesShort 13 = true ∧ d.weight + 1 ≤ 42 * cells d
  | .none, _ => ⟨by simp only [PyData.showable], by simp only [PyData.leavesShort], by simp only [PyData.weight, cells]; omega⟩
  | .bool _, _ => ⟨by simp only [PyData.showable], by simp only [PyData.leavesShort], by simp only [PyData.weight, cells]; omega⟩
  | .int i, h => by
    have h' : i.natAbs < 10 ^ 12 := by simpa only [small, decide_eq_true_eq] using h
    have l := log2_small h'
    refine ⟨by simp only [PyData.showable, decide_eq_true_eq]; omega, ?_, ?_⟩
    · simp only [PyData.leavesShort, decide_eq_true_eq]
      exact PyData.shown_int_le h'
    · simp only [PyData.weight, cells]
      split <;> omega
  | .str _, h => by simp [small] at h
  | .dict _, h => by simp [small] at h
  | .list ds, h => by
    obtain ⟨h1, h2, h3⟩ := smalls_show ds (by simpa only [small] using h)
    refine ⟨by simpa only [PyData.showable] using h1, by simpa only [PyData.leavesShort] using h2, ?_⟩
    simp only [PyData.weight, cells]
    omega
  | .tuple ds, h => by
    obtain ⟨h1, h2, h3⟩ := smalls_show ds (by simpa only [small] using h)
    refine ⟨by simpa only [PyData.showable] using h1, by simpa only [PyData.leavesShort] using h2, ?_⟩
    simp only [PyData.weight, cells]
    omega
theorem smalls_show : ∀ ds : List Da, smalls ds = true → PyData.showableAll ds = true ∧ PyData.leavesShortAll 13 ds = true ∧ PyData.weightAll ds ≤ 42 * cellss ds
  | [], _ => ⟨by simp only [PyData.showableAll], by simp only [PyData.leavesShortAll], by simp only [PyData.weightAll, cellss]; omega⟩
  | d :: ds, h => by
    have h' := Bool.and_eq_true_iff.mp (show (small d && smalls ds) = true by simpa only [smalls] using h)
    obtain ⟨h1, h2, h3⟩ := small_show d h'.1
    obtain ⟨k1, k2, k3⟩ := smalls_show ds h'.2
    refine ⟨by simp only [PyData.showableAll, h1, k1, Bool.and_self], by simp only [PyData.leavesShortAll, h2, k2, Bool.and_self], ?_⟩
    simp only [PyData.weightAll, cellss]
    omega
end
theorem smalls_map {α : Type} {D : α → Da} : ∀ {as : List α}, (∀ a ∈ as, small (D a) = true) → smalls (as.map D) = true
  | [], _ => rfl
  | a :: as, h => by
    simp only [List.map_cons, smalls, Bool.and_eq_true]
    exact ⟨h a List.mem_cons_self, smalls_map fun b hb => h b (List.mem_cons_of_mem _ hb)⟩
theorem cellss_map {α : Type} {D : α → Da} {k : Nat} : ∀ {as : List α}, (∀ a ∈ as, cells (D a) ≤ k) → cellss (as.map D) ≤ k * as.length
  | [], _ => Nat.le_refl _
  | a :: as, h => by
    simp only [List.map_cons, cellss, List.length_cons]
    have h1 := h a List.mem_cons_self
    have h2 := cellss_map (D := D) (k := k) (as := as) fun b hb => h b (List.mem_cons_of_mem _ hb)
    rw [Nat.mul_add, Nat.mul_one]
    omega
theorem depths_map {α : Type} {D : α → Da} {k : Nat} : ∀ {as : List α}, (∀ a ∈ as, (D a).depth ≤ k) → PyData.depthAll (as.map D) ≤ k
  | [], _ => by simp [PyData.depthAll]
  | a :: as, h => by
    simp only [List.map_cons, PyData.depthAll]
    exact Nat.max_le.mpr ⟨h a List.mem_cons_self, depths_map fun b hb => h b (List.mem_cons_of_mem _ hb)⟩
theorem q_repr {ds : List Da} (hs : small (.tuple ds) = true) (hc : cells (.tuple ds) ≤ 20000) (hd : (PyData.tuple ds).depth ≤ 60) : gRepr [.tuple ds] = .ok (.str (PyData.tuple ds).shown) := by
  obtain ⟨h1, h2, h3⟩ := small_show _ hs
  refine if_pos ⟨h1, hd, ?_⟩
  have z := PyData.shown_fits (B := 13) (by decide) (by decide) h2 (by omega)
  rw [lim_eq] at z
  exact z
/-! ### equal data -/
mutual
theorem eqv_refl : ∀ d : Da, d.canLay0 = true → PyData.eqv d d = true
  | .none, _ => by simp [PyData.eqv]
  | .bool _, _ => by simp [PyData.eqv]
  | .int _, _ => by simp [PyData.eqv]
  | .str _, _ => by simp [PyData.eqv]
  | .list ds, h => by
    simp only [PyData.eqv]
    exact eqvs_refl ds (by simpa only [PyData.canLay0] using h)
  | .tuple ds, h => by
    simp only [PyData.eqv]
    exact eqvs_refl ds (by simpa only [PyData.canLay0] using h)
  | .dict _, h => by simp [PyData.canLay0] at h
theorem eqvs_refl : ∀ ds : List Da, PyData.canLayAll0 ds = true → PyData.eqvAll ds ds = true
  | [], _ => by simp [PyData.eqvAll]
  | d :: ds, h => by
    have h' : d.canLay0 = true ∧ PyData.canLayAll0 ds = true := by simpa only [PyData.canLayAll0, Bool.and_eq_true] using h
    simp only [PyData.eqvAll, eqv_refl d h'.1, eqvs_refl ds h'.2, Bool.and_self]
end
theorem q_ne_self {d : Da} (h : SeqAt.shaped d = true) : qNe d d = .ok false := by
  unfold qNe eqOk
  rw [h, if_pos (by simp), eqv_refl d (SeqAt.canLay_of_shaped h)]
  rfl
theorem shaped_bools (bs : List Bool) : SeqAt.shaped (.list (bs.map PyData.bool)) = true := by
  have h1 : PyData.canLayAll0 (bs.map PyData.bool) = true := by
    induction bs with
    | nil => rfl
    | cons b bs ih => simp only [List.map_cons, PyData.canLayAll0, PyData.canLay0, ih, Bool.and_self]
  have h2 : PyData.depthAll (bs.map PyData.bool) ≤ 0 := depths_map fun b _ => by simp [PyData.depth]
  unfold SeqAt.shaped
  rw [Bool.and_eq_true, decide_eq_true_eq]
  refine ⟨by simpa only [PyData.canLay0] using h1, ?_⟩
  simp only [PyData.depth]
  omega
theorem enum_cons {k : Nat} (d : Da) (ds : List Da) : (d :: ds).mapIdx (fun i x => PyData.tuple [.int ((i + k : Nat) : Int), x]) = .tuple [.int (k : Int), d] :: ds.mapIdx (fun i x => PyData.tuple [.int ((i + (k + 1) : Nat) : Int), x]) := by
  rw [List.mapIdx_cons, Nat.zero_add]
  congr 1
  congr 1
  funext i x
  rw [show i + 1 + k = i + (k + 1) by omega]
def enumF (k : Nat) (ds : List Da) : List Da := ds.mapIdx fun i x => PyData.tuple [.int ((i + k : Nat) : Int), x]
theorem enumD_F (ds : List Da) : enumD ds = enumF 0 ds := rfl
theorem enumF_nil {k : Nat} : enumF k [] = [] := rfl
theorem enumF_cons {k : Nat} {d : Da} {ds : List Da} : enumF k (d :: ds) = .tuple [.int (k : Int), d] :: enumF (k + 1) ds := enum_cons d ds
theorem q_enum {fl : En → R (List Da)} {ρ : En} : eEnum fl ρ = (fl ρ).bind fun ds => .ok (enumD ds) := rfl
theorem q_app {i : Nat} {fa : En → R Da} {ρ : En} {ds : List Da} {d : Da} (hi : ρ[i]? = some (.own ds)) (hf : fa ρ = .ok d) (hl : ds.length < lim) : sApp i fa ρ = .go .nx (ρ.set i (.own (ds ++ [d]))) := by
  unfold sApp sMut eApp
  rw [hi]
  dsimp only
  rw [hf, bind_ok, sB_ok, show kApp d ds = .ok (ds ++ [d]) from if_pos hl]
  rfl
theorem q_setix {i : Nat} {fz fd : En → R Da} {ρ : En} {ds : List Da} {d : Da} {z : Int} {j : Nat} (hd : fd ρ = .ok d) (hi : ρ[i]? = some (.own ds)) (hz : fz ρ = .ok (.int z)) (hj : ixN ds.length z = some j) : sSetIx i fz fd ρ = .go .nx (ρ.set i (.own (ds.set j d))) := by
  unfold sSetIx
  rw [hd, sB_ok, hi]
  dsimp only
  rw [hz, sB_ok, show kSet (.int z) d ds = (opt (ixN ds.length z)).bind fun j => .ok (ds.set j d) from rfl, hj]
  rfl
theorem q_abs {i : Int} : gAbs [.int i] = .ok (.int (if i < 0 then -i else i)) := rfl
theorem dInts_len {ns : List Int} : (dInts ns).length = ns.length := List.length_map _
theorem dInts_app {ns : List Int} {z : Int} : dInts ns ++ [.int z] = dInts (ns ++ [z]) := by
  unfold dInts
  rw [List.map_append]
  rfl
theorem dInts_set {ns : List Int} {j : Nat} {z : Int} : (dInts ns).set j (.int z) = dInts (ns.set j z) := by
  unfold dInts
  rw [List.map_set]
theorem dInts_ix {ns : List Int} {z : Int} (h0 : 0 ≤ z) (h1 : z < ns.length) : ∃ a, a ∈ ns ∧ dIx (.list (dInts ns)) (.int z) = .ok (.int a) := by
  obtain ⟨a, h2, _, h3⟩ := dIx_map (D := PyData.int) h0 h1
  exact ⟨a, h2, h3⟩
theorem seq_go {f g : En → SRs} {ρ ρ' : En} (h : f ρ = .go .nx ρ') : sSeq f g ρ = g ρ' := by
  unfold sSeq
  rw [h]
theorem q_for' {fi : En → R (List Da)} {g : Da → En → R En} {b : En → SRs} {ρ : En} {ds : List Da} {r : SRs} (h : fi ρ = .ok ds) (h2 : forE g b ds ρ = r) : sFor fi g b ρ = r := by
  unfold sFor
  rw [h, sB_ok, h2]
theorem cutD_to {α : Type} {as : List α} (k : Nat) : cutD as none (some (k : Int)) = as.take k := by
  unfold cutD
  rw [HT.sIx_none, HT.sIx_nat, List.drop_zero, Nat.sub_zero]
  by_cases h : k ≤ as.length
  · rw [Nat.min_eq_left h]
  · rw [Nat.min_eq_right (by omega), List.take_length, List.take_of_length_le (by omega)]
theorem cutD_from {α : Type} {as : List α} (k : Nat) : cutD as (some (k : Int)) none = as.drop k := by
  unfold cutD
  rw [HT.sIx_none, HT.sIx_nat]
  by_cases h : k ≤ as.length
  · rw [Nat.min_eq_left h, List.take_of_length_le (by rw [List.length_drop]; omega)]
  · rw [Nat.min_eq_right (by omega), List.drop_length, List.drop_of_length_le (by omega)]
    exact List.take_nil
theorem cutD_init {α : Type} {as : List α} : cutD as none (some (-1)) = as.take (as.length - 1) := by
  unfold cutD
  rw [HT.sIx_none, List.drop_zero, Nat.sub_zero]
  congr 1
  show ((-1 : Int) + (as.length : Int)).toNat = as.length - 1
  omega
def lpR (r : SRs) (k : En → SRs) : SRs := match r with
  | .go .nx ρ => k ρ
  | .go .ct ρ => k ρ
  | .go .bk ρ => .go .nx ρ
  | r => r
def itR (r : R En) (b : En → SRs) (k : En → SRs) : SRs := match r with
  | .ok ρ => lpR (b ρ) k
  | _ => .bad
theorem q_forN {g : Da → En → R En} {b : En → SRs} {ρ : En} : forE g b [] ρ = .go .nx ρ := rfl
theorem q_forC {g : Da → En → R En} {b : En → SRs} {x : Da} {xs : List Da} {ρ : En} : forE g b (x :: xs) ρ = itR (g x ρ) b (forE g b xs) := by
  unfold itR lpR
  rw [forE]
  try rfl
theorem it_ok {b k : En → SRs} {ρ : En} : itR (.ok ρ) b k = lpR (b ρ) k := rfl
theorem lp_nx {k : En → SRs} {ρ : En} : lpR (.go .nx ρ) k = k ρ := rfl
theorem lp_rt {k : En → SRs} {ρ : En} {d : Da} : lpR (.go (.rt d) ρ) k = .go (.rt d) ρ := rfl
def lastS (s : Slot) : List Da → Slot
  | [] => s
  | x :: xs => lastS (.val x) xs
def Nv (s : Slot) : Prop := ∀ ds, s ≠ .own ds
theorem Nv.val {d : Da} : Nv (.val d) := fun ds z => nomatch z
theorem Nv.no : Nv .no := fun ds z => nomatch z
theorem Nv.last : ∀ {ds : List Da} {s : Slot}, Nv s → Nv (lastS s ds)
  | [], _, h => h
  | _ :: ds, _, _ => Nv.last (ds := ds) .val
theorem notOwn_of {ρ : En} {i : Nat} {s : Slot} (h : ρ[i]? = some s) (n : Nv s) : notOwn ρ i = true := by
  unfold notOwn
  rw [h]
  cases s with
  | own ds => exact absurd rfl (n ds)
  | _ => rfl
theorem q_catM {α : Type} {D : α → Da} {f g : En → R (List Da)} {ρ : En} {as bs : List α} (h1 : f ρ = .ok (as.map D)) (h2 : g ρ = .ok (bs.map D)) (h : as.length + bs.length ≤ lim) : eCat f g ρ = .ok ((as ++ bs).map D) := by
  unfold eCat
  rw [h1, bind_ok, h2, bind_ok, if_pos (by rw [List.length_map, List.length_map]; exact h), List.map_append]
theorem q_slM {α : Type} {D : α → Da} {f : En → R (List Da)} {lo hi : En → R (Option Int)} {ρ : En} {as : List α} {i j : Option Int} (h1 : f ρ = .ok (as.map D)) (h2 : lo ρ = .ok i) (h3 : hi ρ = .ok j) : eSl f lo hi ρ = .ok ((cutD as i j).map D) := by
  unfold eSl
  rw [h1, bind_ok, h2, bind_ok, h3, bind_ok, cutD_map]
theorem q_rep2 {α : Type} {D : α → Da} {f : En → R (List Da)} {ρ : En} {as : List α} (h1 : f ρ = .ok (as.map D)) (h : as.length * 2 ≤ lim) : eRep f (eC (.int 2)) ρ = .ok ((as ++ as).map D) := by
  unfold eRep
  rw [h1, bind_ok, q_c, bind_ok]
  dsimp only
  rw [if_pos ⟨by decide, by decide, by rw [List.length_map]; exact h⟩]
  show R.ok (List.replicate 2 (as.map D)).flatten = _
  rw [List.map_append]
  simp [List.replicate_succ]
end VL
namespace VL
open PySem PySem.Spec PyProof.Rows L2
section
variable {X : Cx} {W : WX} {fr c : Bool} {a b e : Expr} {fa fb : En → R Da} {pos p : Pos}
/-! ### list(range(..)) -/
theorem vrs_rg {K : PySem.W.Frag} {H : Hp} (lo : Int) (n : Nat) : Vrs K H ((List.range n).map fun i => V.int (lo + (i : Nat))) (rngD lo n) := by
  unfold rngD
  generalize List.range n = l
  induction l with
  | nil => exact .nil
  | cons i l ih => exact .cons (.int _) ih
theorem ef_listR1 {p2 pos2 : Pos} (hc : X.calm = true) (hg : Gl X "list") (hm : X.mg "list" = none) (hg2 : Gl X "range") (hm2 : X.mg "range" = none) (ha : EV X W false a fa) (na : starEach [a] X.env = (false, eval a X.env) :: starEach [] X.env := by rfl)
    (na2 : starEach [.Call (.Name "range" p2) [a] [] pos2] X.env = (false, eval (.Call (.Name "range" p2) [a] [] pos2) X.env) :: starEach [] X.env := by rfl) : EF X W (.Call (.Name "list" p) [.Call (.Name "range" p2) [a] [] pos2] [] pos) (eR1 fa) :=
  pe_imp (pe_listRg hc hg hm (prg_1 hg2 hm2 ha na) na2) fun σ H Q ⟨H0, Z, G, ρ, S, h⟩ => ⟨H0, Z, G, ρ, S, (Arm.bind h).imp fun v H1 ⟨e1, d, hd, h1⟩ => by
    have hd' : Vr X.K (hide Z H1) v d := hd
    cases hd' with
    | int j =>
      have h2 : Arm X W kF Z ρ σ (if -(2 ^ 62) ≤ j ∧ j ≤ lim then .ok (rngD 0 j.toNat) else .bad) H1 Q := h1
      by_cases hj : -(2 ^ 62) ≤ j ∧ j ≤ lim
      · rw [if_pos hj] at h2
        have l : (lim : Int) = 16777216 := rfl
        refine ⟨j, rfl, ⟨by omega, by omega, by omega, by omega, by omega⟩, fun q hq => ?_⟩
        have e : rgV 0 j = (List.range j.toNat).map fun i => V.int (0 + (i : Nat)) := by
          unfold rgV
          rw [Int.sub_zero]
        rw [e]
        exact Arm.okF h2 (S.grow e1) (vrs_rg 0 j.toNat) hq
      · rw [if_neg hj] at h2
        exact h2.elim
    | _ => exact h1.elim⟩
/-! ### a or b, by value: None, bools, ints in front -/
def eOrV (fa fb : En → R Da) : En → R Da := fun ρ => (fa ρ).bind fun d => match d with
  | .none => fb ρ
  | .bool true => .ok (.bool true)
  | .bool false => fb ρ
  | .int i => if (i != 0) = true then .ok (.int i) else fb ρ
  | _ => .bad
theorem ev_oneV {op : BoolOp} (h : EV X W c a fa) : EV X W c (.BoolOp op [a] pos) fa := pe_imp (pe_one h) fun _ _ _ q => q
theorem ev_orV {rest : List Expr} (ha : EV X W false a fa) (hb : EV X W c (.BoolOp .Or (b :: rest) pos) fb) : EV X W c (.BoolOp .Or (a :: b :: rest) pos) (eOrV fa fb) := by
  refine ⟨fun pins s σ H Q I ⟨H0, Z, G, ρ, S, h⟩ => ?_⟩
  unfold eOrV at h
  refine BoolOp_or (thn (ha.run pins s σ H _ I ⟨H0, Z, G, ρ, S, Arm.bind h⟩) fun v s1 ⟨x, H1, I1, r1, e1, d, hd, h1⟩ => ?_)
  have hd' : Vr X.K (hide Z H1) x d := hd
  cases hd' with
  | non =>
    cases r1
    refine truthy_none ?_
    exact hb.run pins s1 σ H1 Q I1 ⟨H0, Z, G, ρ, S.grow e1, h1⟩
  | bl k =>
    cases r1
    refine wpAny_truthy_bool ?_
    cases k with
    | true => exact ⟨.bl true, H1, I1, rfl, h1 _ H1 (Same.refl _) (.bl true)⟩
    | false => exact hb.run pins s1 σ H1 Q I1 ⟨H0, Z, G, ρ, S.grow e1, h1⟩
  | int i =>
    obtain ⟨t, rfl⟩ := r1
    refine truthy_int ?_
    have h2 : Arm X W (kV c) Z ρ σ (if (i != 0) = true then .ok (.int i) else fb ρ) H1 Q := h1
    by_cases z : (i != 0) = true
    · rw [if_pos z] at h2 ⊢
      exact ⟨.int i, H1, I1, ⟨t, rfl⟩, h2 _ H1 (Same.refl _) (.int i)⟩
    · rw [if_neg z] at h2 ⊢
      exact hb.run pins s1 σ H1 Q I1 ⟨H0, Z, G, ρ, S.grow e1, h2⟩
  | _ => exact h1.elim
end
end VL
namespace VL
open PySem PySem.Spec PyProof.Rows L2
section
variable {X : Cx} {W : WX} {fr c : Bool} {a b e : Expr} {fa fb fc : En → R Da} {pos p : Pos}
/-! ### range(a, b, -1) -/
def dnD (hi : Int) (n : Nat) : List Da := (List.range n).map fun (i : Nat) => PyData.int (hi - (i : Int))
theorem dn_len {hi : Int} {n : Nat} : (dnD hi n).length = n := by simp [dnD]
theorem walks_dn {K : PySem.W.Frag} {hi : Int} {n : Nat} : Walks K (Itc hi (-1) n) [] (dnD hi n) := fun i H N hN _ => by
  refine ⟨fun hl => by show n ≤ i; simpa [dnD] using hl, fun d hd => ?_⟩
  unfold dnD at hd
  rw [List.getElem?_map] at hd
  by_cases h : i < n
  · rw [List.getElem?_range h] at hd
    cases hd
    refine ⟨h, fun x H' ⟨y1, y2⟩ => ?_⟩
    subst y1 y2
    rw [show hi + (i : Int) * (-1) = hi - (i : Int) by omega]
    exact ⟨Same.refl _, .int _⟩
  · rw [List.getElem?_eq_none (by simpa using h)] at hd
    cases hd
def rng3 : Da → Da → Da → R (List Da)
  | .int i, .int j, .int (-1) => if (-(2 ^ 62) ≤ i ∧ i < 2 ^ 62) ∧ (-(2 ^ 62) ≤ j ∧ j < 2 ^ 62) ∧ i - j ≤ lim then .ok (dnD i (i - j).toNat) else .bad
  | _, _, _ => .bad
def eR3 (f g h : En → R Da) : En → R (List Da) := fun ρ => (f ρ).bind fun x => (g ρ).bind fun y => (h ρ).bind fun z => rng3 x y z
theorem iv_rng3 {tg d : Expr} {p : Pos} (hg : Gl X "range") (hm : X.mg "range" = none) (h : EV X W false a fa) (k : EV X W false b fb) (l : EV X W false d fc)
    (he : starEach [a, b, d] X.env = (false, eval a X.env) :: starEach [b, d] X.env := by rfl) (he2 : starEach [b, d] X.env = (false, eval b X.env) :: starEach [d] X.env := by rfl) (he3 : starEach [d] X.env = (false, eval d X.env) :: starEach [] X.env := by rfl)
    (hs2 : (backTo pos (starEach [b, d] X.env)).any (·.1) = false := by rfl) :
    IV X W c tg (.Call (.Name "range" p) [a, b, d] [] pos) (eR3 fa fb fc) := pi_imp (pi_range3 hg hm (pa_cons h (pa_cons k (pa_cons l pa_nil he3) he2) he) he hs2) fun σ H Q ⟨H0, Z, G, ρ, S, q⟩ => ⟨H0, Z, G, ρ, S, (Arm.bind q).imp fun v H1 ⟨e1, d1, hd, h1⟩ => ⟨H0, Z, G, ρ, S.grow e1, (Arm.bind h1).imp fun u H2 ⟨e2, d2, hd2, h2⟩ => ⟨H0, Z, G, ρ, (S.grow e1).grow e2, (Arm.bind h2).imp fun w H3 ⟨e3, d3, hd3, h3⟩ => by
    have hd' : Vr X.K (hide Z H1) v d1 := hd
    have hd2' : Vr X.K (hide Z H2) u d2 := hd2
    have hd3' : Vr X.K (hide Z H3) w d3 := hd3
    have h4 : Arm X W (kI c) Z ρ σ (rng3 d1 d2 d3) H3 Q := h3
    cases hd' with
    | int i =>
      cases hd2' with
      | int j =>
        cases hd3' with
        | int m =>
          by_cases em : m = -1
          · subst em
            have h5 : Arm X W (kI c) Z ρ σ (if (-(2 ^ 62) ≤ i ∧ i < 2 ^ 62) ∧ (-(2 ^ 62) ≤ j ∧ j < 2 ^ 62) ∧ i - j ≤ lim then .ok (dnD i (i - j).toNat) else .bad) H3 Q := h4
            by_cases z : (-(2 ^ 62) ≤ i ∧ i < 2 ^ 62) ∧ (-(2 ^ 62) ≤ j ∧ j < 2 ^ 62) ∧ i - j ≤ lim
            · rw [if_pos z] at h5
              refine ⟨i, j, -1, _, rfl, RgC.neg z.1.1 z.1.2 z.2.1.1 z.2.1.2, h5 _ H3 (Same.refl _) ⟨[], walks_dn, (fun g hg => absurd hg (by simp)), fun _ => ?_⟩⟩
              rw [dn_len, lim_eq]
              omega
            · rw [if_neg z] at h5
              exact h5.elim
          · have : rng3 (.int i) (.int j) (.int m) = .bad := by
              unfold rng3
              split
              · rename_i hh
                cases hh
                exact absurd rfl em
              · rfl
            rw [this] at h4
            exact h4.elim
        | _ => exact h4.elim
      | _ => cases hd3' <;> exact h4.elim
    | _ => cases hd2' <;> cases hd3' <;> exact h4.elim⟩⟩⟩
end
/-! ### defs with defaults that are left out -/
theorem vrs_appD {K : PySem.W.Frag} {H : Hp} : ∀ {vs us : List V} {ds es : List Da}, Vrs K H vs ds → Vrs K H us es → Vrs K H (vs ++ us) (ds ++ es)
  | _, _, _, _, .nil, h => h
  | _, _, _, _, .cons h t, k => .cons h (vrs_appD t k)
structure FnVD (P : Program) (w : World) (K : PySem.W.Frag) (mg : Str → Option Value) (base : Heap) (k : Nat) (x : Str) (n : Nat) (fr : Bool) (dv : List V) (f : List Da → R Da) : Prop where
  ex : ∃ (fA : Addr) (fd : FuncData) (ps : List Str) (ds : List Value), mg x = some (.ref fA) ∧ PySem.W.keepIn K (.ref fA) = true ∧ Vals dv ds ∧ Binds K fd ps ds ∧ ps.length = n ∧ FnG P w K mg base k fA fd ps (spV K mg n fr f)
section
variable {P : Program} {w : World} {K : PySem.W.Frag} {mg : Str → Option Value} {base : Heap} {k : Nat}
theorem FnVD.mono {j k : Nat} {x : Str} {n : Nat} {fr : Bool} {dv : List V} {f : List Da → R Da} (F : FnVD P w K mg base j x n fr dv f) (h : j ≤ k) : FnVD P w K mg base k x n fr dv f := by
  obtain ⟨fA, fd, ps, ds, h1, h2, h3, h4, h5, h6⟩ := F
  exact ⟨fA, fd, ps, ds, h1, h2, h3, h4, h5, h6.len, fun B out t G ar ws ys wq we gd rm => h6.run B out t G ar ws ys wq we gd (rm.mono h)⟩
theorem fnVD_mk {x x' qual : Str} {st : Stmt} {fA : Addr} {fd : FuncData} {N ps : List Str} {fr : Bool} {fb : En → SRs} {n nl : Nat} {dvs : List V} {kws : List (Str × V)} {ds : List Value} (F : L2.FunD K x' qual (defArgs st) (defBody st) (defScope st) dvs kws fA fd) (hm : mg x = some (.ref fA)) (sS : FnScope N ps (defScope st)) (rd : Vals dvs ds) (bd : Binds K fd ps ds) (hn : ps.length = n) (hnl : N.length = nl) (hle : n ≤ nl)
    (body : ∀ (cdv : Value) (B : Around) (out : List Env) (t : Shared) (G : Hp) (E : XK), B.guards = some [] → Room k (B.deeper (envOfC qual (defScope st) t.heap.objs.size fA cdv)) →
      BV (cxOf (L2.CX P w) P w K mg base N qual (defScope st) fA cdv B out t G E) (fun cls d _ H => E cls d H) fr (defBody st) fb) :
    FnVD P w K mg base (k + 1) x n fr dvs (runF fr fb nl) := by
  obtain ⟨oc, od, dV, kV, doc, pm, an, cdv, ct, osl, rfl, lk, hcd, _, _⟩ := F.ex
  refine ⟨fA, _, ps, ds, hm, F.kp, rd, bd, hn, fnG_of lk hcd sS (fun ys G wq we q => q.1.trans hn.symm) fun B out t G ys wq we gd rm q => ⟨_, body cdv B out t G we gd rm, ?_⟩⟩
  obtain ⟨hl, Z, ds, hz, hv, q⟩ := q
  subst hnl
  refine ⟨G, Z, [], _, sr_start hz hv (by omega), ?_⟩
  unfold runF at q
  cases r : fb (ds.map Slot.val ++ List.replicate (N.length - ds.length) Slot.no) with
  | go fl ρ =>
    rw [r] at q
    cases fl with
    | nx =>
      intro σ' H' S'
      refine q .non H' S'.base ?_
      cases fr <;> exact .non
    | bk => exact q.elim
    | ct => exact q.elim
    | rt d => exact q
  | er c i ρ =>
    rw [r] at q
    exact fun cls dd σ' H' S' e => q cls dd H' S'.base e
  | bad =>
    rw [r] at q
    exact q.elim
end
section
variable {X : Cx} {W : WX} {c : Bool} {k n m : Nat} {x : Str} {p pos : Pos} {e : Expr} {es : List Expr} {f : List Da → R Da} {fl : En → R (List Da)} {fA : Addr} {fd : FuncData} {ps : List Str} {sp : Sp} {we : Sg → XK} {ta : TA} {dv : List V} {dd : List Da}
theorem pe_callGD {ds : List Value} (F : FnG X.prog X.w X.K X.mg X.base k fA fd ps sp) (rm : Room k X.A) (gd : X.A.guards = some []) (hg : Gl X x) (hm : X.mg x = some (.ref fA)) (kp : PySem.W.keepIn X.K (.ref fA) = true) (rd : Vals dv ds) (bd : Binds X.K fd ps ds)
    (hx : ∀ σ, PassesAt (L2.CX X.prog X.w) X σ (we σ)) (ha : PA X (e :: es) ta) (hdb : (x == ("__debug__" : Str)) = false := by decide) (he : starEach (e :: es) X.env = (false, eval e X.env) :: starEach es X.env := by rfl)
    (hpl : (backTo pos (starEach es X.env)).any (·.1) = false := by rfl) : PE X (.Call (.Name x p) (e :: es) [] pos) (tCallS (fun vs H Q E => sp (vs ++ dv) H Q E) we ta) := by
  constructor
  intro pins s σ H Q I h
  apply wpAny_Call_Name_kw (ld_glob I hg hm _ hdb)
  refine PySem.W.callWith_K (h₀ := X.base) I.ok.mod.kin kp (thn (ha.run pos pins s σ H _ I h) ?_) he hpl
  rintro us s1 ⟨vs, H1, I1, rv, q⟩
  refine ⟨I1.kIn, ?_⟩
  have hl : (us ++ ds).length = ps.length := (rv.append rd).length.symm.trans (F.len _ _ _ _ q)
  have bb := bd s1 us I1.kIn hl
  apply wpAny_call
  apply codeAny_mono (F.run X.A X.stack s1 H1 ⟨us, []⟩ (us ++ ds) (vs ++ dv) Q (we σ) gd rm I1.env0 bb (rv.append rd) q)
  intro r s2 hr
  cases r with
  | error er => exact hx σ pins H1 s1 er s2 I1 hr
  | ok fl =>
    cases fl with
    | ret u => exact I1.after hr
    | next => exact hr.elim
    | brk => exact hr.elim
    | cont => exact hr.elim
theorem vrs_lenD {K : PySem.W.Frag} {H : Hp} (h : Vrs K H dv dd) : dv.length = dd.length := vrs_len h
theorem ef_callD (F : FnVD X.prog X.w X.K X.mg X.base k x n true dv f) (hdv : ∀ H, Vrs X.K H dv dd) (hm : m + dd.length = n) (rm : Room k X.A) (gd : X.A.guards = some []) (tk : Takes X W) (hg : Gl X x) (ha : AV X W true m (e :: es) fl) (hdb : (x == ("__debug__" : Str)) = false := by decide)
    (he : starEach (e :: es) X.env = (false, eval e X.env) :: starEach es X.env := by rfl) (hpl : (backTo pos (starEach es X.env)).any (·.1) = false := by rfl) : EF X W (.Call (.Name x p) (e :: es) [] pos) (eApL (fun ds => f (ds ++ dd)) fl) := by
  obtain ⟨fA, fd, ps, ds0, h1, h2, rd, h3, h4, h5⟩ := F
  refine pe_imp (pe_callGD h5 rm gd hg h1 h2 rd h3 (fun σ => passAt tk σ) ha hdb he hpl) fun σ H Q ⟨H0, Z, G, ρ, S, q⟩ => ⟨H0, Z, G, ρ, S, ?_⟩
  unfold eApL at q
  cases r : fl ρ with
  | ok ds =>
    rw [r] at q
    refine fun vs H1 e1 hd => ⟨by rw [List.length_append, vrs_len hd.1, hd.2, vrs_len (hdv H1)]; exact hm, hid Z ρ σ, ds ++ dd, fun a z => (S.grow e1).hidl z, vrs_appD hd.1 (hdv _), ?_⟩
    have q' : Arm X W kF Z ρ σ ((f (ds ++ dd)).bind asL) H Q := q
    cases r2 : f (ds ++ dd) with
    | ok d =>
      rw [r2] at q'
      intro v H' e2 hr
      cases d with
      | list es =>
        obtain ⟨p, ws, k1, k3, k4, k5⟩ := hr
        exact q' v H' (e1.trans e2) ⟨p, ws, k1, e1.free k3, k4, k5⟩
      | _ => exact q'.elim
    | err c i =>
      rw [r2] at q'
      exact fun cls dd H' e2 he => q' cls dd H' (e1.trans e2) he
    | bad =>
      rw [r2] at q'
      exact q'
  | err x i =>
    rw [r] at q
    exact q
  | bad =>
    rw [r] at q
    exact q
theorem ev_callXD (F : FnVD X.prog X.w X.K X.mg X.base k x n true dv f) (hdv : ∀ H, Vrs X.K H dv dd) (hm : m + dd.length = n) (rm : Room k X.A) (gd : X.A.guards = some []) (tk : Takes X W) (hg : Gl X x) (ha : AV X W c m (e :: es) fl) (hdb : (x == ("__debug__" : Str)) = false := by decide)
    (he : starEach (e :: es) X.env = (false, eval e X.env) :: starEach es X.env := by rfl) (hpl : (backTo pos (starEach es X.env)).any (·.1) = false := by rfl) : EV X W c (.Call (.Name x p) (e :: es) [] pos) (eAp (fun ds => f (ds ++ dd)) fl) := by
  obtain ⟨fA, fd, ps, ds0, h1, h2, rd, h3, h4, h5⟩ := F
  refine pe_imp (pe_callGD h5 rm gd hg h1 h2 rd h3 (fun σ => passAt tk σ) ha hdb he hpl) fun σ H Q ⟨H0, Z, G, ρ, S, q⟩ => ⟨H0, Z, G, ρ, S, (Arm.bind q).imp fun vs H1 ⟨e1, ds, hd, q1⟩ => ?_⟩
  refine ⟨by rw [List.length_append, vrs_len hd.1, hd.2, vrs_len (hdv H1)]; exact hm, lv c Z ρ σ, ds ++ dd, fun a z => (S.grow e1).hidl (lv_hid z), vrs_appD hd.1 (hdv _), ?_⟩
  have q2 : Arm X W (kV c) Z ρ σ (f (ds ++ dd)) H1 Q := q1
  cases r : f (ds ++ dd) with
  | ok d =>
    rw [r] at q2
    intro v H' e2 hr
    refine q2 v H' e2 ?_
    cases d with
    | list es =>
      obtain ⟨p, ws, k1, k3, k4, k5⟩ := hr
      rw [k1]
      have np : ¬ lv c Z ρ σ p := fun z => (S.grow e1).hidin (lv_hid z) k3
      exact .lst (.of (hide_eq.mpr ⟨np, k4⟩)) (vrs_same (hide_to fun a o h n => ⟨fun z => n (.inl z), h⟩) k5)
    | _ => exact hr
  | err c i =>
    rw [r] at q2
    exact q2
  | bad =>
    rw [r] at q2
    exact q2
end
section
variable {X : Cx} {W : WX} {c : Bool} {pos : Pos}
/-! ### a tuple of the module's own -/
theorem ev_globT {a : Addr} {x : Str} {xs : List V} {ds : List Da} (hg : Gl X x) (hm : X.mg x = some (.ref a)) (ht : ∀ H, SqT X.K H a xs) (hv : ∀ H, Vrs X.K H xs ds) (hd : (x == ("__debug__" : Str)) = false := by decide) : EV X W c (.Name x pos) (eC (.tuple ds)) :=
  pe_imp (pe_glob (v := V.ref a) hg hm rfl hd) fun σ H Q ⟨H0, Z, G, ρ, S, q⟩ => q _ H (Same.refl _) (.tup (ht _) (hv _))
end
end VL
namespace VL
open PySem PySem.Spec PyProof.Rows L2
/-! ### min and max of a tuple of ints -/
section
variable {prog : Program} {w : World} {A : Around} {s : Shared} {l : Addr} {xs : Array (Int × Tok)} {E : Value → Shared → Prop}
theorem old_keptT {h' : Heap} (hk : ∀ b o, b ∉ [s.heap.objs.size] → (s.heap.push { cls := .type "tuple_iterator", data := .fields #[.ref l, .int 0 0] }).get? b = some o → h'.get? b = some o) :
    ∀ b o, s.heap.get? b = some o → h'.get? b = some o := fun b o e => by
  refine hk b o (fun hm => ?_) (Heap.get?_push_of_some _ e)
  rcases List.mem_cons.mp hm with e1 | hm
  · exact absurd (e1 ▸ Heap.lt_size e) (Nat.lt_irrefl _)
  · cases hm
theorem iter_intTup {Q : Value → Shared → Prop} (hl : s.heap.IsTuple l (intItems xs))
    (h : ∀ s₂ : Shared, s₂ = { s with heap := s.heap.push { cls := .type "tuple_iterator", data := .fields #[.ref l, .int 0 0] } } →
      (s₂.heap.IsTupleIter s.heap.objs.size l 0 ∧ s₂.heap.IsTuple l (intItems xs)) → (∀ b ∈ [s.heap.objs.size, l], b < s₂.heap.objs.size) → l ≠ s.heap.objs.size → Q (.ref s.heap.objs.size) s₂) :
    wpAny (model prog w) A (pyIter (.ref l)) Q E s := by
  have hlt : l < s.heap.objs.size := by obtain ⟨_, e, _⟩ := hl; exact Heap.lt_size e
  refine wpAny_pyIter_tuple hl (h _ rfl ⟨⟨_, Heap.get?_push_size _ rfl, rfl, rfl⟩, hl.push _⟩ (fun b hb => ?_) (Nat.ne_of_lt hlt))
  show b < (s.heap.push _).objs.size
  rw [Heap.size_push]
  rcases List.mem_cons.mp hb with rfl | hb
  · exact Nat.lt_succ_self _
  · rcases List.mem_cons.mp hb with rfl | hb
    · exact Nat.lt_succ_of_lt hlt
    · cases hb
theorem max_intTup {Q : Value → Shared → Prop} (hh : A.handled = none) (hl : s.heap.IsTuple l (intItems xs)) (hne : 0 < xs.size)
    (h : ∀ v h' tk, (intItems xs)[argBest (fun i j => decide (numAt xs i > numAt xs j)) (xs.size - 1)]? = some v → (∀ b o, s.heap.get? b = some o → h'.get? b = some o) → Q v { s with heap := h', toks := tk }) :
    wpAny (model prog w) A (call (.builtin "max") [.ref l]) Q E s := by
  refine call_max_walk (iter_intTup hl fun s₂ e st hfp hlI => ?_)
  subst e
  refine ⟨_, _, _, _, _, _, _, rfl, Walks.tuple (A := A.in1) hh _ l hlI (intItems xs), st, hfp, by simpa [intItems] using hne, CmpOf.ints_gt (numAt xs) (fun _ _ => intItems_at), fun v h' tk hP hk => ?_⟩
  exact h v h' tk (by simpa [intItems] using hP) (old_keptT hk)
theorem min_intTup {Q : Value → Shared → Prop} (hh : A.handled = none) (hl : s.heap.IsTuple l (intItems xs)) (hne : 0 < xs.size)
    (h : ∀ v h' tk, (intItems xs)[argBest (fun i j => decide (numAt xs i < numAt xs j)) (xs.size - 1)]? = some v → (∀ b o, s.heap.get? b = some o → h'.get? b = some o) → Q v { s with heap := h', toks := tk }) :
    wpAny (model prog w) A (call (.builtin "min") [.ref l]) Q E s := by
  refine call_min_walk (iter_intTup hl fun s₂ e st hfp hlI => ?_)
  subst e
  refine ⟨_, _, _, _, _, _, _, rfl, Walks.tuple (A := A.in1) hh _ l hlI (intItems xs), st, hfp, by simpa [intItems] using hne, CmpOf.ints_lt (numAt xs) (fun _ _ => intItems_at), fun v h' tk hP hk => ?_⟩
  exact h v h' tk (by simpa [intItems] using hP) (old_keptT hk)
theorem max_rawT {ns : List Int} {its : List Value} {Q : Value → Shared → Prop} (hh : A.handled = none) (hl : s.heap.IsTuple l its.toArray) (hi : IntsAre its ns) (hne : 0 < ns.length)
    (h : ∀ h' tk M t', (∀ b o, s.heap.get? b = some o → h'.get? b = some o) → M ∈ ns → (∀ a, a ∈ ns → a ≤ M) → Q (.int M t') { s with heap := h', toks := tk }) : wpAny (model prog w) A (call (.builtin "max") [.ref l]) Q E s := by
  obtain ⟨xs, e⟩ := hi.allInts.items
  have hn : numsOf (intItems xs).toList = ns := by rw [← e]; exact hi.numsOf
  rw [nums_intItems] at hn
  subst hn
  rw [e] at hl
  have hsz : 0 < xs.size := by simpa using hne
  refine max_intTup hh hl hsz fun v h' tk hv hk => ?_
  obtain ⟨t, rfl⟩ := intItems_at hv
  obtain ⟨h1, h2⟩ := argBest_gt (numAt xs) (xs.size - 1)
  refine h h' tk _ t hk ?_ fun a ha => ?_
  · rw [numAt_eq]; exact PySem.getD_mem (by rw [List.length_map, Array.length_toList]; omega)
  · obtain ⟨j, hj, rfl⟩ := mem_getD ha
    rw [List.length_map, Array.length_toList] at hj
    rw [← numAt_eq]; exact h2 j (by omega)
theorem min_rawT {ns : List Int} {its : List Value} {Q : Value → Shared → Prop} (hh : A.handled = none) (hl : s.heap.IsTuple l its.toArray) (hi : IntsAre its ns) (hne : 0 < ns.length)
    (h : ∀ h' tk M t', (∀ b o, s.heap.get? b = some o → h'.get? b = some o) → M ∈ ns → (∀ a, a ∈ ns → M ≤ a) → Q (.int M t') { s with heap := h', toks := tk }) : wpAny (model prog w) A (call (.builtin "min") [.ref l]) Q E s := by
  obtain ⟨xs, e⟩ := hi.allInts.items
  have hn : numsOf (intItems xs).toList = ns := by rw [← e]; exact hi.numsOf
  rw [nums_intItems] at hn
  subst hn
  rw [e] at hl
  have hsz : 0 < xs.size := by simpa using hne
  refine min_intTup hh hl hsz fun v h' tk hv hk => ?_
  obtain ⟨t, rfl⟩ := intItems_at hv
  obtain ⟨h1, h2⟩ := argBest_lt (numAt xs) (xs.size - 1)
  refine h h' tk _ t hk ?_ fun a ha => ?_
  · rw [numAt_eq]; exact PySem.getD_mem (by rw [List.length_map, Array.length_toList]; omega)
  · obtain ⟨j, hj, rfl⟩ := mem_getD ha
    rw [List.length_map, Array.length_toList] at hj
    rw [← numAt_eq]; exact h2 j (by omega)
end
def rMaxT (K : PySem.W.Frag) : List V → Hp → VK → Prop := fun vs H Q => ∃ (a : Addr) (ns : List Int), vs = [V.ref a] ∧ (SqL K H a (ns.map V.int) ∨ SqT K H a (ns.map V.int)) ∧ 0 < ns.length ∧ ∀ m, m ∈ ns → (∀ y, y ∈ ns → y ≤ m) → Q (.int m) H
def rMinT (K : PySem.W.Frag) : List V → Hp → VK → Prop := fun vs H Q => ∃ (a : Addr) (ns : List Int), vs = [V.ref a] ∧ (SqL K H a (ns.map V.int) ∨ SqT K H a (ns.map V.int)) ∧ 0 < ns.length ∧ ∀ m, m ∈ ns → (∀ y, y ∈ ns → m ≤ y) → Q (.int m) H
theorem isT_of {h : Heap} {a : Addr} {its : Array Value} (t : IsTup h a its) : h.IsTuple a its := by
  obtain ⟨o, e, c, n, d⟩ := t
  exact ⟨o, e, c, n, d⟩
theorem cr_maxT {X : Cx} (hc : X.calm = true) : CallR X (.builtin "max") (rMaxT X.K) := by
  intro pins s σ H vs us Q I r h
  obtain ⟨a, ns, rfl, hs | hs, hne, q⟩ := h
  · exact cr_max hc pins s σ H _ us Q I r ⟨a, ns, rfl, hs, hne, q⟩
  · obtain ⟨its, rv, hl, _⟩ := I.tuple hs
    rw [Vals.ref1 r]
    exact max_rawT (I.ok.hd hc) (isT_of hl) rv.ints hne fun h' tk m t' hk h1 h2 => ⟨.int _, H, I.kept hk, ⟨_, rfl⟩, q m h1 h2⟩
theorem cr_minT {X : Cx} (hc : X.calm = true) : CallR X (.builtin "min") (rMinT X.K) := by
  intro pins s σ H vs us Q I r h
  obtain ⟨a, ns, rfl, hs | hs, hne, q⟩ := h
  · exact cr_min hc pins s σ H _ us Q I r ⟨a, ns, rfl, hs, hne, q⟩
  · obtain ⟨its, rv, hl, _⟩ := I.tuple hs
    rw [Vals.ref1 r]
    exact min_rawT (I.ok.hd hc) (isT_of hl) rv.ints hne fun h' tk m t' hk h1 h2 => ⟨.int _, H, I.kept hk, ⟨_, rfl⟩, q m h1 h2⟩
def gMaxT : List Da → R Da
  | [.list ds] => (opt (intsOf ds)).bind fun ns => (opt ns.max?).bind fun m => .ok (.int m)
  | [.tuple ds] => (opt (intsOf ds)).bind fun ns => (opt ns.max?).bind fun m => .ok (.int m)
  | _ => .bad
def gMinT : List Da → R Da
  | [.list ds] => (opt (intsOf ds)).bind fun ns => (opt ns.min?).bind fun m => .ok (.int m)
  | [.tuple ds] => (opt (intsOf ds)).bind fun ns => (opt ns.min?).bind fun m => .ok (.int m)
  | _ => .bad
theorem mm_ok {ds : List Da} {f : List Int → Option Int} {r : R Da} (k : ((opt (intsOf ds)).bind fun ns => (opt (f ns)).bind fun m => R.ok (PyData.int m)) = r) : r = .bad ∨ ∃ ns m, intsOf ds = some ns ∧ f ns = some m ∧ r = .ok (.int m) := by
  cases e : intsOf ds with
  | none =>
    rw [e] at k
    exact .inl k.symm
  | some ns =>
    rw [e] at k
    have k' : (opt (f ns)).bind (fun m => R.ok (PyData.int m)) = r := k
    cases e2 : f ns with
    | none =>
      rw [e2] at k'
      exact .inl k'.symm
    | some m =>
      rw [e2] at k'
      exact .inr ⟨ns, m, rfl, e2, k'.symm⟩
theorem cs_maxT {K : PySem.W.Frag} : CallS K gMaxT (rMaxT K) := by
  intro ds H vs Q h
  cases k : gMaxT ds with
  | bad => trivial
  | err x i =>
    unfold gMaxT at k
    split at k
    next => rcases mm_ok k with e | ⟨_, _, _, _, e⟩ <;> cases e
    next => rcases mm_ok k with e | ⟨_, _, _, _, e⟩ <;> cases e
    next => cases k
  | ok d =>
    unfold gMaxT at k
    split at k
    next es =>
      obtain ⟨v, rfl, hv⟩ := vrs_one h
      rcases mm_ok k with e | ⟨ns, m, e1, e2, e⟩
      · cases e
      cases e
      cases hv with
      | lst h1 h2 =>
        have z := vrs_ints h2 e1
        obtain ⟨k1, k2⟩ := List.max?_eq_some_iff.mp e2
        refine ⟨_, .int _, fun q => ⟨_, ns, rfl, .inl (by rw [← z]; exact h1.sq), List.length_pos_of_mem k1, fun m' a b => ?_⟩⟩
        have e3 : m' = m := Int.le_antisymm (k2 m' a) (b m k1)
        rw [e3]
        exact q
    next es =>
      obtain ⟨v, rfl, hv⟩ := vrs_one h
      rcases mm_ok k with e | ⟨ns, m, e1, e2, e⟩
      · cases e
      cases e
      cases hv with
      | tup h1 h2 =>
        have z := vrs_ints h2 e1
        obtain ⟨k1, k2⟩ := List.max?_eq_some_iff.mp e2
        refine ⟨_, .int _, fun q => ⟨_, ns, rfl, .inr (by rw [← z]; exact h1), List.length_pos_of_mem k1, fun m' a b => ?_⟩⟩
        have e3 : m' = m := Int.le_antisymm (k2 m' a) (b m k1)
        rw [e3]
        exact q
    next => cases k
theorem cs_minT {K : PySem.W.Frag} : CallS K gMinT (rMinT K) := by
  intro ds H vs Q h
  cases k : gMinT ds with
  | bad => trivial
  | err x i =>
    unfold gMinT at k
    split at k
    next => rcases mm_ok k with e | ⟨_, _, _, _, e⟩ <;> cases e
    next => rcases mm_ok k with e | ⟨_, _, _, _, e⟩ <;> cases e
    next => cases k
  | ok d =>
    unfold gMinT at k
    split at k
    next es =>
      obtain ⟨v, rfl, hv⟩ := vrs_one h
      rcases mm_ok k with e | ⟨ns, m, e1, e2, e⟩
      · cases e
      cases e
      cases hv with
      | lst h1 h2 =>
        have z := vrs_ints h2 e1
        obtain ⟨k1, k2⟩ := List.min?_eq_some_iff.mp e2
        refine ⟨_, .int _, fun q => ⟨_, ns, rfl, .inl (by rw [← z]; exact h1.sq), List.length_pos_of_mem k1, fun m' a b => ?_⟩⟩
        have e3 : m' = m := Int.le_antisymm (b m k1) (k2 m' a)
        rw [e3]
        exact q
    next es =>
      obtain ⟨v, rfl, hv⟩ := vrs_one h
      rcases mm_ok k with e | ⟨ns, m, e1, e2, e⟩
      · cases e
      cases e
      cases hv with
      | tup h1 h2 =>
        have z := vrs_ints h2 e1
        obtain ⟨k1, k2⟩ := List.min?_eq_some_iff.mp e2
        refine ⟨_, .int _, fun q => ⟨_, ns, rfl, .inr (by rw [← z]; exact h1), List.length_pos_of_mem k1, fun m' a b => ?_⟩⟩
        have e3 : m' = m := Int.le_antisymm (b m k1) (k2 m' a)
        rw [e3]
        exact q
    next => cases k
/-! ### max of three ints -/
def gMax3 : List Da → R Da
  | [.int i, .int j, .int k] => .ok (.int (if (if i < j then j else i) < k then k else (if i < j then j else i)))
  | _ => .bad
theorem vrs_three {K : PySem.W.Frag} {H : Hp} {vs : List V} {a b c : Da} (h : Vrs K H vs [a, b, c]) : ∃ u v w, vs = [u, v, w] ∧ Vr K H u a ∧ Vr K H v b ∧ Vr K H w c := by
  cases h with
  | cons h t =>
    obtain ⟨v, w, rfl, k, l⟩ := vrs_two t
    exact ⟨_, _, _, rfl, h, k, l⟩
theorem nu3 (i j k : Int) : nuMax3 (.int i) (.int j) (.int k) = some (.int (if (if i < j then j else i) < k then k else (if i < j then j else i))) := by
  have two : ∀ a b : Int, nuMax2 (.int a) (.int b) = some (.int (if a < b then b else a)) := fun a b => by
    show some (if decide (a < b) = true then V.int b else V.int a) = _
    by_cases q : a < b
    · rw [if_pos q, if_pos (decide_eq_true q)]
    · rw [if_neg q, if_neg (by simpa using q)]
  unfold nuMax3
  rw [two]
  exact two _ _
theorem cs_max3 {K : PySem.W.Frag} : CallS K gMax3 (rNuC3 nuMax3) := by
  intro ds H vs Q h
  cases k : gMax3 ds with
  | bad => trivial
  | err x i =>
    unfold gMax3 at k
    split at k <;> cases k
  | ok d =>
    unfold gMax3 at k
    split at k
    next i j l =>
      obtain ⟨u, v, w, rfl, h1, h2, h3⟩ := vrs_three h
      cases k
      cases h1
      cases h2
      cases h3
      exact ⟨_, .int _, fun q => ⟨_, _, _, _, rfl, nu3 i j l, q⟩⟩
    next => cases k
theorem q_max3 {i j k : Int} : gMax3 [.int i, .int j, .int k] = .ok (.int (if (if i < j then j else i) < k then k else (if i < j then j else i))) := rfl
/-! ### a, b = x, y -/
section
variable {X : Cx} {W : WX} {fr : Bool} {a b e : Expr} {fa : En → R Da} {fl : En → R (List Da)} {pos : Pos}
def sPar (i j : Nat) (fl : En → R (List Da)) : En → SRs := fun ρ => sB (fl ρ) ρ fun ds => match ds with
  | [x, y] => .go .nx ((ρ.set i (.val x)).set j (.val y))
  | _ => .bad
theorem sv_par {i j : Nat} {x y : Str} {px py pt : Pos} {kt k2 : Nat} {pt2 : Pos} (hc : X.calm = true) (hN : X.N.Nodup) (hi : X.N[i]? = some x) (hj : X.N[j]? = some y) (hij : i ≠ j)
    (hx : X.env.scope.names.lookup x = some .local) (hy : X.env.scope.names.lookup y = some .local) (ha : AV X W true 2 [a, b] fl)
    (hw : swappedStores [.Tuple [.Name x px, .Name y py] kt pt] (.Tuple [a, b] k2 pt2) X.env = pure (some [x, y]))
    (hs : swapsWithSole [.Tuple [.Name x px, .Name y py] kt pt] (.Tuple [a, b] k2 pt2) pos.line X.env = pure false := by rfl) :
    SV X W fr (.Assign [.Tuple [.Name x px, .Name y py] kt pt] (.Tuple [a, b] k2 pt2) pos) (sPar i j fl) :=
  ps_imp (ps_par hc hN hi hj hij hx hy ha hw hs) fun D σ H ⟨H0, Z, G, ρ, S, h⟩ => ⟨H0, Z, G, ρ, S, (SArm.bind S h).imp fun vs H1 ⟨e1, ds, hd, h1⟩ => by
    obtain ⟨hd1, hd2⟩ := hd
    match ds, hd1, h1 with
    | [p, q], hd1, h1 =>
      obtain ⟨v, w, rfl, hv, hw⟩ := vrs_two hd1
      refine ⟨v, w, rfl, h1 _ H1 (((S.grow e1).set_val hv).set_val (vr_same (hide_to fun a o h n => ⟨fun z => n (z.imp id ownAt_set_val), h⟩) hw))⟩
    | [], _, h1 => exact h1.elim
    | [_], _, h1 => exact h1.elim
    | _ :: _ :: _ :: _, _, h1 => exact h1.elim⟩
/-! ### a def that is never asked -/
theorem fnV_bad {P : Program} {w : World} {K : PySem.W.Frag} {mg : Str → Option Value} {base : Heap} {k : Nat} {x x' qual : Str} {st : Stmt} {fA : Addr} {fd : FuncData} {ps : List Str} {n : Nat} {fr : Bool} (F : Fun K x' qual st fA fd) (hm : mg x = some (.ref fA)) (bd : Binds K fd ps []) (hn : ps.length = n) : FnV P w K mg base k x n fr (fun _ => .bad) :=
  ⟨fA, fd, ps, hm, F.kp, bd, hn, ⟨fun ys G wq we q => q.1.trans hn.symm, fun B out t G ar ws ys wq we gd rm env b v q => q.2.elim fun Z h => h.elim fun ds h => h.2.2.elim⟩⟩
/-! ### x = f(..): a new list, or a plain answer -/
def kX : Kd Da V := ⟨fun K Z ρ σ H d v H' => RetOk K true H (hid Z ρ σ) H' v d, fun K Z ρ σ H H1 d v H' e h => by
  cases d with
  | list ds =>
    obtain ⟨p, vs, h1, h2, h3⟩ := h
    exact ⟨p, vs, h1, e.free h2, h3⟩
  | _ => exact h⟩
theorem xv_call {k n : Nat} {x : Str} {p : Pos} {es : List Expr} {f : List Da → R Da} (F : FnV X.prog X.w X.K X.mg X.base k x n true f) (rm : Room k X.A) (gd : X.A.guards = some []) (tk : Takes X W) (hg : Gl X x) (ha : AV X W true n (e :: es) fl) (hdb : (x == ("__debug__" : Str)) = false := by decide)
    (he : starEach (e :: es) X.env = (false, eval e X.env) :: starEach es X.env := by rfl) (hpl : (backTo pos (starEach es X.env)).any (·.1) = false := by rfl) : PE X (.Call (.Name x p) (e :: es) [] pos) (J X W kX (eAp f fl)) := by
  obtain ⟨fA, fd, ps, h1, h2, h3, h4, h5⟩ := F
  refine pe_imp (pe_callG h5 rm gd hg h1 h2 h3 (fun σ => passAt tk σ) ha hdb he hpl) fun σ H Q ⟨H0, Z, G, ρ, S, q⟩ => ⟨H0, Z, G, ρ, S, (Arm.bind q).imp fun vs H1 ⟨e1, ds, hd, q1⟩ => ?_⟩
  refine ⟨(vrs_len hd.1).trans hd.2, hid Z ρ σ, ds, fun a z => (S.grow e1).hidl z, hd.1, ?_⟩
  cases r : f ds with
  | ok d =>
    rw [r] at q1
    exact fun v H' e2 hr => q1 v H' e2 hr
  | err c i =>
    rw [r] at q1
    exact q1
  | bad =>
    rw [r] at q1
    exact q1
def setD (i : Nat) (d : Da) (ρ : En) : En := match d with
  | .list ds => ρ.set i (.own ds)
  | d => ρ.set i (.val d)
def sSetX (i : Nat) (f : En → R Da) : En → SRs := fun ρ => sB (f ρ) ρ fun d => .go .nx (setD i d ρ)
theorem setX_of {i : Nat} {D : Ends} {σ : Sg} {H : Hp} (h : tS X W fr (sSetX i fa) D σ H) : J X W kX fa σ H fun v H1 => gName i v σ H1 D.nx := by
  obtain ⟨H0, Z, G, ρ, S, h⟩ := h
  refine ⟨H0, Z, G, ρ, S, (SArm.bind S h).imp fun v H1 ⟨e1, d, hd, h1⟩ => ?_⟩
  cases d with
  | list ds =>
    obtain ⟨p, vs, k1, k2, k3, k4⟩ := hd
    subst k1
    exact h1 _ H1 (S.set_own e1 k2 k3 k4)
  | none => exact h1 _ H1 ((S.grow e1).set_val hd)
  | bool _ => exact h1 _ H1 ((S.grow e1).set_val hd)
  | int _ => exact h1 _ H1 ((S.grow e1).set_val hd)
  | str _ => exact h1 _ H1 ((S.grow e1).set_val hd)
  | tuple _ => exact h1 _ H1 ((S.grow e1).set_val hd)
  | dict _ => exact h1 _ H1 ((S.grow e1).set_val hd)
theorem sv_setX {i : Nat} {x : Str} {pos' : Pos} (hN : X.N.Nodup) (hi : X.N[i]? = some x) (hx : Loc X.env.scope x) (he : PE X e (J X W kX fa)) (hs : swapsWith e (some (.Name x pos')) pos.line X.env = pure false := by rfl)
    (hf : X.fn x = true ∨ X.env.scope.names.lookup x = some .local := by first | exact .inl rfl | exact .inr rfl | assumption) : SV X W fr (.Assign [.Name x pos'] e pos) (sSetX i fa) :=
  ps_imp (ps_set hN hi hx he hs hf) fun D σ H h => setX_of h
end
/-! ### xs[-2::-1] -/
theorem rv2_bounds (n : Nat) : sliceBounds (some (-2)) none (some (-1)) n = (((n - 1 : Nat) : Int) - 1, -1, -1) := by
  simp [sliceBounds]
  omega
theorem rv2_pick (items : Array Value) : slicePick items (some (-2)) none (some (-1)) = (items.toList.take (items.size - 1)).reverse.toArray := by
  unfold slicePick
  rw [rv2_bounds]
  show ((sliceRange (((items.size - 1 : Nat) : Int) - 1) (-1) (-1)).filterMap (items[·]?)).toArray = _
  rw [PySem.W.krv_sliceRange, PySem.W.krv_range, List.filterMap_reverse]
  congr 2
  have h := pick_run items 0 (items.size - 1)
  have e : (List.range (items.size - 1)).map (0 + ·) = List.range (items.size - 1) := by
    rw [show ((0 + ·) : Nat → Nat) = id from funext fun k => Nat.zero_add k, List.map_id]
  rw [e, List.drop_zero] at h
  exact h
theorem vals_take : ∀ {vs : List V} {us : List Value} (n : Nat), Vals vs us → Vals (vs.take n) (us.take n)
  | _, _, 0, _ => .nil
  | _, _, _ + 1, .nil => .nil
  | _, _, n + 1, .cons h t => .cons h (vals_take n t)
section
variable {X : Cx} {W : WX} {fl : En → R (List Da)}
def tRev2 (K : PySem.W.Frag) (te : TE) : TE := fun σ H Q => te σ H fun x H1 => ∃ a xs, x = .ref a ∧ SqL K H1 a xs ∧ ∀ p, H1 p = none → Q (.ref p) (upd H1 p (.lst (xs.take (xs.length - 1)).reverse))
theorem pe_rev2 {e : Expr} {te : TE} {k j : Nat} {p1 p2 p3 p4 p5 pos : Pos} (he : PE X e te) : PE X (.Subscript e (.Slice (some (.UnaryOp .USub (.Constant (.int 2) j p4) p5)) none (some (.UnaryOp .USub (.Constant (.int 1) k p1) p2)) p3) pos) (tRev2 X.K te) := by
  refine ⟨fun pins s σ H Q I h => ?_⟩
  refine Subscript_ (thn (he.run pins s σ H _ I h) fun v s1 ⟨x, H1, I1, r1, q1⟩ => ?_)
  obtain ⟨a, xs, ex, hx, q⟩ := q1
  subst ex
  cases r1
  have hlo : PO X (some (.UnaryOp .USub (.Constant (.int 2) j p4) p5)) (tPart (tUn (rU fun i => .int (-i)) (tC (.int 2)))) := po_some (pe_un un_neg pe_int)
  have hst : PO X (some (.UnaryOp .USub (.Constant (.int 1) k p1) p2)) (tPart (tUn (rU fun i => .int (-i)) (tC (.int 1)))) := po_some (pe_un un_neg pe_int)
  refine wpAny_Slice (thn (hlo.run pins s1 σ H1 (fun o H2 => o = some (-2) ∧ H2 = H1) I1 ⟨2, rfl, -2, rfl, rfl, rfl⟩) fun vl s2 ⟨l, H2, I2, pl, el, e2⟩ => ?_)
  subst el e2
  refine thn (po_none.run pins s2 σ H2 (fun o H3 => o = none ∧ H3 = H2) I2 ⟨rfl, rfl⟩) fun vu s3 ⟨u, H3, I3, pu, eu, e3⟩ => ?_
  subst eu e3
  refine thn (hst.run pins s3 σ H3 (fun o H4 => o = some (-1) ∧ H4 = H3) I3 ⟨1, rfl, -1, rfl, rfl, rfl⟩) fun vs s4 ⟨o, H4, I4, ps, eo, e4⟩ => ?_
  subst eo e4
  have I5 : Inv X pins σ H4 { s4 with heap := s4.heap.push { cls := .type "slice", data := .fields #[vl, vu, vs] } } := I4.kept (t' := s4.toks) fun b ob q => Heap.get?_push_of_some _ q
  obtain ⟨its, r, ht, hz⟩ := I5.list hx
  have hlen := r.length
  show wpAny (model X.prog X.w) X.A (subscriptTail e (.Slice (some (.UnaryOp .USub (.Constant (.int 2) j p4) p5)) none (some (.UnaryOp .USub (.Constant (.int 1) k p1) p2)) p3) (.ref a) (.ref s4.heap.objs.size)) (EP X pins σ Q) X.xe { s4 with heap := s4.heap.push { cls := .type "slice", data := .fields #[vl, vu, vs] } }
  refine tail_any (ops := [.ref a, .ref s4.heap.objs.size]) ht.isList.typeIs (PySem.slot_list_getitem.lookup) ?_ (by with_unfolding_all rfl)
  refine wpAny_getItem_list_slice ht.isList (Heap.IsSliceOf.new _ vl vu vs) pl pu ps (by decide) ?_ (by rw [List.size_toArray]; omega)
  rw [show slicePick its.toArray (some (-2)) none (some (-1)) = (its.take (xs.length - 1)).reverse.toArray from by rw [rv2_pick, List.size_toArray, hlen]]
  refine ⟨.ref _, _, I5.laid (t' := s4.toks) (o := .lst (xs.take (xs.length - 1)).reverse) (fun b ob q => Heap.get?_push_of_some _ q) (Nat.le_refl _) ?_, rfl, q _ (I5.hok.fresh (Nat.le_refl _))⟩
  refine ⟨by rw [List.length_reverse, List.length_take]; omega, _, 0, (vals_take (xs.length - 1) r).reverse, Heap.get?_push_size _ rfl⟩
def eRev2 (fl : En → R (List Da)) : En → R (List Da) := fun ρ => (fl ρ).bind fun ds => .ok (ds.take (ds.length - 1)).reverse
theorem ef_rev2 {a : Expr} {k j : Nat} {p1 p2 p3 p4 p5 pos : Pos} (ha : ES X W a fl) : EF X W (.Subscript a (.Slice (some (.UnaryOp .USub (.Constant (.int 2) j p4) p5)) none (some (.UnaryOp .USub (.Constant (.int 1) k p1) p2)) p3) pos) (eRev2 fl) := pe_imp (pe_rev2 ha) fun σ H Q ⟨H0, Z, G, ρ, S, h⟩ => by
  refine ⟨H0, Z, G, ρ, S, (Arm.bind h).imp fun v H1 ⟨e1, ds, ⟨a, vs, hv, h1, h2⟩, h3⟩ => ?_⟩
  refine ⟨a, vs, hv, (ls_same hide_sub h1).sq, fun p hp => ?_⟩
  have := vrs_rev (vrs_take (vs.length - 1) h2)
  rw [vrs_len h2] at this ⊢
  exact Arm.okF h3 (S.grow e1) this hp
theorem q_rev2 {ρ : En} : eRev2 fl ρ = (fl ρ).bind fun ds => .ok (ds.take (ds.length - 1)).reverse := rfl
end
/-! ### slices of a tuple -/
section
variable {X : Cx} {W : WX} {c : Bool} {a : Expr} {fa : En → R Da} {pos : Pos}
def eSlT (fa : En → R Da) (lo hi : En → R (Option Int)) : En → R Da := fun ρ => (fa ρ).bind fun d => (lo ρ).bind fun i => (hi ρ).bind fun j => match d with
  | .tuple ds => .ok (.tuple (cutD ds i j))
  | _ => .bad
theorem cut_whole {ds : List Da} {i j : Option Int} (h : HT.sIx ds.length 0 i = 0 ∧ HT.sIx ds.length ds.length j = ds.length) : cutD ds i j = ds := by
  unfold cutD
  rw [h.1, h.2, List.drop_zero, Nat.sub_zero, List.take_length]
theorem ev_slT {lo hi : Option Expr} {flo fhi : En → R (Option Int)} {p2 : Pos} (ha : EV X W c a fa) (hlo : OV X W lo flo) (hhi : OV X W hi fhi) : EV X W c (.Subscript a (.Slice lo hi none p2) pos) (eSlT fa flo fhi) := pe_imp (pe_slice sl_tupA ha hlo hhi) fun σ H Q ⟨H0, Z, G, ρ, S, h⟩ => by
  refine ⟨H0, Z, G, ρ, S, (Arm.bind h).imp fun v H1 ⟨e1, d, hd, h3⟩ => ⟨H0, Z, G, ρ, S.grow e1, (Arm.bind h3).imp fun i H2 ⟨e2, i', hi, h4⟩ => ⟨H0, Z, G, ρ, (S.grow e1).grow e2, (Arm.bind h4).imp fun j H3 ⟨e3, j', hj, h5⟩ => ?_⟩⟩⟩
  cases hi
  cases hj
  have e23 := e2.trans e3
  have S3 := ((S.grow e1).grow e2).grow e3
  have hd' : Vr X.K (hide (lv c Z ρ σ) H1) v d := hd
  cases hd' with
  | @tup ad xs ds h1 h2 =>
    have h1' := sqt_same (hide_grow e23) h1
    have h2' := vrs_same (hide_grow e23) h2
    have lx := vrs_len h2
    have h6 : Arm X W (kV c) Z ρ σ (.ok (.tuple (cutD ds i j))) H3 Q := h5
    refine ⟨ad, xs, rfl, sqt_same hide_sub h1', fun hw => h6 _ H3 (Same.refl _) ?_, fun hw p hp => ?_⟩
    · rw [lx] at hw
      rw [cut_whole hw]
      exact .tup h1' h2'
    · have np : ¬ lv c Z ρ σ p := fun z => S3.fresh hp (lv_hid z)
      exact h6 _ _ (same_upd hp) (.tup (.inl (.inl (hide_eq.mpr ⟨np, upd_same⟩))) (vrs_same (hide_grow (same_upd hp)) (vrs_cut h2')))
  | _ => exact h5.elim
theorem q_slT {lo hi : En → R (Option Int)} {ds : List Da} {ρ : En} {i j : Option Int} (h1 : fa ρ = .ok (.tuple ds)) (h2 : lo ρ = .ok i) (h3 : hi ρ = .ok j) : eSlT fa lo hi ρ = .ok (.tuple (cutD ds i j)) := by
  unfold eSlT
  rw [h1, h2, h3]
  rfl
end
/-! ### repr of lists, tuples, ints and None -/
def rReprA (K : PySem.W.Frag) : List V → Hp → VK → Prop := fun xs H Q => (∃ a d, xs = [.ref a] ∧ Vr K H (.ref a) d ∧ d.showable = true ∧ d.depth ≤ 60 ∧ d.shown.length ≤ sizeLine ∧ Q (.str d.shown) H) ∨ (∃ i : Int, xs = [.int i] ∧ i.natAbs.log2 < 1920 ∧ Q (.str (PyData.int i).shown) H) ∨ (xs = [.non] ∧ Q (.str PyData.none.shown) H)
theorem call_reprA {X : Cx} (hg : X.A.guards = some []) (hu : X.A.units + 64 < cLine) : CallR X (.builtin "repr") (rReprA X.K) := by
  intro pins s σ H xs us Q I r h
  rcases h with ⟨a, d, h⟩ | ⟨i, ex, hi, q⟩ | ⟨ex, q⟩
  · exact call_reprD hg hu pins s σ H xs us Q I r ⟨a, d, h⟩
  · subst ex
    obtain ⟨u, rfl, r1⟩ := vals1 r
    obtain ⟨t, rfl⟩ := r1
    exact PySem.P.repr_of_int hi ⟨.str _, H, I.tok _, ⟨_, by rfl⟩, q⟩
  · subst ex
    obtain ⟨u, rfl, r1⟩ := vals1 r
    cases r1
    exact PySem.P.repr_of_none ⟨.str _, H, I.tok _, ⟨_, by rfl⟩, q⟩
def gReprA : List Da → R Da
  | [.int i] => if i.natAbs < 10 ^ 12 then .ok (.str (PyData.int i).shown) else .bad
  | [.none] => .ok (.str PyData.none.shown)
  | ds => gRepr ds
theorem cs_reprA {K : PySem.W.Frag} : CallS K gReprA (rReprA K) := by
  intro ds H vs Q h
  cases k : gReprA ds with
  | bad => trivial
  | err x i =>
    unfold gReprA at k
    split at k
    next => (split at k <;> cases k)
    next => cases k
    next =>
      have := cs_repr ds H vs Q h
      rw [k] at this
      exact this
  | ok d =>
    unfold gReprA at k
    split at k
    next i =>
      obtain ⟨v, rfl, hv⟩ := vrs_one h
      by_cases z : i.natAbs < 10 ^ 12
      · rw [if_pos z] at k
        cases k
        cases hv
        exact ⟨_, .str _, fun q => .inr (.inl ⟨i, rfl, Nat.lt_trans (log2_small z) (by decide), q⟩)⟩
      · rw [if_neg z] at k
        cases k
    next =>
      obtain ⟨v, rfl, hv⟩ := vrs_one h
      cases k
      cases hv
      exact ⟨_, .str _, fun q => .inr (.inr ⟨rfl, q⟩)⟩
    next =>
      have := cs_repr ds H vs Q h
      rw [k] at this
      obtain ⟨w, s1, f⟩ := this
      refine ⟨w, s1, fun q => .inl ?_⟩
      exact f q
theorem q_reprI {i : Int} (h : i.natAbs < 10 ^ 12) : gReprA [.int i] = .ok (.str (PyData.int i).shown) := if_pos h
theorem q_reprN : gReprA [.none] = .ok (.str PyData.none.shown) := rfl
theorem q_reprT {ds : List Da} (hs : small (.tuple ds) = true) (hc : cells (.tuple ds) ≤ 20000) (hd : (PyData.tuple ds).depth ≤ 60) : gReprA [.tuple ds] = .ok (.str (PyData.tuple ds).shown) := q_repr hs hc hd
end VL
namespace VL
open PySem PySem.Spec PyProof.Rows L2
/-! ### a variable that is a list of its own or a plain value, borrowed -/
def eVarB (i : Nat) : En → R Da := fun ρ => match ρ[i]? with
  | some (.val d) => .ok d
  | some (.own ds) => .ok (.list ds)
  | _ => .bad
theorem ev_varB {X : Cx} {W : WX} {pos : Pos} {i : Nat} {x : Str} (h : PE X (.Name x pos) (tVar i)) : EV X W false (.Name x pos) (eVarB i) := pe_imp h fun σ H Q ⟨H0, Z, G, ρ, S, q⟩ => by
  unfold eVarB at q
  split at q
  next d hd =>
    obtain ⟨v, h1, h2⟩ := S.val i d hd
    exact ⟨v, h1, q v H (Same.refl H) (vr_same lv_same h2)⟩
  next d hd =>
    obtain ⟨a, vs, h1, h2, h3, h4, h5⟩ := S.own i d hd
    exact ⟨.ref a, h1, q _ H (Same.refl H) (.lst (.of (hide_eq.mpr ⟨h3, h4⟩)) (vrs_same lv_same h5))⟩
  next => exact False.elim q
theorem q_vbV {d : Da} {ρ : En} : eVarB 0 (.val d :: ρ) = .ok d := rfl
theorem q_vbO {ds : List Da} {ρ : En} : eVarB 0 (.own ds :: ρ) = .ok (.list ds) := rfl
theorem q_vbS {i : Nat} {s : Slot} {ρ : En} : eVarB (i + 1) (s :: ρ) = eVarB i ρ := rfl
/-! ### what many plain laws want -/
theorem compE_filter {α : Type} {g : Da → En → R En} {t : En → R Bool} {el : En → R Da} {ρ : En} {C D : α → Da} {P : α → Bool} : ∀ (as : List α), (∀ a ∈ as, ∃ ρ1, g (C a) ρ = .ok ρ1 ∧ t ρ1 = .ok (P a) ∧ (P a = true → el ρ1 = .ok (D a))) → compE g t el ρ (as.map C) = some ((as.filter P).map D)
  | [], _ => rfl
  | a :: as, h => by
    obtain ⟨ρ1, h1, h2, h3⟩ := h a List.mem_cons_self
    have ih := compE_filter as fun b hb => h b (List.mem_cons_of_mem _ hb)
    rw [List.map_cons]
    unfold compE
    rw [h1]
    dsimp only
    rw [h2]
    cases q : P a with
    | true =>
      dsimp only
      rw [h3 q]
      dsimp only
      rw [ih, List.filter_cons_of_pos q]
      rfl
    | false =>
      dsimp only
      rw [ih, List.filter_cons_of_neg (by simp [q])]
theorem q_lcF {vs : List Nat} {fi : En → R (List Da)} {g : Da → En → R En} {t : En → R Bool} {el : En → R Da} {ρ : En} {ds out : List Da} (hf : fi ρ = .ok ds) (hw : vs.all (notOwn ρ) = true) (hc : compE g t el (wipeE ρ vs) ds = some out) : eLc vs fi g t el ρ = .ok out := by
  unfold eLc
  rw [hf, bind_ok, if_pos hw, hc]
  rfl
/-- a comprehension none of whose tests holds -/
theorem compE_none {g : Da → En → R En} {t : En → R Bool} {el : En → R Da} {ρ : En} : ∀ (ds : List Da), (∀ x ∈ ds, ∃ ρ1, g x ρ = .ok ρ1 ∧ t ρ1 = .ok false) → compE g t el ρ ds = some []
  | [], _ => rfl
  | x :: xs, h => by
    obtain ⟨ρ1, h1, h2⟩ := h x List.mem_cons_self
    unfold compE
    rw [h1]
    dsimp only
    rw [h2]
    exact compE_none xs fun y hy => h y (List.mem_cons_of_mem _ hy)
theorem while_t {t : En → R Bool} {b : En → SRs} {m : Nat} {ρ ρ2 : En} (h : t ρ = .ok true) (h2 : b ρ = .go .nx ρ2) : whileE t b (m + 1) ρ = whileE t b m ρ2 := by
  rw [whileE, h, sB_ok]
  dsimp only
  rw [h2]
theorem while_f {t : En → R Bool} {b : En → SRs} {m : Nat} {ρ : En} (h : t ρ = .ok false) : whileE t b (m + 1) ρ = .go .nx ρ := by
  rw [whileE, h, sB_ok]
theorem q_while {F : Nat} {t : En → R Bool} {b : En → SRs} {ρ : En} : sWhile F t b ρ = whileE t b F ρ := rfl
theorem q_zip {f g : En → R (List Da)} {ρ : En} : eZip f g ρ = (f ρ).bind fun xs => (g ρ).bind fun ys => .ok (List.zipWith (fun x y => .tuple [x, y]) xs ys) := rfl
theorem q_rev {fl : En → R (List Da)} {ρ : En} : eRev fl ρ = (fl ρ).bind fun ds => .ok ds.reverse := rfl
theorem q_R2 {f g : En → R Da} {ρ : En} : eR2 f g ρ = (f ρ).bind fun x => (g ρ).bind fun y => rng2 x y := rfl
theorem q_R3 {f g h : En → R Da} {ρ : En} : eR3 f g h ρ = (f ρ).bind fun x => (g ρ).bind fun y => (h ρ).bind fun z => rng3 x y z := rfl
theorem q_rng2 {i j : Int} (h : (-(2 ^ 62) ≤ i ∧ i < 2 ^ 62) ∧ (-(2 ^ 62) ≤ j ∧ j < 2 ^ 62) ∧ j - i ≤ lim) : rng2 (.int i) (.int j) = .ok (rngD i (j - i).toNat) := if_pos h
theorem q_rng3 {i j : Int} (h : (-(2 ^ 62) ≤ i ∧ i < 2 ^ 62) ∧ (-(2 ^ 62) ≤ j ∧ j < 2 ^ 62) ∧ i - j ≤ lim) : rng3 (.int i) (.int j) (.int (-1)) = .ok (dnD i (i - j).toNat) := if_pos h
theorem q_raise {c : String} {fa : En → R Da} {ρ : En} {i : Int} (h : fa ρ = .ok (.int i)) : sRaise c fa ρ = .er c i ρ := by
  unfold sRaise
  rw [h]
  rfl
theorem q_rep {fa : En → R Da} {fl : En → R (List Da)} {ρ : En} {ds : List Da} {n : Nat} (h1 : fl ρ = .ok ds) (h2 : fa ρ = .ok (.int n)) (hn : n < 2 ^ 63) (h : ds.length * n ≤ lim) : eRep fl fa ρ = .ok (repD n ds) := by
  unfold eRep
  rw [h1, bind_ok, h2, bind_ok]
  dsimp only
  rw [Int.toNat_natCast, if_pos ⟨by omega, by omega, h⟩]
theorem rep_one {d : Da} : ∀ n : Nat, repD n [d] = List.replicate n d
  | 0 => rfl
  | n + 1 => by
    unfold repD
    rw [List.replicate_succ, List.flatten_cons, List.replicate_succ]
    have := rep_one (d := d) n
    unfold repD at this
    rw [this]
    rfl
theorem rep_map {α : Type} {D : α → Da} {a : α} (n : Nat) : List.replicate n (D a) = (List.replicate n a).map D := by rw [List.map_replicate]
theorem q_mx2 {i j : Int} : gMax2 [.int i, .int j] = .ok (.int (max i j)) := by
  rw [q_max2]
  congr 2
  split <;> omega
theorem q_mn2 {i j : Int} : gMin2 [.int i, .int j] = .ok (.int (min i j)) := by
  rw [q_min2]
  congr 2
  split <;> omega
theorem q_mx3 {i j k : Int} : gMax3 [.int i, .int j, .int k] = .ok (.int (max (max i j) k)) := by
  rw [q_max3]
  congr 2
  split <;> split <;> omega
theorem fz_own {ds : List Da} {ρ : En} : fz 0 (.own ds :: ρ) = .val (.list ds) :: ρ := rfl
theorem fz_val {d : Da} {ρ : En} : fz 0 (.val d :: ρ) = .val d :: ρ := rfl
theorem fz_no {ρ : En} : fz 0 (.no :: ρ) = .no :: ρ := rfl
theorem fz_S {i : Nat} {s : Slot} {ρ : En} : fz (i + 1) (s :: ρ) = s :: fz i ρ := by
  unfold fz
  rw [List.getElem?_cons_succ]
  cases e : ρ[i]? with
  | none => rfl
  | some t => cases t <;> rfl
theorem q_It {fa : En → R Da} {ρ : En} : eIt fa ρ = (fa ρ).bind asI := rfl
theorem asI_l {ds : List Da} : asI (.list ds) = .ok ds := rfl
theorem asI_t {ds : List Da} : asI (.tuple ds) = .ok ds := rfl
/-! ### in and not in: a list of data, or a tuple of flat things -/
def flatF : Da → Bool
  | .none => true
  | .bool _ => true
  | .int _ => true
  | .str _ => true
  | _ => false
def eqF : Da → Da → Bool
  | .none, .none => true
  | .bool a, .bool b => a == b
  | .bool a, .int b => (if a then 1 else 0) == b
  | .int a, .bool b => a == (if b then 1 else 0)
  | .int a, .int b => a == b
  | .str a, .str b => a == b
  | _, _ => false
theorem flatV_of {K : PySem.W.Frag} {H : Hp} {v : V} {d : Da} (h : Vr K H v d) (f : flatF d = true) : flatV v = true := by
  cases h <;> first | rfl | cases f
theorem eqV_of {K : PySem.W.Frag} {H : Hp} {v u : V} {d e : Da} (h : Vr K H v d) (k : Vr K H u e) (f : flatF d = true) (g : flatF e = true) : eqV v u = eqF d e := by
  cases h <;> first | (cases k <;> first | rfl | cases g) | cases f
theorem inV_of {K : PySem.W.Frag} {H : Hp} {x : V} {d : Da} (hx : Vr K H x d) (f : flatF d = true) : ∀ {vs : List V} {ds : List Da}, Vrs K H vs ds → ds.all flatF = true → vs.all flatV = true ∧ inV x vs = ds.any (fun z => eqF z d)
  | _, _, .nil, _ => ⟨rfl, rfl⟩
  | _, _, .cons (v := v) (vs := vs) (d := e) (ds := es) h t, g => by
    rw [List.all_cons, Bool.and_eq_true] at g
    obtain ⟨h1, h2⟩ := inV_of hx f t g.2
    refine ⟨by rw [List.all_cons, flatV_of h g.1, h1]; rfl, ?_⟩
    unfold inV at h2 ⊢
    rw [List.any_cons, List.any_cons, h2, eqV_of h hx g.1 f]
def cInA : Da → Da → R Bool
  | x, .list ds => cIn x (.list ds)
  | x, .tuple ds => if flatF x = true ∧ ds.all flatF = true then .ok (ds.any fun z => eqF z x) else .bad
  | _, _ => .bad
def cNotInA : Da → Da → R Bool
  | x, .list ds => cNotIn x (.list ds)
  | x, .tuple ds => if flatF x = true ∧ ds.all flatF = true then .ok (!ds.any fun z => eqF z x) else .bad
  | _, _ => .bad
def rInA (K : PySem.W.Frag) : R2 := fun x y H Q => rInD K x y H Q ∨ rIn K false x y H Q
def rNotInA (K : PySem.W.Frag) : R2 := fun x y H Q => rNotInD K x y H Q ∨ rIn K true x y H Q
theorem op_inA {X : Cx} (hu : X.A.units + 65 < cLine) : OpR X (compareOp .In) (rInA X.K) := fun pins s σ H x y v u Q I rx ry h => h.elim (op_inD hu pins s σ H x y v u Q I rx ry) (op_in_seq pins s σ H x y v u Q I rx ry)
theorem op_notInA {X : Cx} (hu : X.A.units + 65 < cLine) : OpR X (compareOp .NotIn) (rNotInA X.K) := fun pins s σ H x y v u Q I rx ry h => h.elim (op_notInD hu pins s σ H x y v u Q I rx ry) (op_notIn_seq pins s σ H x y v u Q I rx ry)
theorem cm2_inA {K : PySem.W.Frag} : Cm2 K cInA (rInA K) := by
  intro x y H v u Q hx hy
  cases y with
  | list ds =>
    have z := cm2_in x (.list ds) H v u Q hx hy
    show match cIn x (.list ds) with | .ok d => _ | .err _ _ => False | .bad => True
    cases k : cIn x (.list ds) with
    | ok d =>
      rw [k] at z
      exact fun q => .inl (z q)
    | err c i =>
      rw [k] at z
      exact z
    | bad => trivial
  | tuple ds =>
    show match (if flatF x = true ∧ ds.all flatF = true then R.ok (ds.any fun z => eqF z x) else R.bad : R Bool) with | .ok d => _ | .err _ _ => False | .bad => True
    by_cases h : flatF x = true ∧ ds.all flatF = true
    · rw [if_pos h]
      cases hy with
      | @tup a vs ds h1 h2 =>
        obtain ⟨k1, k2⟩ := inV_of hx h.1 h2 h.2
        exact fun q => .inr ⟨a, vs, rfl, .inr h1, flatV_of hx h.1, k1, by rw [if_neg (by decide), k2]; exact q⟩
    · rw [if_neg h]
      trivial
  | _ => trivial
theorem cm2_notInA {K : PySem.W.Frag} : Cm2 K cNotInA (rNotInA K) := by
  intro x y H v u Q hx hy
  cases y with
  | list ds =>
    have z := cm2_notIn x (.list ds) H v u Q hx hy
    show match cNotIn x (.list ds) with | .ok d => _ | .err _ _ => False | .bad => True
    cases k : cNotIn x (.list ds) with
    | ok d =>
      rw [k] at z
      exact fun q => .inl (z q)
    | err c i =>
      rw [k] at z
      exact z
    | bad => trivial
  | tuple ds =>
    show match (if flatF x = true ∧ ds.all flatF = true then R.ok (!ds.any fun z => eqF z x) else R.bad : R Bool) with | .ok d => _ | .err _ _ => False | .bad => True
    by_cases h : flatF x = true ∧ ds.all flatF = true
    · rw [if_pos h]
      cases hy with
      | @tup a vs ds h1 h2 =>
        obtain ⟨k1, k2⟩ := inV_of hx h.1 h2 h.2
        exact fun q => .inr ⟨a, vs, rfl, .inr h1, flatV_of hx h.1, k1, by rw [if_pos rfl, k2]; exact q⟩
    · rw [if_neg h]
      trivial
  | _ => trivial
theorem q_notInT {x : Da} {ds : List Da} (h : flatF x = true ∧ ds.all flatF = true) : cNotInA x (.tuple ds) = .ok (!ds.any fun z => eqF z x) := if_pos h
theorem q_inT {x : Da} {ds : List Da} (h : flatF x = true ∧ ds.all flatF = true) : cInA x (.tuple ds) = .ok (ds.any fun z => eqF z x) := if_pos h
end VL
namespace VL
open PySem PySem.Spec PyProof.Rows L2
/-! ### zip of three lists -/
def Itz3 (K : PySem.W.Frag) (a b c : Addr) : It :=
  ⟨fun i H => ∃ (xs ys us : List V) (x y u : V), SqL K H a xs ∧ SqL K H b ys ∧ SqL K H c us ∧ xs[i]? = some x ∧ ys[i]? = some y ∧ us[i]? = some u,
    fun i H v H' => ∃ T x y u, v = .ref T ∧ H T = none ∧ H' = upd H T (.tup [x, y, u]) ∧ (∀ xs, SqL K H a xs → xs[i]? = some x) ∧ (∀ ys, SqL K H b ys → ys[i]? = some y) ∧ ∀ us, SqL K H c us → us[i]? = some u,
    fun i H => ∃ xs ys us : List V, SqL K H a xs ∧ SqL K H b ys ∧ SqL K H c us ∧ (xs.length ≤ i ∨ ys.length ≤ i ∨ us.length ≤ i)⟩
theorem draws_at {prog : Program} {w : World} {A : Around} (hh : A.handled = none) {it l : Addr} (hne : l ≠ it) {items : Array Value} {i : Nat} {h : Heap} (h1 : h.IsListIter it l i) (h2 : h.IsList l items) :
    ∃ (n : Nat) (P : Nat → Value → Prop) (St : Nat → Heap → Prop), Draws prog w A it [it, l] n P St ∧ St i h ∧ ((n = i ∧ items.size ≤ i) ∨ (i < n ∧ i < items.size)) := by
  by_cases q : i < items.size
  · exact ⟨_, _, _, Draws.list hh it l hne items, ⟨h1, h2⟩, .inr ⟨q, q⟩⟩
  · refine ⟨i, fun _ _ => False, fun j h => j = i ∧ h.IsListIter it l i ∧ h.IsList l items, ⟨fun _ _ st => let ⟨o, ho, _⟩ := st.2.1; ⟨o, ho⟩, fun _ _ _ st hk => ⟨st.1, st.2.1.at fun o e => hk it (by simp) o e, st.2.2.at fun o e => hk l (by simp) o e⟩, ?_, ?_⟩, ⟨rfl, h1, h2⟩, .inl ⟨rfl, by omega⟩⟩
    · intro j s Q E hj st hQ
      have := st.1
      omega
    · intro s Q E st hE
      exact wpAny_nextOf_list_end hh st.2.1 st.2.2 (by simp; omega) hE
theorem turn_zip3 {P : Program} {w : World} {K : PySem.W.Frag} {elts : List Expr} {kk : Nat} {tpos : Pos} {a b c z TI TO i1 i2 i3 : Addr} (S : ZipSep3 z TI TO i1 i2 i3 [i1, a] [i2, b] [i3, c]) (na : a ≠ i1) (nb : b ≠ i2) (nc : c ≠ i3) :
    Turn P w K (.Tuple elts kk tpos) (Itz3 K a b c) [z, TI, TO, i1, i2, i3] z (fun i h => IsZip h z TI TO .none ∧ IsTupOf3 h TI (.ref i1) (.ref i2) (.ref i3) ∧ (∃ x y u, IsTupOf3 h TO x y u) ∧ h.IsListIter i1 a i ∧ h.IsListIter i2 b i ∧ h.IsListIter i3 c i) where
  mem := by simp
  obj := fun i h st d hd => by
    obtain ⟨hz, hTI, ⟨x, y, u, hTO⟩, ⟨o1, e1, _, d1⟩, ⟨o2, e2, _, d2⟩, ⟨o3, e3, _, d3⟩⟩ := st
    have e' : d = z ∨ d = TI ∨ d = TO ∨ d = i1 ∨ d = i2 ∨ d = i3 := by simpa using hd
    rcases e' with q | q | q | q | q | q
    · rw [q]; exact ⟨_, hz, fun v q => nomatch q⟩
    · rw [q]; exact ⟨_, hTI, fun v q => nomatch q⟩
    · rw [q]; exact ⟨_, hTO, fun v q => nomatch q⟩
    · rw [q]; exact ⟨o1, e1, fun v q => by rw [d1] at q; cases q⟩
    · rw [q]; exact ⟨o2, e2, fun v q => by rw [d2] at q; cases q⟩
    · rw [q]; exact ⟨o3, e3, fun v q => by rw [d3] at q; cases q⟩
  keep := fun i h h' st k => by
    obtain ⟨hz, hTI, ⟨x, y, u, hTO⟩, h1, h2, h3⟩ := st
    exact ⟨k z (by simp) _ hz, k TI (by simp) _ hTI, ⟨x, y, u, k TO (by simp) _ hTO⟩, h1.at fun o q => k i1 (by simp) o q, h2.at fun o q => k i2 (by simp) o q, h3.at fun o q => k i3 (by simp) o q⟩
  item := by
    intro X hP hw hK hc i pins s σ H E I hf st hg
    subst hP hw hK
    obtain ⟨hz, hTI, ⟨x0, y0, u0, hTO⟩, h1, h2, h3⟩ := st
    obtain ⟨xs, ys, us, x, y, u, hqx, hqy, hqu, hx, hy, hu⟩ := hg
    obtain ⟨its, rv, p, _⟩ := I.list hqx
    obtain ⟨its2, rv2, p2, _⟩ := I.list hqy
    obtain ⟨its3, rv3, p3, _⟩ := I.list hqu
    obtain ⟨v1, hv1, ru⟩ := rv.get hx
    obtain ⟨v2, hv2, ru2⟩ := rv2.get hy
    obtain ⟨v3, hv3, ru3⟩ := rv3.get hu
    have D1 := Draws.list (prog := X.prog) (w := X.w) (A := X.A.in1) (I.ok.hd hc) i1 a na its.toArray
    have D2 := Draws.list (prog := X.prog) (w := X.w) (A := X.A.in1) (I.ok.hd hc) i2 b nb its2.toArray
    have D3 := Draws.list (prog := X.prog) (w := X.w) (A := X.A.in1) (I.ok.hd hc) i3 c nc its3.toArray
    have l1 := (List.getElem?_eq_some_iff.mp hv1).1
    have l2 := (List.getElem?_eq_some_iff.mp hv2).1
    have l3 := (List.getElem?_eq_some_iff.mp hv3).1
    refine (GoesN.zip3 (elts := elts) (x1 := kk) (pos := tpos) S D1 D2 D3).goes i s (fun v s2 => ∃ x H', Inv X pins σ H' s2 ∧ RelV x v ∧ (Itz3 X.K a b c).yld i H x H' ∧ _ ∧ ∀ b ∈ [z, TI, TO, i1, i2, i3], H' b = none) E (by simp only [List.size_toArray]; omega) ⟨hz, hTI, ⟨_, _, _, hTO⟩, ⟨h1, p.isList⟩, ⟨h2, p2.isList⟩, ⟨h3, p3.isList⟩⟩ fun v h' tk hY st' hk htk => ?_
    obtain ⟨T, w1, w2, w3, rfl, hn, g1, g2, g3, hT⟩ := hY
    have g1' : its[i]? = some w1 := by simpa using g1
    have g2' : its2[i]? = some w2 := by simpa using g2
    have g3' : its3[i]? = some w3 := by simpa using g3
    rw [hv1] at g1'
    rw [hv2] at g2'
    rw [hv3] at g3'
    cases g1'
    cases g2'
    cases g3'
    have new : ObjOk X.prog X.w (upd H T (.tup [x, y, u])) h' T (.tup [x, y, u]) :=
      ⟨by show 3 ≤ sizeLine; decide, [v1, v2, v3], .cons ru (.cons ru2 (.cons ru3 .nil)), hT⟩
    have I1 : Inv X pins σ (upd H T (.tup [x, y, u])) { s with heap := h', toks := tk } :=
      I.turnedNew (t' := tk) (ch := [z, TO, i1, i2, i3]) hk (fun b hb => hf b (by
        have e' : b = z ∨ b = TO ∨ b = i1 ∨ b = i2 ∨ b = i3 := by simpa using hb
        rcases e' with q | q | q | q | q <;> simp [q])) hn new
    obtain ⟨hz', hTI', ⟨a1, a2, a3, hTO'⟩, ⟨k1, _⟩, ⟨k2, _⟩, ⟨k3, _⟩⟩ := st'
    refine ⟨.ref T, _, I1, rfl, ⟨T, x, y, u, rfl, I.hok.fresh hn, rfl, fun l hl => by rw [I.list_inj hl hqx]; exact hx, fun l hl => by rw [I.list_inj hl hqy]; exact hy, fun l hl => by rw [I.list_inj hl hqu]; exact hu⟩, ⟨hz', hTI', ⟨a1, a2, a3, hTO'⟩, k1, k2, k3⟩, fun d hd => ?_⟩
    have hlt : d < s.heap.objs.size := by
      have e' : d = z ∨ d = TI ∨ d = TO ∨ d = i1 ∨ d = i2 ∨ d = i3 := by simpa using hd
      rcases e' with q | q | q | q | q | q
      · rw [q]; exact Heap.lt_size hz
      · rw [q]; exact Heap.lt_size hTI
      · rw [q]; exact Heap.lt_size hTO
      · rw [q]; obtain ⟨_, e1, _⟩ := h1; exact Heap.lt_size e1
      · rw [q]; obtain ⟨_, e2, _⟩ := h2; exact Heap.lt_size e2
      · rw [q]; obtain ⟨_, e3, _⟩ := h3; exact Heap.lt_size e3
    rw [upd_ne (Nat.ne_of_lt (Nat.lt_of_lt_of_le hlt hn))]
    exact (hf d hd).1
  done := by
    intro X hP hw hK hc i pins s σ H E I hf st hg
    subst hP hw hK
    obtain ⟨hz, hTI, ⟨x0, y0, u0, hTO⟩, h1, h2, h3⟩ := st
    obtain ⟨xs, ys, us, hqx, hqy, hqu, hend⟩ := hg
    obtain ⟨its, rv, p, _⟩ := I.list hqx
    obtain ⟨its2, rv2, p2, _⟩ := I.list hqy
    obtain ⟨its3, rv3, p3, _⟩ := I.list hqu
    have l1 := rv.length
    have l2 := rv2.length
    have l3 := rv3.length
    obtain ⟨n1, P1, St1, D1, s1, c1⟩ := draws_at (prog := X.prog) (w := X.w) (A := X.A.in1) (I.ok.hd hc) na h1 p.isList
    obtain ⟨n2, P2, St2, D2, s2, c2⟩ := draws_at (prog := X.prog) (w := X.w) (A := X.A.in1) (I.ok.hd hc) nb h2 p2.isList
    obtain ⟨n3, P3, St3, D3, s3, c3⟩ := draws_at (prog := X.prog) (w := X.w) (A := X.A.in1) (I.ok.hd hc) nc h3 p3.isList
    have W := GoesN.zip3 (elts := elts) (x1 := kk) (pos := tpos) S D1 D2 D3
    simp only [List.size_toArray] at c1 c2 c3
    have hm : min (min n1 n2) n3 = i := by omega
    rw [hm] at W
    exact W.stops s (fun s1 => Inv X pins σ H s1) E ⟨hz, hTI, ⟨_, _, _, hTO⟩, s1, s2, s3⟩ fun h' tk hk htk => I.turnedL (t' := tk) (ch := [z, TO, i1, i2, i3]) hk (fun b hb => hf b (by
        have e' : b = z ∨ b = TO ∨ b = i1 ∨ b = i2 ∨ b = i3 := by simpa using hb
        rcases e' with q | q | q | q | q <;> simp [q]))
  self := fun A i s Q E st h => wpAny_pyIter_zip st.1 h
def iZip3 (K : PySem.W.Frag) (ta : TA) : TI := fun σ H R => ta σ H fun vs H1 => ∃ a b c xs ys us, vs = [.ref a, .ref b, .ref c] ∧ SqL K H1 a xs ∧ SqL K H1 b ys ∧ SqL K H1 c us ∧ R (Itz3 K a b c) H1
theorem pi_zip3 {X : Cx} {e e2 e3 : Expr} {ta : TA} {p pos tpos : Pos} {elts : List Expr} {kk : Nat} (hg : Gl X "zip") (hm : X.mg "zip" = none) (ha : PA X [e, e2, e3] ta)
    (hs : starEach [e, e2, e3] X.env = (false, eval e X.env) :: starEach [e2, e3] X.env := by rfl) (hpl : (backTo pos (starEach [e2, e3] X.env)).any (·.1) = false := by rfl) :
    PI X (.Tuple elts kk tpos) (.Call (.Name "zip" p) [e, e2, e3] [] pos) (iZip3 X.K ta) := by
  refine ⟨fun pins s σ H R I h => ?_⟩
  refine Call_ (ld_blt I hg hm PyProof.Rows.boot_zip (PyProof.Rows.callWith_type1 (thn (ha.run pos pins s σ H _ I h) fun us s1 ⟨vs, H1, I1, r1, q1⟩ => ?_) hs hpl))
  obtain ⟨a, b, c, xs, ys, zs, ex, hqx, hqy, hqz, q⟩ := q1
  subst ex
  cases r1 with
  | cons r rr =>
    cases rr with
    | cons r' rr =>
      cases rr with
      | cons r'' rr =>
        cases rr
        cases r
        cases r'
        cases r''
        obtain ⟨its, rv, p1, _⟩ := I1.list hqx
        obtain ⟨its2, rv2, p2, _⟩ := I1.list hqy
        obtain ⟨its3, rv3, p3, _⟩ := I1.list hqz
        have la : a < s1.heap.objs.size := p1.lt
        have lb : b < s1.heap.objs.size := p2.lt
        have lc : c < s1.heap.objs.size := p3.lt
        have S : ZipSep3 (s1.heap.objs.size + 5) (s1.heap.objs.size + 3) (s1.heap.objs.size + 4) s1.heap.objs.size (s1.heap.objs.size + 1) (s1.heap.objs.size + 2) [s1.heap.objs.size, a] [s1.heap.objs.size + 1, b] [s1.heap.objs.size + 2, c] :=
          zip_sep3 (fun d hd => by rw [List.mem_singleton.mp hd]; exact la) (fun d hd => by rw [List.mem_singleton.mp hd]; exact lb) (fun d hd => by rw [List.mem_singleton.mp hd]; exact lc)
        refine zip_begins3 (begins_list a its.toArray) (begins_list b its2.toArray) (begins_list c its3.toArray) p1.isList p2.isList p3.isList fun h' hz hTI hTO g1 g2 g3 hsz hk => wpAny_pyIter_zip hz ?_
        have I2 : Inv X pins σ H1 { s1 with heap := h' } := I1.kept (t' := s1.toks) hk
        refine ⟨s1.heap.objs.size + 5, [s1.heap.objs.size + 5, s1.heap.objs.size + 3, s1.heap.objs.size + 4, s1.heap.objs.size, s1.heap.objs.size + 1, s1.heap.objs.size + 2], _, _, H1, rfl, I2, turn_zip3 S (Nat.ne_of_lt la) (Nat.ne_of_lt (Nat.lt_of_lt_of_le lb (Nat.le_add_right _ 1))) (Nat.ne_of_lt (Nat.lt_of_lt_of_le lc (Nat.le_add_right _ 2))), ⟨hz, hTI, ⟨_, _, _, hTO⟩, ⟨_, g1, rfl, rfl⟩, ⟨_, g2, rfl, rfl⟩, ⟨_, g3, rfl, rfl⟩⟩, fun d hd => ?_, q⟩
        have e' : d = s1.heap.objs.size + 5 ∨ d = s1.heap.objs.size + 3 ∨ d = s1.heap.objs.size + 4 ∨ d = s1.heap.objs.size ∨ d = s1.heap.objs.size + 1 ∨ d = s1.heap.objs.size + 2 := by simpa using hd
        have hle : s1.heap.objs.size ≤ d := by
          rcases e' with z | z | z | z | z | z
          · rw [z]; exact Nat.le_add_right _ _
          · rw [z]; exact Nat.le_add_right _ _
          · rw [z]; exact Nat.le_add_right _ _
          · rw [z]; exact Nat.le_refl _
          · rw [z]; exact Nat.le_add_right _ _
          · rw [z]; exact Nat.le_add_right _ _
        exact I1.fpOk hle (I1.hok.fresh hle)
def zip3D : List Da → List Da → List Da → List Da
  | x :: xs, y :: ys, z :: zs => .tuple [x, y, z] :: zip3D xs ys zs
  | _, _, _ => []
theorem zip3_get : ∀ {xs ys zs : List Da} {i : Nat} {d : Da}, (zip3D xs ys zs)[i]? = some d → ∃ x y z, xs[i]? = some x ∧ ys[i]? = some y ∧ zs[i]? = some z ∧ d = .tuple [x, y, z]
  | [], _, _, i, d, h => by simp [zip3D] at h
  | x :: xs, [], _, i, d, h => by simp [zip3D] at h
  | x :: xs, y :: ys, [], i, d, h => by simp [zip3D] at h
  | x :: xs, y :: ys, z :: zs, 0, d, h => by
    simp [zip3D] at h
    exact ⟨x, y, z, rfl, rfl, rfl, h.symm⟩
  | x :: xs, y :: ys, z :: zs, i + 1, d, h => by
    have h' : (zip3D xs ys zs)[i]? = some d := by simpa [zip3D] using h
    obtain ⟨a, b, c, h1, h2, h3, h4⟩ := zip3_get h'
    exact ⟨a, b, c, by simpa using h1, by simpa using h2, by simpa using h3, h4⟩
theorem zip3_len : ∀ {xs ys zs : List Da}, (zip3D xs ys zs).length = min (min xs.length ys.length) zs.length
  | [], _, _ => by simp [zip3D]
  | x :: xs, [], _ => by simp [zip3D]
  | x :: xs, y :: ys, [] => by simp [zip3D]
  | x :: xs, y :: ys, z :: zs => by
    rw [zip3D, List.length_cons, zip3_len]
    simp only [List.length_cons]
    omega
theorem walks_zip3 {K : PySem.W.Frag} {a b c : Addr} {vs ws us : List V} {ds es fs : List Da} : Walks K (Itz3 K a b c) [ghL a vs ds, ghL b ws es, ghL c us fs] (zip3D ds es fs) := fun i H N hN hr => by
  obtain ⟨h1, h2⟩ := hr _ List.mem_cons_self
  obtain ⟨k1, k2⟩ := hr _ (List.mem_cons_of_mem _ List.mem_cons_self)
  obtain ⟨m1, m2⟩ := hr _ (List.mem_cons_of_mem _ (List.mem_cons_of_mem _ List.mem_cons_self))
  have l1 := vrs_len h2
  have l2 := vrs_len k2
  have l3 := vrs_len m2
  refine ⟨fun hl => ⟨vs, ws, us, h1.sq, k1.sq, m1.sq, ?_⟩, fun d hd => ?_⟩
  · rw [zip3_len] at hl
    omega
  · obtain ⟨x, y, z, q1, q2, q3, rfl⟩ := zip3_get hd
    obtain ⟨v, g1, g2⟩ := vrs_get h2 q1
    obtain ⟨w, g3, g4⟩ := vrs_get k2 q2
    obtain ⟨u, g5, g6⟩ := vrs_get m2 q3
    refine ⟨⟨vs, ws, us, v, w, u, h1.sq, k1.sq, m1.sq, g1, g3, g5⟩, fun x H' ⟨T, x0, x1, x2, y1, y2, y3, y4, y5, y6⟩ => ?_⟩
    subst y1 y3
    have e := (y4 vs h1.sq).symm.trans g1
    cases e
    have e := (y5 ws k1.sq).symm.trans g3
    cases e
    have e := (y6 us m1.sq).symm.trans g5
    cases e
    exact ⟨same_upd y2, fresh_tup hN y2 (.cons g2 (.cons g4 (.cons g6 .nil)))⟩
def eZip3 (f g h : En → R (List Da)) : En → R (List Da) := fun ρ => (f ρ).bind fun xs => (g ρ).bind fun ys => (h ρ).bind fun zs => .ok (zip3D xs ys zs)
section
variable {X : Cx} {W : WX} {a b d : Expr} {fl fm fn : En → R (List Da)} {pos : Pos} {c : Bool}
theorem iv_zip3 {elts : List Expr} {kk : Nat} {tpos p : Pos} (hg : Gl X "zip") (hm : X.mg "zip" = none) (h : LV X W c a fl) (k : LV X W c b fm) (m : LV X W c d fn)
    (he : starEach [a, b, d] X.env = (false, eval a X.env) :: starEach [b, d] X.env := by rfl) (he2 : starEach [b, d] X.env = (false, eval b X.env) :: starEach [d] X.env := by rfl) (he3 : starEach [d] X.env = (false, eval d X.env) :: starEach [] X.env := by rfl)
    (hs2 : (backTo pos (starEach [b, d] X.env)).any (·.1) = false := by rfl) :
    IV X W c (.Tuple elts kk tpos) (.Call (.Name "zip" p) [a, b, d] [] pos) (eZip3 fl fm fn) := pi_imp (pi_zip3 hg hm (pa_cons h (pa_cons k (pa_cons m pa_nil he3) he2) he) he hs2) fun σ H Q ⟨H0, Z, G, ρ, S, q⟩ => ⟨H0, Z, G, ρ, S, (Arm.bind q).imp fun v H1 ⟨e1, ds, ⟨l, vs, hv, k1, k2⟩, h1⟩ => ⟨H0, Z, G, ρ, S.grow e1, (Arm.bind h1).imp fun u H2 ⟨e2, es, ⟨j, ws, hw, m1, m2⟩, h2⟩ => ⟨H0, Z, G, ρ, (S.grow e1).grow e2, by
    cases r : fn ρ with
    | ok fs =>
      rw [r] at h2
      refine fun t H3 e3 ⟨n, us, hu, n1, n2⟩ => ⟨l, j, n, vs, ws, us, by rw [hv, hw, hu], (ls_same (fun b o z => e3 b o (e2 b o (hide_sub b o z))) k1).sq, (ls_same (fun b o z => e3 b o (hide_sub b o z)) m1).sq, (ls_same hide_sub n1).sq,
        h2 _ H3 e3 ⟨[ghL l vs ds, ghL j ws es, ghL n us fs], walks_zip3, fun g hg => ?_, fun z => ?_⟩⟩
      · rcases List.mem_cons.mp hg with y | hg
        · cases y
          exact ⟨ls_same (hide_grow (e2.trans e3)) k1, vrs_same (hide_grow (e2.trans e3)) k2⟩
        · rcases List.mem_cons.mp hg with y | hg
          · cases y
            exact ⟨ls_same (hide_grow e3) m1, vrs_same (hide_grow e3) m2⟩
          · cases (List.mem_singleton.mp hg)
            exact ⟨n1, n2⟩
      · have z1 := z (ghL l vs ds) List.mem_cons_self
        have l1 := vrs_len k2
        rw [zip3_len]
        have z2 : vs.length ≤ sizeLine := z1
        omega
    | err x i =>
      rw [r] at h2
      exact h2
    | bad =>
      rw [r] at h2
      exact h2⟩⟩⟩
end
theorem q_zip3 {f g h : En → R (List Da)} {ρ : En} : eZip3 f g h ρ = (f ρ).bind fun xs => (g ρ).bind fun ys => (h ρ).bind fun zs => .ok (zip3D xs ys zs) := rfl
theorem zip3_cons {x y z : Da} {xs ys zs : List Da} : zip3D (x :: xs) (y :: ys) (z :: zs) = .tuple [x, y, z] :: zip3D xs ys zs := rfl
theorem zip3_nil {ys zs : List Da} : zip3D [] ys zs = [] := rfl
/-! ### calls without arguments -/
section
variable {X : Cx} {W : WX} {k : Nat} {fA : Addr} {fd : FuncData} {ps : List Str} {sp : List V → Hp → (V → Hp → Prop) → XK → Prop} {we : L2.St → XK} {x : Str} {p pos : Pos} {f : List Da → R Da} {c : Bool}
theorem pe_callG0 (F : FnG X.prog X.w X.K X.mg X.base k fA fd ps sp) (rm : Room k X.A) (gd : X.A.guards = some []) (hg : Gl X x) (hm : X.mg x = some (.ref fA)) (kp : PySem.W.keepIn X.K (.ref fA) = true) (bd : Binds X.K fd ps [])
    (hx : ∀ σ, PassesAt (L2.CX X.prog X.w) X σ (we σ)) (hdb : (x == ("__debug__" : Str)) = false := by decide) : PE X (.Call (.Name x p) [] [] pos) (tCallS sp we tNil) := by
  constructor
  intro pins s σ H Q I h
  apply wpAny_Call_Name_kw (ld_glob I hg hm _ hdb)
  refine PySem.W.callWith_K0 I.kIn kp ?_
  have q : sp [] H Q (we σ) := h
  have hl : ([] : List Value).length = ps.length := (F.len _ _ _ _ q)
  have bb := bd s [] I.kIn (by simpa using hl)
  rw [List.append_nil] at bb
  apply wpAny_call
  apply codeAny_mono (F.run X.A X.stack s H ⟨[], []⟩ [] [] Q (we σ) gd rm I.env0 bb .nil q)
  intro r s2 hr
  cases r with
  | error er => exact hx σ pins H s er s2 I hr
  | ok fl =>
    cases fl with
    | ret u => exact I.after hr
    | next => exact hr.elim
    | brk => exact hr.elim
    | cont => exact hr.elim
theorem ev_call0 (F : FnV X.prog X.w X.K X.mg X.base k x 0 false f) (rm : Room k X.A) (gd : X.A.guards = some []) (tk : Takes X W) (hg : Gl X x) (hdb : (x == ("__debug__" : Str)) = false := by decide) : EV X W c (.Call (.Name x p) [] [] pos) (eAp f aNil) := by
  obtain ⟨fA, fd, ps, h1, h2, h3, h4, h5⟩ := F
  refine pe_imp (pe_callG0 h5 rm gd hg h1 h2 h3 (fun σ => passAt tk σ) hdb) fun σ H Q ⟨H0, Z, G, ρ, S, q⟩ => ?_
  have q1 : Arm X W (kV c) Z ρ σ (f []) H Q := q
  refine ⟨rfl, lv c Z ρ σ, [], fun a z => S.hidl (lv_hid z), .nil, ?_⟩
  cases r : f [] with
  | ok d =>
    rw [r] at q1
    exact fun v H' e2 hr => q1 v H' e2 hr
  | err c i =>
    rw [r] at q1
    exact q1
  | bad =>
    rw [r] at q1
    exact q1
end
/-! ### a thing of the module's own that hangs on nothing that is changed -/
theorem ev_globV {X : Cx} {W : WX} {c : Bool} {pos : Pos} {a : Addr} {x : Str} {d : Da} (hg : Gl X x) (hm : X.mg x = some (.ref a)) (hv : ∀ H, Vr X.K H (.ref a) d) (hd : (x == ("__debug__" : Str)) = false := by decide) : EV X W c (.Name x pos) (eC d) :=
  pe_imp (pe_glob (v := V.ref a) hg hm rfl hd) fun σ H Q ⟨H0, Z, G, ρ, S, q⟩ => q _ H (Same.refl _) (hv _)
/-! ### return f(..): a new list, or a plain answer -/
theorem sv_retM {X : Cx} {W : WX} {e : Expr} {pos : Pos} {fa : En → R Da} (h : PE X e (J X W kX fa)) : SV X W true (.Return (some e) pos) (sRet fa) := ps_imp (ps_ret h) fun D σ H ⟨H0, Z, G, ρ, S, h⟩ => by
  refine ⟨H0, Z, G, ρ, S, (SArm.bind S h).imp fun v H1 ⟨e1, d, hd, h1⟩ => ?_⟩
  refine h1 v H1 (S.base.trans e1) ?_
  have up : Same (hide (hid Z ρ σ) H1) (hide Z H1) := hide_to fun a o h n => ⟨fun z => n (.inl z), h⟩
  cases d with
  | list ds =>
    obtain ⟨p, vs, k1, k2, k3, k4⟩ := hd
    exact ⟨p, vs, k1, S.base.free k2, k3, vrs_same (hide_to fun a o h n => ⟨fun z => n (z.imp .inl id), h⟩) k4⟩
  | none => exact vr_same up hd
  | bool _ => exact vr_same up hd
  | int _ => exact vr_same up hd
  | str _ => exact vr_same up hd
  | tuple _ => exact vr_same up hd
  | dict _ => exact vr_same up hd
theorem boolsOf_map : ∀ bs : List Bool, boolsOf (bs.map PyData.bool) = some bs
  | [] => rfl
  | b :: bs => by
    rw [List.map_cons, boolsOf, boolsOf_map bs]
    rfl
theorem q_allB (bs : List Bool) : gAll [.list (bs.map PyData.bool)] = .ok (.bool (bs.all id)) := by
  show (opt (boolsOf (bs.map PyData.bool))).bind _ = _
  rw [boolsOf_map]
  rfl
theorem q_anyB (bs : List Bool) : gAny [.list (bs.map PyData.bool)] = .ok (.bool (bs.any id)) := by
  show (opt (boolsOf (bs.map PyData.bool))).bind _ = _
  rw [boolsOf_map]
  rfl
/-! ### raise and try, evaluated -/
def rsD (c : Str) (ρ : En) : Da → SRs
  | .int i => .er c i ρ
  | _ => .bad
theorem q_raiseE {c : Str} {fa : En → R Da} {ρ : En} : sRaise c fa ρ = sB (fa ρ) ρ (rsD c ρ) := by
  unfold sRaise
  cases fa ρ with
  | ok d => cases d <;> rfl
  | err c i => rfl
  | bad => rfl
theorem rs_int {c : Str} {ρ : En} {i : Int} : rsD c ρ (.int i) = .er c i ρ := rfl
theorem lp_er {k : En → SRs} {ρ : En} {c : Str} {i : Int} : lpR (.er c i ρ) k = .er c i ρ := rfl
def tryG (tb : List Str) (i : Nat) (suite : En → SRs) : SRs → SRs
  | .er c n ρ' => if tb.contains c = true ∧ noExc ρ' = true then (match suite (ρ'.set i (.exc c n)) with
    | .go fl ρ'' => if noExc (ρ''.set i .no) = true then .go fl (ρ''.set i .no) else .bad
    | _ => .bad) else .bad
  | r => r
theorem q_tryE {tb : List Str} {i : Nat} {f g : En → SRs} {ρ : En} : sTry tb i f g ρ = tryG tb i g (f ρ) := by
  unfold sTry tryG
  try rfl
theorem try_go {tb : List Str} {i : Nat} {g : En → SRs} {fl : Fl} {ρ : En} : tryG tb i g (.go fl ρ) = .go fl ρ := rfl
theorem try_er {tb : List Str} {i : Nat} {g : En → SRs} {c : Str} {n : Int} {ρ ρ' : En} {fl : Fl} (h1 : tb.contains c = true) (h2 : noExc ρ = true) (h3 : g (ρ.set i (.exc c n)) = .go fl ρ') (h4 : noExc (ρ'.set i .no) = true) : tryG tb i g (.er c n ρ) = .go fl (ρ'.set i .no) := by
  unfold tryG
  dsimp only
  rw [if_pos ⟨h1, h2⟩, h3]
  dsimp only
  rw [if_pos h4]
theorem q_reprLA {ds : List Da} (hs : small (.list ds) = true) (hc : cells (.list ds) ≤ 20000) (hd : (PyData.list ds).depth ≤ 60) : gReprA [.list ds] = .ok (.str (PyData.list ds).shown) := by
  obtain ⟨h1, h2, h3⟩ := small_show _ hs
  refine if_pos ⟨h1, hd, ?_⟩
  have z := PyData.shown_fits (B := 13) (by decide) (by decide) h2 (by omega)
  rw [lim_eq] at z
  exact z
/-! ### a or b, by value: lists and tuples too -/
def trD : Da → R Bool
  | .none => .ok false
  | .bool b => .ok b
  | .int i => .ok (i != 0)
  | .list ds => .ok (!ds.isEmpty)
  | .tuple ds => .ok (!ds.isEmpty)
  | _ => .bad
theorem isEmpty_vrs {K : PySem.W.Frag} {H : Hp} {xs : List V} {ds : List Da} (h : Vrs K H xs ds) : ds.isEmpty = xs.isEmpty := by
  cases h <;> rfl
theorem tru_of {K : PySem.W.Frag} {N : Addr → Prop} {H : Hp} {v : V} {d : Da} {k : Bool} (h : Vr K (hide N H) v d) (e : trD d = .ok k) : TruV K v H k := by
  cases h with
  | non =>
    cases e
    rfl
  | bl b =>
    cases e
    rfl
  | int i =>
    cases e
    rfl
  | str x => cases e
  | lst h1 h2 =>
    cases e
    exact .inl ⟨_, (ls_same hide_sub h1).sq, by rw [isEmpty_vrs h2]⟩
  | tup h1 h2 =>
    cases e
    exact .inr (.inl ⟨_, sqt_same hide_sub h1, by rw [isEmpty_vrs h2]⟩)
def eOrT (fa fb : En → R Da) : En → R Da := fun ρ => (fa ρ).bind fun d => (trD d).bind fun k => cond k (.ok d) (fb ρ)
theorem trD_err {d : Da} {x : Str} {i : Int} : trD d ≠ .err x i := by
  cases d <;> intro h <;> cases h
theorem ev_orT {X : Cx} {W : WX} {c : Bool} {a b : Expr} {rest : List Expr} {pos : Pos} {fa fb : En → R Da} (ha : EV X W c a fa) (hb : EV X W c (.BoolOp .Or (b :: rest) pos) fb) : EV X W c (.BoolOp .Or (a :: b :: rest) pos) (eOrT fa fb) :=
  pe_imp (pe_orT ha hb) fun σ H Q ⟨H0, Z, G, ρ, S, q⟩ => ⟨H0, Z, G, ρ, S, (Arm.bind q).imp fun v H1 ⟨e1, d, hd, h1⟩ => by
    have hd' : Vr X.K (hide (lv c Z ρ σ) H1) v d := hd
    cases k : trD d with
    | ok b =>
      rw [k] at h1
      refine ⟨b, tru_of hd' k, ?_⟩
      cases b with
      | true =>
        rw [if_pos rfl]
        exact h1 v H1 (Same.refl _) hd
      | false =>
        rw [if_neg (by simp)]
        exact ⟨H0, Z, G, ρ, S.grow e1, h1⟩
    | err x i => exact absurd k trD_err
    | bad =>
      rw [k] at h1
      exact h1.elim⟩
def eTr (f : En → R Da) : En → R Bool := fun ρ => (f ρ).bind trD
theorem tv_tru {X : Cx} {W : WX} {a : Expr} {fa : En → R Da} (h : EV X W false a fa) (he : ∀ whole, isTrue a X.env whole = (do let v ← whole; standAt a.pos; holding [v] (truthy v)) := by intro _; rfl) : TV X W a (eTr fa) :=
  pt_imp (pt_truth h he) fun σ H Q ⟨H0, Z, G, ρ, S, q⟩ => ⟨H0, Z, G, ρ, S, (Arm.bind q).imp fun v H1 ⟨e1, d, hd, h1⟩ => by
    have hd' : Vr X.K (hide Z H1) v d := hd
    cases k : trD d with
    | ok b =>
      rw [k] at h1
      exact ⟨b, tru_of hd' k, h1 b H1 (Same.refl _) rfl⟩
    | err x i => exact absurd k trD_err
    | bad =>
      rw [k] at h1
      exact h1.elim⟩
theorem q_orT {fa fb : En → R Da} {ρ : En} : eOrT fa fb ρ = (fa ρ).bind fun d => (trD d).bind fun k => cond k (.ok d) (fb ρ) := rfl
theorem q_Tr {fa : En → R Da} {ρ : En} : eTr fa ρ = (fa ρ).bind trD := rfl
theorem tr_none : trD .none = .ok false := rfl
theorem tr_bool {b : Bool} : trD (.bool b) = .ok b := rfl
theorem tr_list {ds : List Da} : trD (.list ds) = .ok (!ds.isEmpty) := rfl
/-! ### a def with defaults, of which every argument is given -/
theorem fnVD_mk2 {P : Program} {w : World} {K : PySem.W.Frag} {mg : Str → Option Value} {base : Heap} {k : Nat} {x x' qual : Str} {st : Stmt} {fA : Addr} {fd : FuncData} {N ps : List Str} {fr : Bool} {fb : En → SRs} {n nl : Nat} {dvs : List V} {kws : List (Str × V)} {ds : List Value} (F : L2.FunD K x' qual (defArgs st) (defBody st) (defScope st) dvs kws fA fd) (hm : mg x = some (.ref fA)) (sS : FnScope N ps (defScope st)) (rd : Vals dvs ds) (bd : Binds K fd ps ds) (bd0 : Binds K fd ps []) (hn : ps.length = n) (hnl : N.length = nl) (hle : n ≤ nl)
    (body : ∀ (cdv : Value) (B : Around) (out : List Env) (t : Shared) (G : Hp) (E : XK), B.guards = some [] → Room k (B.deeper (envOfC qual (defScope st) t.heap.objs.size fA cdv)) →
      BV (cxOf (L2.CX P w) P w K mg base N qual (defScope st) fA cdv B out t G E) (fun cls d _ H => E cls d H) fr (defBody st) fb) :
    FnVD P w K mg base (k + 1) x n fr dvs (runF fr fb nl) ∧ FnV P w K mg base (k + 1) x n fr (runF fr fb nl) := by
  refine ⟨fnVD_mk F hm sS rd bd hn hnl hle body, ?_⟩
  obtain ⟨oc, od, dV, kV, doc, pm, an, cdv, ct, osl, rfl, lk, hcd, _, _⟩ := F.ex
  refine ⟨fA, _, ps, hm, F.kp, bd0, hn, fnG_of lk hcd sS (fun ys G wq we q => q.1.trans hn.symm) fun B out t G ys wq we gd rm q => ⟨_, body cdv B out t G we gd rm, ?_⟩⟩
  obtain ⟨hl, Z, ds, hz, hv, q⟩ := q
  subst hnl
  refine ⟨G, Z, [], _, sr_start hz hv (by omega), ?_⟩
  unfold runF at q
  cases r : fb (ds.map Slot.val ++ List.replicate (N.length - ds.length) Slot.no) with
  | go fl ρ =>
    rw [r] at q
    cases fl with
    | nx =>
      intro σ' H' S'
      refine q .non H' S'.base ?_
      cases fr <;> exact .non
    | bk => exact q.elim
    | ct => exact q.elim
    | rt d => exact q
  | er c i ρ =>
    rw [r] at q
    exact fun cls dd σ' H' S' e => q cls dd H' S'.base e
  | bad =>
    rw [r] at q
    exact q.elim
end VL
namespace VL
open PySem PySem.Spec PyProof.Rows L2
/-! ### what is never reached -/
def sBad : En → SRs := fun _ => .bad
theorem sv_bad {X : Cx} {W : WX} {fr : Bool} {st : Stmt} : SV X W fr st sBad :=
  ⟨fun pins s σ H D I q => q.elim fun _ h => h.elim fun _ h => h.elim fun _ h => h.elim fun _ h => h.2.elim⟩
def eBad : En → R Da := fun _ => .bad
theorem ev_bad {X : Cx} {W : WX} {c : Bool} {e : Expr} : EV X W c e eBad :=
  ⟨fun pins s σ H Q I q => q.elim fun _ h => h.elim fun _ h => h.elim fun _ h => h.elim fun _ h => h.2.elim⟩
end VL
namespace VL
open PySem PySem.Spec PyProof.Rows L2
/-! ### a def that is handed the exception that an except suite holds -/
def ExAt (mg : Str → Option Value) (ad : Addr) (oe : Obj) (Z : Addr → Prop) (H : Hp) (c : Str) (n : Int) : Prop := ∃ (C d : Addr), oe.cls = .ref C ∧ oe.dict = some d ∧ (∃ vs, oe.data = .fields vs) ∧ mg c = some (.ref C) ∧ hide Z H d = some (.xd [(("at" : Str), V.int n)])
def spE (K : PySem.W.Frag) (mg : Str → Option Value) (f : Str → Int → R Da) (ad : Addr) (oe : Obj) (vs : List V) (H : Hp) (Q : VK) : Prop := vs = [.ref ad] ∧ ∃ (Z : Addr → Prop) (c : Str) (n : Int), (∀ a, Z a → ∃ ls, H a = some (.lst ls)) ∧ ExAt mg ad oe Z H c n ∧ match f c n with
  | .ok d => ∀ v H', Same H H' → RetOk K false H Z H' v d → Q v H'
  | _ => False
structure FnE (P : Program) (w : World) (K : PySem.W.Frag) (mg : Str → Option Value) (base : Heap) (k : Nat) (x : Str) (f : Str → Int → R Da) : Prop where
  ex : ∃ (fA : Addr) (fd : FuncData) (ps : List Str), mg x = some (.ref fA) ∧ PySem.W.keepIn K (.ref fA) = true ∧ Binds K fd ps [] ∧ ps.length = 1 ∧
    ∀ (B : Around) (out : List Env) (t : Shared) (G : Hp) (ar : Args) (ws : List Value) (ys : List V) (wq : VK) (we : XK) (ad : Addr) (oe : Obj), Room k B → t.heap.get? ad = some oe → G ad = none → ad ∉ frs out → Env0 P w K mg base B out t G → BindsTo t fd ar (ps.zip ws) → Vals ys ws → spE K mg f ad oe ys G wq →
      codeAny (model P w) (B.mark (some (.ref ad))) (.call (.ref fA) ar) (CR (L2.CX P w) out P w G t wq we) t
def runE (fb : En → SRs) (N : Nat) (c : Str) (n : Int) : R Da := match fb (Slot.exc c n :: List.replicate (N - 1) Slot.no) with
  | .go (.rt d) _ => .ok d
  | .go .nx _ => .ok .none
  | _ => .bad
theorem sr_exc {K : PySem.W.Frag} {mg : Str → Option Value} {ad : Addr} {oe : Obj} {N : List Str} {H : Hp} {Z : Addr → Prop} {c : Str} {n : Int} (hz : ∀ a, Z a → ∃ ls, H a = some (.lst ls)) (e : ExAt mg ad oe Z H c n) (hl : 1 ≤ N.length) :
    SR ⟨K, mg, some (ad, oe)⟩ H Z [] (Slot.exc c n :: List.replicate (N.length - 1) Slot.no) (start N [.ref ad]) H := by
  have only : ∀ (i : Nat) (s : Slot), (Slot.exc c n :: List.replicate (N.length - 1) Slot.no)[i]? = some s → (i = 0 ∧ s = .exc c n) ∨ s = .no := fun i s q => by
    cases i with
    | zero => exact .inl ⟨rfl, by simpa using q.symm⟩
    | succ i =>
      rw [List.getElem?_cons_succ, List.getElem?_replicate] at q
      split at q
      · exact .inr (by simpa using q.symm)
      · cases q
  have hh : ∀ a, hid Z (Slot.exc c n :: List.replicate (N.length - 1) Slot.no) (start N [.ref ad]) a → Z a := fun a z => z.elim id fun ⟨i, es, q, _⟩ => by
    rcases only i _ q with ⟨_, q⟩ | q <;> cases q
  refine ⟨by simp [L2.start], fun i j es fs a q _ _ _ => ?_, fun i d q => ?_, fun i es q => ?_, fun g hg => absurd hg (by simp), Same.refl H, hz, fun i c' n' q => ?_⟩
  · rcases only i _ q with ⟨_, q⟩ | q <;> cases q
  · rcases only i _ q with ⟨_, q⟩ | q <;> cases q
  · rcases only i _ q with ⟨_, q⟩ | q <;> cases q
  · rcases only i _ q with ⟨rfl, q⟩ | q
    · cases q
      obtain ⟨C, d, h1, h2, h3, h4, h5⟩ := e
      refine ⟨ad, oe, C, d, rfl, h1, h2, h3, h4, ?_, hide_to (fun a o y m => ⟨fun z => m (hh a z), y⟩) d _ h5⟩
      unfold L2.start
      rfl
    · cases q
section
variable {P : Program} {w : World} {K : PySem.W.Frag} {mg : Str → Option Value} {base : Heap} {k : Nat}
theorem fnE_mk {x x' qual : Str} {st : Stmt} {fA : Addr} {fd : FuncData} {N ps : List Str} {fb : En → SRs} {nl : Nat} (F : Fun K x' qual st fA fd) (hm : mg x = some (.ref fA)) (sS : FnScope N ps (defScope st)) (bd : Binds K fd ps []) (hn : ps.length = 1) (hnl : N.length = nl) (hle : 1 ≤ nl)
    (body : ∀ (cdv : Value) (B : Around) (out : List Env) (t : Shared) (G : Hp) (E : XK) (ad : Addr) (oe : Obj), Room k (B.deeper (envOfC qual (defScope st) t.heap.objs.size fA cdv)) →
      BV ((cxOf (L2.CX P w) P w K mg base N qual (defScope st) fA cdv B out t G E).suite ad [(ad, oe)]) W0 false (defBody st) fb) :
    FnE P w K mg base (k + 1) x (runE fb nl) := by
  obtain ⟨oc, od, kV, doc, pm, an, cdv, ct, osl, rfl, lk, hcd⟩ := F.ex
  refine ⟨fA, _, ps, hm, F.kp, bd, hn, fun B out t G ar ws ys wq we ad oe rm hget hfree hnf env bnd rv hs => ?_⟩
  subst hnl
  obtain ⟨rfl, Z, c, n, hz, hex, q⟩ := hs
  have inK : K.In t.heap := env.mod.kin.keeps fun a o z => (env.bs a o z).1
  have nolim : t.heap.NoLimit := env.mod.nolimit.keeps fun a o z => (env.bs a o z).1
  have kinds : ∀ y ∈ ps.zip ws, (defScope st).names.lookup y.1 = some .local ∨
      ((defScope st).names.lookup y.1 = some .cell ∧ ((cellsFrom (t.heap.objs.size + 1) (defScope st).names []).lookup y.1).isSome = true) := by
    rintro ⟨m, v⟩ hy
    rcases sS.par m (List.of_mem_zip hy).1 with z | z
    · exact Or.inl z
    · exact Or.inr (And.intro z (PySem.W.cellsFrom_some _ _ _ (.inl z)))
  apply codeAny_call_function (show (B.mark (some (.ref ad))).depth < recursionLimit from rm.depth) (inK _ _ lk) rfl sS.co sS.gen rfl (PySem.W.codeRec_of inK hcd)
  apply bnd
  apply wpAny_newFunctionEnv_cells sS.kind kinds
  intro e1 he t1 x1
  subst he
  constructor
  · exact nolim.keeps x1.toInCall.keep
  apply codeAny_func
  have I0 := inv_start (CX := L2.CX P w) (cd := cdv) (qual := qual) (f := fA) (E := we) sS rm.hd env (by rw [hn]; rfl) rv x1
  obtain ⟨C, d0, k1, k2, ⟨fvs, k3⟩, k4, k5⟩ := hex
  have kp : t1.heap.get? ad = some oe := by
    obtain ⟨h1, tk, e1, hk⟩ := x1.done
    rw [e1]
    exact hk ad oe hget
  have nL : ad ≠ (cxOf (L2.CX P w) P w K mg base N qual (defScope st) fA cdv B out t G we).env.locals := Nat.ne_of_lt (Heap.lt_size hget)
  have I1 : Inv ((cxOf (L2.CX P w) P w K mg base N qual (defScope st) fA cdv B out t G we).suite ad [(ad, oe)]) [] (start N [.ref ad]) G t1 := Inv.suite I0 kp k3 hfree nL hnf
  have b1 := body cdv B out t G we ad oe (rm.deeper _)
  have bx : ((cxOf (L2.CX P w) P w K mg base N qual (defScope st) fA cdv B out t G we).suite ad [(ad, oe)]).bx = ⟨K, mg, some (ad, oe)⟩ := rfl
  have pre : tS ((cxOf (L2.CX P w) P w K mg base N qual (defScope st) fA cdv B out t G we).suite ad [(ad, oe)]) W0 false fb { nx := fun _ G' => wq .non G', rt := wq } (start N [.ref ad]) G := by
    refine ⟨G, Z, [], Slot.exc c n :: List.replicate (N.length - 1) Slot.no, by rw [bx]; exact sr_exc hz ⟨C, d0, k1, k2, ⟨fvs, k3⟩, k4, k5⟩ hle, ?_⟩
    unfold runE at q
    cases r : fb (Slot.exc c n :: List.replicate (N.length - 1) Slot.no) with
    | go fl ρ =>
      rw [r] at q
      cases fl with
      | nx => exact fun σ' H' S' => q .non H' S'.base .non
      | bk => exact q.elim
      | ct => exact q.elim
      | rt d => exact q
    | er c' i' ρ =>
      rw [r] at q
      exact q.elim
    | bad =>
      rw [r] at q
      exact q.elim
  apply wpAny_mono (b1.run [] t1 (start N [.ref ad]) G _ I1 pre)
  · intro fl t2 hf
    cases fl with
    | brk => obtain ⟨_, _, _, z⟩ := hf; exact z.elim
    | cont => obtain ⟨_, _, _, z⟩ := hf; exact z.elim
    | next =>
      obtain ⟨σ2, G2, I2, z⟩ := hf
      exact ⟨V.non, G2, I2.os, I2.bare, I2.base, I2.hok, rfl, z⟩
    | ret u =>
      obtain ⟨v2, σ2, G2, I2, r2, z⟩ := hf
      exact ⟨v2, G2, I2.os, I2.bare, I2.base, I2.hok, r2, z⟩
  · intro _ _ z
    exact z.elim
end
/-- the call -/
def eCallE (f : Str → Int → R Da) (i : Nat) : En → R Da := fun ρ => match ρ[i]? with
  | some (.exc c n) => (match f c n with
    | .ok d => .ok d
    | _ => .bad)
  | _ => .bad
section
variable {X : Cx} {W : WX} {c : Bool} {k i : Nat} {x nm : Str} {p px pos : Pos} {f : Str → Int → R Da} {ad : Addr} {oe : Obj} {pn : List (Addr × Obj)}
theorem ev_callE (F : FnE X.prog X.w X.K X.mg X.base k x f) (rm : Room k X.A) (hg : Gl (X.suite ad ((ad, oe) :: pn)) x) (hx : PE (X.suite ad ((ad, oe) :: pn)) (.Name nm p) (tVar i)) (hdb : (x == ("__debug__" : Str)) = false := by decide)
    (he : starEach [.Name nm p] X.env = (false, eval (.Name nm p) X.env) :: starEach [] X.env := by rfl) (hpl : (backTo pos (starEach [] X.env)).any (·.1) = false := by rfl) : EV (X.suite ad ((ad, oe) :: pn)) W c (.Call (.Name x px) [.Name nm p] [] pos) (eCallE f i) := by
  obtain ⟨fA, fd, ps, hm, kp, bd, hn, run⟩ := F
  constructor
  intro pins s σ H Q I ⟨H0, Z, G, ρ, S, q⟩
  unfold eCallE at q
  split at q
  next cc m hd =>
    obtain ⟨a, oe', C, d, h1, h2, h3, h4, h5, h6, h7⟩ := S.exc i cc m hd
    have e : (ad, oe) = (a, oe') := Option.some.inj h1
    cases e
    split at q
    next dd hf =>
      have ha : PA (X.suite ad ((ad, oe) :: pn)) [.Name nm p] _ := pa_cons hx pa_nil he
      have pre : tCons (tVar i) tNil σ H (fun vs H' => vs = [V.ref ad] ∧ H' = H) := ⟨.ref ad, h6, rfl, rfl⟩
      apply wpAny_Call_Name_kw (ld_glob I hg hm _ hdb)
      refine PySem.W.callWith_K (h₀ := X.base) I.ok.mod.kin kp (thn (ha.run pos pins s σ H _ I pre) ?_) he hpl
      rintro us s1 ⟨vs, H1, I1, rv, hv, hH⟩
      subst hv
      subst hH
      refine ⟨I1.kIn, ?_⟩
      have hl : us.length = ps.length := by
        rw [hn, ← rv.length]
        rfl
      have bb := bd s1 us I1.kIn (by simpa using hl)
      rw [List.append_nil] at bb
      have pin := I1.pin (ad, oe) (List.mem_append.mpr (.inl List.mem_cons_self))
      have en := I1.env0
      have en' : Env0 X.prog X.w X.K X.mg X.base X.A X.stack s1 H1 := ⟨en.frames, en.mod, en.bs, en.bsz, en.funs, en.frf, en.hok, en.bare⟩
      have nf : ad ∉ frs X.stack := fun hmem => by
        rcases List.mem_cons.mp (I1.stkSub ad hmem) with z | z
        · exact pin.2.2.1 z
        · exact pin.2.2.2.1 z
      apply wpAny_call
      apply codeAny_mono (run X.A X.stack s1 H1 ⟨us, []⟩ us [.ref ad] Q (fun _ _ _ => False) ad oe rm pin.1 pin.2.1 nf en' bb rv ⟨rfl, lv c Z ρ σ, cc, m, fun b z => S.hidl (lv_hid z), ⟨C, d, h2, h3, h4, h5, lv_same d _ h7⟩, by
        rw [hf]
        exact fun v H' e2 hr => q v H' e2 hr⟩)
      intro r s2 hr
      cases r with
      | error er =>
        obtain ⟨_, _, _, _, _, _, _, _, _, _, _, _, hF⟩ := hr
        exact hF.elim
      | ok fl =>
        cases fl with
        | ret u => exact I1.after hr
        | next => exact hr.elim
        | brk => exact hr.elim
        | cont => exact hr.elim
    next => exact q.elim
  next => exact q.elim
end
/-! ### a, b = x, y: two new lists -/
section
variable {X : Cx} {W : WX} {fr : Bool} {a b : Expr} {fl fm : En → R (List Da)} {pos : Pos}
def sParF (i j : Nat) (fl fm : En → R (List Da)) : En → SRs := fun ρ => sB (fl ρ) ρ fun xs => sB (fm ρ) ρ fun ys => .go .nx ((ρ.set i (.own xs)).set j (.own ys))
theorem sv_parF {i j : Nat} {x y : Str} {px py pt : Pos} {kt k2 : Nat} {pt2 : Pos} (hc : X.calm = true) (hN : X.N.Nodup) (hi : X.N[i]? = some x) (hj : X.N[j]? = some y) (hij : i ≠ j)
    (hx : X.env.scope.names.lookup x = some .local) (hy : X.env.scope.names.lookup y = some .local) (ha : EF X W a fl) (hb : EF X W b fm)
    (hw : swappedStores [.Tuple [.Name x px, .Name y py] kt pt] (.Tuple [a, b] k2 pt2) X.env = pure (some [x, y]))
    (hs : swapsWithSole [.Tuple [.Name x px, .Name y py] kt pt] (.Tuple [a, b] k2 pt2) pos.line X.env = pure false := by rfl)
    (he : starEach [a, b] X.env = (false, eval a X.env) :: starEach [b] X.env := by rfl) (he2 : starEach [b] X.env = (false, eval b X.env) :: starEach [] X.env := by rfl) :
    SV X W fr (.Assign [.Tuple [.Name x px, .Name y py] kt pt] (.Tuple [a, b] k2 pt2) pos) (sParF i j fl fm) :=
  ps_imp (ps_par hc hN hi hj hij hx hy (pa_cons ha (pa_cons hb pa_nil he2) he) hw hs) fun D σ H ⟨H0, Z, G, ρ, S, h⟩ => ⟨H0, Z, G, ρ, S, (SArm.bind S h).imp fun v H1 ⟨e1, xs, hd, h1⟩ => by
    obtain ⟨p, vs, rfl, hp, hp1, hv⟩ := hd
    have np : ¬ hid Z ρ σ p := S.fresh hp
    have S1 := S.cover (D := p) e1 hp ⟨vs, hp1⟩
    refine ⟨H0, fun a => Z a ∨ a = p, G, ρ, S1, ?_⟩
    have hh : ∀ q, hid (fun a => Z a ∨ a = p) ρ σ q → hid Z ρ σ q ∨ q = p := fun q z => by
      rcases z with (z | z) | z
      · exact .inl (.inl z)
      · exact .inr z
      · exact .inl (.inr z)
    cases r : fm ρ with
    | err c n =>
      rw [r] at h1
      exact fun cls dd H' e he => h1 cls dd σ H' ((S.grow e1).grow e) he
    | bad =>
      rw [r] at h1
      exact h1
    | ok ys =>
      rw [r] at h1
      intro w H2 e2 ⟨p2, ws, hw2, hq, hq2, hv2⟩
      subst hw2
      have SA := S.set_own (i := i) (ds := xs) e1 hp hp1 hv
      have inA : ∀ q, hid Z (ρ.set i (.own xs)) (σ.set i (some (.ref p))) q → hid Z ρ σ q ∨ q = p := fun q z => by
        rcases z with z | ⟨k, es, g1, g2⟩
        · exact .inl (.inl z)
        · by_cases e' : i = k
          · subst e'
            have hl : i < σ.length := by
              have := (List.getElem?_eq_some_iff.mp g2).1
              simpa using this
            rw [List.getElem?_set_self hl] at g2
            cases g2
            exact .inr rfl
          · rw [List.getElem?_set_ne e'] at g1 g2
            exact .inl (.inr ⟨k, es, g1, g2⟩)
      have SB := SA.set_own (i := j) (ds := ys) e2 hq hq2 (vrs_same (hide_to fun q o y m => ⟨fun z => m (by
        rcases z with z | z
        · rcases inA q z with z | z
          · rcases z with z | z
            · exact .inl (.inl (.inl z))
            · exact .inl (.inr z)
          · exact .inl (.inl (.inr z))
        · exact .inr z), y⟩) hv2)
      exact ⟨_, _, rfl, h1 _ _ SB⟩⟩
end
/-! ### (a, b) <= (c, d) -/
def cLeP : Da → Da → R Bool
  | .tuple [.int a, .int b], .tuple [.int c, .int d] => .ok (decide (a < c ∨ (a = c ∧ b ≤ d)))
  | _, _ => .bad
theorem cm2_leP {K : PySem.W.Frag} : Cm2 K cLeP (rLeT K) := by
  intro x y H v u Q hx hy
  unfold cLeP
  split
  next r b e =>
    split at e
    next a b' c d =>
      cases e
      cases hx with
      | tup hs1 hv1 =>
        cases hy with
        | tup hs2 hv2 =>
          rw [vrs_ints (ns := [a, b']) hv1 rfl] at hs1
          rw [vrs_ints (ns := [c, d]) hv2 rfl] at hs2
          intro q
          refine ⟨_, _, [a, b'], [c, d], rfl, rfl, hs1, hs2, ?_⟩
          have ev : Ob.lexAt (fun j => decide (([a, b'] : List Int).getD j 0 = ([c, d] : List Int).getD j 0)) (fun j => decide (([a, b'] : List Int).getD j 0 ≤ ([c, d] : List Int).getD j 0)) (decide (([a, b'] : List Int).length ≤ ([c, d] : List Int).length)) 0 (min ([a, b'] : List Int).length ([c, d] : List Int).length) = decide (a < c ∨ (a = c ∧ b' ≤ d)) := by
            show (if decide (a = c) = true then (if decide (b' = d) = true then true else decide (b' ≤ d)) else decide (a ≤ c)) = _
            by_cases h1 : a = c
            · rw [if_pos (decide_eq_true h1)]
              by_cases h2 : b' = d
              · rw [if_pos (decide_eq_true h2)]
                exact (decide_eq_true (by omega)).symm
              · rw [if_neg (by simpa using h2)]
                exact decide_eq_decide.mpr (by omega)
            · rw [if_neg (by simpa using h1)]
              exact decide_eq_decide.mpr (by omega)
          rw [ev]
          exact q
    next => cases e
  next e =>
    split at e <;> cases e
  next => trivial
end VL
namespace K27
open PySem PySem.Spec PyProof.Rows L2 VL
/-! ### the text -/
def topS (i : Nat) : Stmt := PySem.Challenge.pw_kerbcall_k27_checked_numbers.main.body.getD i (.Pass ⟨0, 0, 0, 0⟩)
def tb : List Str := ["OutOfRange", "TooMany", "WrongSize", "BadNumbers", "BadPairing", "BadPools"]
structure Txt (K : PySem.W.Frag) (mg : Str → Option Value) : Prop where
  d__law_draws : ∃ fA fd, Fun K "_law_draws" "_law_draws" (topS 55) fA fd ∧ mg "_law_draws" = some (.ref fA) ∧ Binds K fd ["script"] []
  d__law_mix : ∃ fA fd, Fun K "_law_mix" "_law_mix" (topS 56) fA fd ∧ mg "_law_mix" = some (.ref fA) ∧ Binds K fd ["draws", "k", "many"] []
  d__law_amount : ∃ fA fd, Fun K "_law_amount" "_law_amount" (topS 58) fA fd ∧ mg "_law_amount" = some (.ref fA) ∧ Binds K fd ["draws", "k", "top"] []
  d__law_numbers : ∃ fA fd, Fun K "_law_numbers" "_law_numbers" (topS 60) fA fd ∧ mg "_law_numbers" = some (.ref fA) ∧ Binds K fd ["draws", "first", "many", "top", "thick"] []
  d__law_same : ∃ fA fd, Fun K "_law_same" "_law_same" (topS 57) fA fd ∧ mg "_law_same" = some (.ref fA) ∧ Binds K fd ["actual", "due"] []
  d_check_many : ∃ fA fd, Fun K "check_many" "check_many" (topS 11) fA fd ∧ mg "check_many" = some (.ref fA) ∧ Binds K fd ["many", "most"] []
  d_check_numbers : ∃ fA fd, Fun K "check_numbers" "check_numbers" (topS 12) fA fd ∧ mg "check_numbers" = some (.ref fA) ∧ Binds K fd ["numbers"] []
  d_leaves : ∃ fA fd, Fun K "leaves" "leaves" (topS 53) fA fd ∧ mg "leaves" = some (.ref fA) ∧ Binds K fd ["numbers", "prices"] []
  d_pairing : ∃ fA fd, Fun K "pairing" "pairing" (topS 23) fA fd ∧ mg "pairing" = some (.ref fA) ∧ Binds K fd ["numbers"] []
  d_greatest_sum : ∃ fA fd, Fun K "greatest_sum" "greatest_sum" (topS 27) fA fd ∧ mg "greatest_sum" = some (.ref fA) ∧ Binds K fd ["numbers"] []
  d_pairing_sum : ∃ fA fd, Fun K "pairing_sum" "pairing_sum" (topS 26) fA fd ∧ mg "pairing_sum" = some (.ref fA) ∧ Binds K fd ["numbers", "pairs"] []
  d_pairing_paper : ∃ fA fd, Fun K "pairing_paper" "pairing_paper" (topS 28) fA fd ∧ mg "pairing_paper" = some (.ref fA) ∧ Binds K fd ["numbers"] []
  d_check_pairing : ∃ fA fd, Fun K "check_pairing" "check_pairing" (topS 31) fA fd ∧ mg "check_pairing" = some (.ref fA) ∧ Binds K fd ["numbers", "pairs", "paper"] []
  d_adds : ∃ fA fd, Fun K "adds" "adds" (topS 32) fA fd ∧ mg "adds" = some (.ref fA) ∧ Binds K fd ["numbers"] []
  d_half_plan : ∃ fA fd, Fun K "half_plan" "half_plan" (topS 41) fA fd ∧ mg "half_plan" = some (.ref fA) ∧ Binds K fd ["numbers"] []
  d_half_prices : ∃ fA fd, Fun K "half_prices" "half_prices" (topS 44) fA fd ∧ mg "half_prices" = some (.ref fA) ∧ Binds K fd ["numbers"] []
  d_is_half_plan : ∃ fA fd, Fun K "is_half_plan" "is_half_plan" (topS 42) fA fd ∧ mg "is_half_plan" = some (.ref fA) ∧ Binds K fd ["numbers", "plan"] []
  d_half_sum : ∃ fA fd, Fun K "half_sum" "half_sum" (topS 43) fA fd ∧ mg "half_sum" = some (.ref fA) ∧ Binds K fd ["numbers", "plan"] []
  d_bears : ∃ fA fd, Fun K "bears" "bears" (topS 45) fA fd ∧ mg "bears" = some (.ref fA) ∧ Binds K fd ["numbers", "prices"] []
  d_check_half : ∃ fA fd, Fun K "check_half" "check_half" (topS 46) fA fd ∧ mg "check_half" = some (.ref fA) ∧ Binds K fd ["numbers", "plan", "prices"] []
  d_stable_prices : ∃ fA fd, Fun K "stable_prices" "stable_prices" (topS 49) fA fd ∧ mg "stable_prices" = some (.ref fA) ∧ Binds K fd ["numbers"] []
  d_paid_in : ∃ fA fd, Fun K "paid_in" "paid_in" (topS 48) fA fd ∧ mg "paid_in" = some (.ref fA) ∧ Binds K fd ["numbers"] []
  d_bars : ∃ fA fd, Fun K "bars" "bars" (topS 50) fA fd ∧ mg "bars" = some (.ref fA) ∧ Binds K fd ["numbers"] []
  d_check_stable : ∃ fA fd, Fun K "check_stable" "check_stable" (topS 51) fA fd ∧ mg "check_stable" = some (.ref fA) ∧ Binds K fd ["numbers", "pairs", "prices"] []
  d_check_barred : ∃ fA fd, Fun K "check_barred" "check_barred" (topS 52) fA fd ∧ mg "check_barred" = some (.ref fA) ∧ Binds K fd ["numbers", "pairs", "paper", "plan"] []
  d__law_error : ∃ fA fd, Fun K "_law_error" "_law_error" (topS 61) fA fd ∧ mg "_law_error" = some (.ref fA) ∧ Binds K fd ["e"] []
  d__law_asked : ∃ fA fd, Fun K "_law_asked" "_law_asked" (topS 62) fA fd ∧ mg "_law_asked" = some (.ref fA) ∧ Binds K fd ["which", "numbers"] []
  d__law_all_refuse : ∃ fA fd, Fun K "_law_all_refuse" "_law_all_refuse" (topS 65) fA fd ∧ mg "_law_all_refuse" = some (.ref fA) ∧ Binds K fd ["numbers", "due"] []
  d__law_top : ∃ fA fd, Fun K "_law_top" "_law_top" (topS 59) fA fd ∧ mg "_law_top" = some (.ref fA) ∧ Binds K fd ["draws", "k"] []
  d__law_spoilt : ∃ fA fd, Fun K "_law_spoilt" "_law_spoilt" (topS 64) fA fd ∧ mg "_law_spoilt" = some (.ref fA) ∧ Binds K fd ["draws", "at", "numbers"] []
  d__law_fault : ∃ fA fd, Fun K "_law_fault" "_law_fault" (topS 63) fA fd ∧ mg "_law_fault" = some (.ref fA) ∧ Binds K fd ["numbers"] []
  d_law : ∃ fA fd, Fun K "law" "law" (topS 66) fA fd ∧ mg "law" = some (.ref fA) ∧ Binds K fd ["script"] []
  m_abs : mg "abs" = none
  m_all : mg "all" = none
  m_any : mg "any" = none
  m_bool : mg "bool" = none
  m_enumerate : mg "enumerate" = none
  m_int : mg "int" = none
  m_isinstance : mg "isinstance" = none
  m_len : mg "len" = none
  m_list : mg "list" = none
  m_min : mg "min" = none
  m_range : mg "range" = none
  m_repr : mg "repr" = none
  m_str : mg "str" = none
  m_sum : mg "sum" = none
  m_tuple : mg "tuple" = none
  m_zip : mg "zip" = none
  c_MOST_NUMBER : ∃ t, mg "MOST_NUMBER" = some (.int 1000000000 t)
  c_MOST_RIDERS : ∃ t, mg "MOST_RIDERS" = some (.int 40 t)
  krs : ∃ D fI, Krs PySem.Challenge.pw_kerbcall_k27_checked_numbers K mg D fI tb
section
variable {w : World} {K : PySem.W.Frag} {mg : Str → Option Value} {base : Heap}
/-! _law_draws(script): 0 script, 1 draws, 2 k, 3 rest, 4 turn, 5 mixed -/
def bl__law_draws_1 : En → SRs := sSeq (sIf (t2 cGt (eVar 3) (eC (.int 0))) (sSeq (sApp 1 (e2 dMod (eAp gInt (aCons (eVar 3) (aNil))) (eC (.int 65536)))) (sSeq (sSet 3 (e2 dDiv (eVar 3) (eC (.int 65536)))) (sNil))) (sNil)) (sNil)
def bl__law_draws_2 : En → SRs := sSeq (sSet 5 (e2 dMod (eAp gInt (aCons (e2 dAdd (e2 dMul (eVar 3) (eC (.int 48271))) (e2 dMul (e2 dAdd (eVar 2) (eC (.int 1))) (eC (.int 69621)))) (aNil))) (eC (.int 2147483647)))) (sSeq (sSet 5 (e2 dMod (eAp gInt (aCons (e2 dAdd (e2 dAdd (e2 dMul (eVar 5) (eC (.int 16807))) (e2 dMul (eC (.int 11)) (eVar 2))) (eC (.int 5))) (aNil))) (eC (.int 2147483629)))) (sSeq (sApp 1 (e2 dMod (eAp gInt (aCons (eVar 5) (aNil))) (eC (.int 65536)))) (sSeq (sApp 1 (e2 dMod (eAp gInt (aCons (e2 dDiv (eVar 5) (eC (.int 65536))) (aNil))) (eC (.int 32768)))) (sNil))))
def bl__law_draws_3 : En → SRs := sSeq (sSet 3 (eAp gAbs (aCons (e2 dIx (eVar 0) (eVar 2)) (aNil)))) (sSeq (sIf (t2 cGe (eVar 3) (e2 dPow (eC (.int 10)) (eC (.int 18)))) (sSeq (sFor (eR1 (eC (.int 60))) (gNm 4) bl__law_draws_1) (sNil)) (bl__law_draws_2)) (sNil))
def v__law_draws : En → SRs := sSeq (sSetF 1 (aNil)) (sSeq (sFor (eR1 (eAp gMin2 (aCons (eC (.int 63)) (aCons (eAp gLen (aCons (eVar 0) (aNil))) (aNil))))) (gNm 2) bl__law_draws_3) (sSeq (sRetO 1) (sNil)))
def f__law_draws : List Da → R Da := runF true v__law_draws 6
theorem fv__law_draws (T : Txt K mg) : FnV PySem.Challenge.pw_kerbcall_k27_checked_numbers w K mg base 1 "_law_draws" 1 true f__law_draws := by
  obtain ⟨fA, fd, F, hm, bd⟩ := T.d__law_draws
  have sS : FnScope ["script", "draws", "k", "rest", "turn", "mixed"] ["script"] (defScope (topS 55)) := ⟨rfl, rfl, rfl, by decide +kernel, rfl, by decide +kernel, by decide +kernel⟩
  refine fnV_mk (nl := 6) F hm sS bd rfl rfl (by decide) fun cdv B out t G E gd rm => ?_
  have h64 := Nat.lt_of_le_of_lt (Nat.add_le_add_left (by decide : 64 ≤ 200) _) (Nat.lt_of_le_of_lt (Nat.add_le_add_right (Nat.le_add_right _ (16 * 0)) 200) rm.un)
  have h65 := Nat.lt_of_le_of_lt (Nat.add_le_add_left (by decide : 65 ≤ 200) _) (Nat.lt_of_le_of_lt (Nat.add_le_add_right (Nat.le_add_right _ (16 * 0)) 200) rm.un)
  have tk : Takes (cxOf (L2.CX PySem.Challenge.pw_kerbcall_k27_checked_numbers w) PySem.Challenge.pw_kerbcall_k27_checked_numbers w K mg base ["script", "draws", "k", "rest", "turn", "mixed"] "_law_draws" (defScope (topS 55)) fA cdv B out t G E) (fun cls d _ H => E cls d H) := takes_of rfl rfl rfl rfl
  have po : PassesOwn (model PySem.Challenge.pw_kerbcall_k27_checked_numbers w) (B.deeper (envOfC "_law_draws" (defScope (topS 55)) t.heap.objs.size fA cdv)) (cxOf (L2.CX PySem.Challenge.pw_kerbcall_k27_checked_numbers w) PySem.Challenge.pw_kerbcall_k27_checked_numbers w K mg base ["script", "draws", "k", "rest", "turn", "mixed"] "_law_draws" (defScope (topS 55)) fA cdv B out t G E).env (cxOf (L2.CX PySem.Challenge.pw_kerbcall_k27_checked_numbers w) PySem.Challenge.pw_kerbcall_k27_checked_numbers w K mg base ["script", "draws", "k", "rest", "turn", "mixed"] "_law_draws" (defScope (topS 55)) fA cdv B out t G E).xe := passes_of (X := cxOf (L2.CX PySem.Challenge.pw_kerbcall_k27_checked_numbers w) PySem.Challenge.pw_kerbcall_k27_checked_numbers w K mg base ["script", "draws", "k", "rest", "turn", "mixed"] "_law_draws" (defScope (topS 55)) fA cdv B out t G E) rfl
  exact (bv_cons (sv_setF (i := 1) sS.nd rfl (.inl rfl) (ef_lst av_nil)) (bv_cons (sv_for po rfl (iv_rng1 (by rfl) T.m_range (ev_callB cs_min2 (call_min2 (by rfl)) (by rfl) T.m_min (by decide +kernel) (av_cons ev_int (av_cons (ev_callB cs_len call_len (by rfl) T.m_len (by decide +kernel) (av_cons (ev_var (pv 0)) av_nil)) av_nil)))) (gv_name sS.nd rfl (.inl rfl)) (bv_cons (sv_set (i := 3) sS.nd rfl (.inl rfl) (ev_callB cs_abs call_abs (by rfl) T.m_abs (by decide +kernel) (av_cons (ev_ix (ev_var (pv 0)) (ev_var (pv 2)) (fun _ _ => rfl)) av_nil))) (bv_cons (sv_if (tv_cmp cm2_I op_ge (ev_var (pv 3)) (ev_pow ev_int ev_int) (nomark _)) (bv_cons (sv_for po rfl (iv_rng1 (by rfl) T.m_range ev_int) (gv_name sS.nd rfl (.inl rfl)) (bv_cons (sv_if (tv_cmp cm2_I op_gt (ev_var (pv 3)) ev_int (nomark _)) (bv_cons (sv_app (pv 1) (ev_mod (ev_callTy cs_int call_int1 (by rfl) T.m_int (by decide +kernel) (av_cons (ev_var (pv 3)) av_nil)) ev_int)) (bv_cons (sv_set (i := 3) sS.nd rfl (.inl rfl) (ev_div (ev_var (pv 3)) ev_int)) bv_nil)) bv_nil) bv_nil)) bv_nil) (bv_cons (sv_set (i := 5) sS.nd rfl (.inl rfl) (ev_mod (ev_callTy cs_int call_int1 (by rfl) T.m_int (by decide +kernel) (av_cons (ev_add (ev_mul (ev_var (pv 3)) ev_int) (ev_mul (ev_add (ev_var (pv 2)) ev_int) ev_int)) av_nil)) ev_int)) (bv_cons (sv_set (i := 5) sS.nd rfl (.inl rfl) (ev_mod (ev_callTy cs_int call_int1 (by rfl) T.m_int (by decide +kernel) (av_cons (ev_add (ev_add (ev_mul (ev_var (pv 5)) ev_int) (ev_mul ev_int (ev_var (pv 2)))) ev_int) av_nil)) ev_int)) (bv_cons (sv_app (pv 1) (ev_mod (ev_callTy cs_int call_int1 (by rfl) T.m_int (by decide +kernel) (av_cons (ev_var (pv 5)) av_nil)) ev_int)) (bv_cons (sv_app (pv 1) (ev_mod (ev_callTy cs_int call_int1 (by rfl) T.m_int (by decide +kernel) (av_cons (ev_div (ev_var (pv 5)) ev_int) av_nil)) ev_int)) bv_nil))))) bv_nil))) (bv_cons (sv_retO (pv 1)) bv_nil)))
/-! _law_mix(draws, k, many): 0 draws, 1 k, 2 many, 3 value -/
def v__law_mix : En → SRs := sSeq (sSet 3 (eC (.int 0))) (sSeq (sIf (t2 cGt (eAp gLen (aCons (eVar 0) (aNil))) (eC (.int 0))) (sSeq (sSet 3 (e2 dIx (eVar 0) (e2 dMod (eAp gInt (aCons (eVar 1) (aNil))) (eAp gLen (aCons (eVar 0) (aNil)))))) (sNil)) (sNil)) (sSeq (sIf (t2 cLt (eVar 1) (eAp gLen (aCons (eVar 0) (aNil)))) (sSeq (sRet (e2 dMod (eAp gInt (aCons (eVar 3) (aNil))) (eVar 2))) (sNil)) (sNil)) (sSeq (sRet (e2 dMod (eAp gInt (aCons (e2 dDiv (eAp gInt (aCons (e2 dAdd (e2 dMul (eVar 3) (eC (.int 7919))) (e2 dMul (eVar 1) (eC (.int 104729)))) (aNil))) (eC (.int 3))) (aNil))) (eVar 2))) (sNil))))
def f__law_mix : List Da → R Da := runF false v__law_mix 4
theorem fv__law_mix (T : Txt K mg) : FnV PySem.Challenge.pw_kerbcall_k27_checked_numbers w K mg base 1 "_law_mix" 3 false f__law_mix := by
  obtain ⟨fA, fd, F, hm, bd⟩ := T.d__law_mix
  have sS : FnScope ["draws", "k", "many", "value"] ["draws", "k", "many"] (defScope (topS 56)) := ⟨rfl, rfl, rfl, by decide +kernel, rfl, by decide +kernel, by decide +kernel⟩
  refine fnV_mk (nl := 4) F hm sS bd rfl rfl (by decide) fun cdv B out t G E gd rm => ?_
  have h64 := Nat.lt_of_le_of_lt (Nat.add_le_add_left (by decide : 64 ≤ 200) _) (Nat.lt_of_le_of_lt (Nat.add_le_add_right (Nat.le_add_right _ (16 * 0)) 200) rm.un)
  have h65 := Nat.lt_of_le_of_lt (Nat.add_le_add_left (by decide : 65 ≤ 200) _) (Nat.lt_of_le_of_lt (Nat.add_le_add_right (Nat.le_add_right _ (16 * 0)) 200) rm.un)
  have tk : Takes (cxOf (L2.CX PySem.Challenge.pw_kerbcall_k27_checked_numbers w) PySem.Challenge.pw_kerbcall_k27_checked_numbers w K mg base ["draws", "k", "many", "value"] "_law_mix" (defScope (topS 56)) fA cdv B out t G E) (fun cls d _ H => E cls d H) := takes_of rfl rfl rfl rfl
  have po : PassesOwn (model PySem.Challenge.pw_kerbcall_k27_checked_numbers w) (B.deeper (envOfC "_law_mix" (defScope (topS 56)) t.heap.objs.size fA cdv)) (cxOf (L2.CX PySem.Challenge.pw_kerbcall_k27_checked_numbers w) PySem.Challenge.pw_kerbcall_k27_checked_numbers w K mg base ["draws", "k", "many", "value"] "_law_mix" (defScope (topS 56)) fA cdv B out t G E).env (cxOf (L2.CX PySem.Challenge.pw_kerbcall_k27_checked_numbers w) PySem.Challenge.pw_kerbcall_k27_checked_numbers w K mg base ["draws", "k", "many", "value"] "_law_mix" (defScope (topS 56)) fA cdv B out t G E).xe := passes_of (X := cxOf (L2.CX PySem.Challenge.pw_kerbcall_k27_checked_numbers w) PySem.Challenge.pw_kerbcall_k27_checked_numbers w K mg base ["draws", "k", "many", "value"] "_law_mix" (defScope (topS 56)) fA cdv B out t G E) rfl
  exact (bv_cons (sv_set (i := 3) sS.nd rfl (.inl rfl) ev_int) (bv_cons (sv_if (tv_cmp cm2_I op_gt (ev_callB cs_len call_len (by rfl) T.m_len (by decide +kernel) (av_cons (ev_var (pv 0)) av_nil)) ev_int (nomark _)) (bv_cons (sv_set (i := 3) sS.nd rfl (.inl rfl) (ev_ix (ev_var (pv 0)) (ev_mod (ev_callTy cs_int call_int1 (by rfl) T.m_int (by decide +kernel) (av_cons (ev_var (pv 1)) av_nil)) (ev_callB cs_len call_len (by rfl) T.m_len (by decide +kernel) (av_cons (ev_var (pv 0)) av_nil))) (fun _ _ => rfl))) bv_nil) bv_nil) (bv_cons (sv_if (tv_cmp cm2_I op_lt (ev_var (pv 1)) (ev_callB cs_len call_len (by rfl) T.m_len (by decide +kernel) (av_cons (ev_var (pv 0)) av_nil)) (nomark _)) (bv_cons (sv_ret (ev_mod (ev_callTy cs_int call_int1 (by rfl) T.m_int (by decide +kernel) (av_cons (ev_var (pv 3)) av_nil)) (ev_var (pv 2)))) bv_nil) bv_nil) (bv_cons (sv_ret (ev_mod (ev_callTy cs_int call_int1 (by rfl) T.m_int (by decide +kernel) (av_cons (ev_div (ev_callTy cs_int call_int1 (by rfl) T.m_int (by decide +kernel) (av_cons (ev_add (ev_mul (ev_var (pv 3)) ev_int) (ev_mul (ev_var (pv 1)) ev_int)) av_nil)) ev_int) av_nil)) (ev_var (pv 2)))) bv_nil))))
/-! _law_amount(draws, k, top): 0 draws, 1 k, 2 top -/
def v__law_amount : En → SRs := sSeq (sIf (t2 cLt (eVar 2) (eC (.int 60000))) (sSeq (sRet (eAp f__law_mix (aCons (eVar 0) (aCons (eVar 1) (aCons (e2 dAdd (eVar 2) (eC (.int 1))) (aNil)))))) (sNil)) (sNil)) (sSeq (sRet (e2 dMul (eAp f__law_mix (aCons (eVar 0) (aCons (eVar 1) (aCons (eC (.int 1001)) (aNil))))) (e2 dDiv (eVar 2) (eC (.int 1000))))) (sNil))
def f__law_amount : List Da → R Da := runF false v__law_amount 3
theorem fv__law_amount (T : Txt K mg) : FnV PySem.Challenge.pw_kerbcall_k27_checked_numbers w K mg base 2 "_law_amount" 3 false f__law_amount := by
  obtain ⟨fA, fd, F, hm, bd⟩ := T.d__law_amount
  have sS : FnScope ["draws", "k", "top"] ["draws", "k", "top"] (defScope (topS 58)) := ⟨rfl, rfl, rfl, by decide +kernel, rfl, by decide +kernel, by decide +kernel⟩
  refine fnV_mk (nl := 3) F hm sS bd rfl rfl (by decide) fun cdv B out t G E gd rm => ?_
  have h64 := Nat.lt_of_le_of_lt (Nat.add_le_add_left (by decide : 64 ≤ 200) _) (Nat.lt_of_le_of_lt (Nat.add_le_add_right (Nat.le_add_right _ (16 * 1)) 200) rm.un)
  have h65 := Nat.lt_of_le_of_lt (Nat.add_le_add_left (by decide : 65 ≤ 200) _) (Nat.lt_of_le_of_lt (Nat.add_le_add_right (Nat.le_add_right _ (16 * 1)) 200) rm.un)
  have tk : Takes (cxOf (L2.CX PySem.Challenge.pw_kerbcall_k27_checked_numbers w) PySem.Challenge.pw_kerbcall_k27_checked_numbers w K mg base ["draws", "k", "top"] "_law_amount" (defScope (topS 58)) fA cdv B out t G E) (fun cls d _ H => E cls d H) := takes_of rfl rfl rfl rfl
  have po : PassesOwn (model PySem.Challenge.pw_kerbcall_k27_checked_numbers w) (B.deeper (envOfC "_law_amount" (defScope (topS 58)) t.heap.objs.size fA cdv)) (cxOf (L2.CX PySem.Challenge.pw_kerbcall_k27_checked_numbers w) PySem.Challenge.pw_kerbcall_k27_checked_numbers w K mg base ["draws", "k", "top"] "_law_amount" (defScope (topS 58)) fA cdv B out t G E).env (cxOf (L2.CX PySem.Challenge.pw_kerbcall_k27_checked_numbers w) PySem.Challenge.pw_kerbcall_k27_checked_numbers w K mg base ["draws", "k", "top"] "_law_amount" (defScope (topS 58)) fA cdv B out t G E).xe := passes_of (X := cxOf (L2.CX PySem.Challenge.pw_kerbcall_k27_checked_numbers w) PySem.Challenge.pw_kerbcall_k27_checked_numbers w K mg base ["draws", "k", "top"] "_law_amount" (defScope (topS 58)) fA cdv B out t G E) rfl
  exact (bv_cons (sv_if (tv_cmp cm2_I op_lt (ev_var (pv 2)) ev_int (nomark _)) (bv_cons (sv_ret (ev_call (fv__law_mix T) (rm.mono (by decide)) gd tk (by rfl) (av_cons (ev_var (pv 0)) (av_cons (ev_var (pv 1)) (av_cons (ev_add (ev_var (pv 2)) ev_int) av_nil))))) bv_nil) bv_nil) (bv_cons (sv_ret (ev_mul (ev_call (fv__law_mix T) (rm.mono (by decide)) gd tk (by rfl) (av_cons (ev_var (pv 0)) (av_cons (ev_var (pv 1)) (av_cons ev_int av_nil)))) (ev_div (ev_var (pv 2)) ev_int))) bv_nil))
/-! _law_numbers(draws, first, many, top, thick): 0 draws, 1 first, 2 many, 3 top, 4 thick, 5 singles, 6 k, 7 number, 8 pairs, 9 at, 10 i, 11 j -/
def st__law_numbers_1 : En → SRs := sSet 7 (eAp f__law_amount (aCons (eVar 0) (aCons (e2 dAdd (eVar 1) (e2 dMul (eC (.int 3)) (eVar 6))) (aCons (eVar 3) (aNil)))))
def st__law_numbers_2 : En → SRs := sApp 5 (e2 dIx (eD (aCons (eC (.int 0)) (aCons (e2 dDiv (eVar 7) (eC (.int 2))) (aCons (e2 dDiv (eVar 7) (eC (.int 5))) (aNil))))) (eAp f__law_mix (aCons (eVar 0) (aCons (e2 dAdd (e2 dAdd (eVar 1) (e2 dMul (eC (.int 3)) (eVar 6))) (eC (.int 1))) (aCons (eC (.int 3)) (aNil))))))
def bl__law_numbers_1 : En → SRs := sSeq (st__law_numbers_1) (sSeq (st__law_numbers_2) (sNil))
def st__law_numbers_3 : En → SRs := sApp 8 (eTup (aCons (eVar 10) (aCons (eVar 11) (aCons (eAp f__law_amount (aCons (eVar 0) (aCons (e2 dAdd (eVar 9) (eC (.int 1))) (aCons (eVar 3) (aNil))))) (aNil)))))
def st__law_numbers_4 : En → SRs := sIf (t2 cLt (eAp f__law_mix (aCons (eVar 0) (aCons (eVar 9) (aCons (eC (.int 4)) (aNil))))) (eVar 4)) (sSeq (st__law_numbers_3) (sNil)) (sNil)
def bl__law_numbers_2 : En → SRs := sSeq (sSet 9 (e2 dAdd (eVar 9) (eC (.int 2)))) (sSeq (st__law_numbers_4) (sNil))
def bl__law_numbers_3 : En → SRs := sSeq (sFor (eR2 (e2 dAdd (eVar 10) (eC (.int 1))) (eVar 2)) (gNm 11) bl__law_numbers_2) (sNil)
def v__law_numbers : En → SRs := sSeq (sSetF 5 (aNil)) (sSeq (sFor (eR1 (eVar 2)) (gNm 6) bl__law_numbers_1) (sSeq (sSetF 8 (aNil)) (sSeq (sSet 9 (e2 dAdd (eVar 1) (e2 dMul (eC (.int 3)) (eVar 2)))) (sSeq (sFor (eR1 (eVar 2)) (gNm 10) bl__law_numbers_3) (sSeq (sFz 8 (sFz 5 (sRet (eTup (aCons (eVar 5) (aCons (eVar 8) (aNil))))))) (sNil))))))
def f__law_numbers : List Da → R Da := runF false v__law_numbers 12
theorem fv__law_numbers (T : Txt K mg) : FnV PySem.Challenge.pw_kerbcall_k27_checked_numbers w K mg base 3 "_law_numbers" 5 false f__law_numbers := by
  obtain ⟨fA, fd, F, hm, bd⟩ := T.d__law_numbers
  have sS : FnScope ["draws", "first", "many", "top", "thick", "singles", "k", "number", "pairs", "at", "i", "j"] ["draws", "first", "many", "top", "thick"] (defScope (topS 60)) := ⟨rfl, rfl, rfl, by decide +kernel, rfl, by decide +kernel, by decide +kernel⟩
  refine fnV_mk (nl := 12) F hm sS bd rfl rfl (by decide) fun cdv B out t G E gd rm => ?_
  have h64 := Nat.lt_of_le_of_lt (Nat.add_le_add_left (by decide : 64 ≤ 200) _) (Nat.lt_of_le_of_lt (Nat.add_le_add_right (Nat.le_add_right _ (16 * 2)) 200) rm.un)
  have h65 := Nat.lt_of_le_of_lt (Nat.add_le_add_left (by decide : 65 ≤ 200) _) (Nat.lt_of_le_of_lt (Nat.add_le_add_right (Nat.le_add_right _ (16 * 2)) 200) rm.un)
  have tk : Takes (cxOf (L2.CX PySem.Challenge.pw_kerbcall_k27_checked_numbers w) PySem.Challenge.pw_kerbcall_k27_checked_numbers w K mg base ["draws", "first", "many", "top", "thick", "singles", "k", "number", "pairs", "at", "i", "j"] "_law_numbers" (defScope (topS 60)) fA cdv B out t G E) (fun cls d _ H => E cls d H) := takes_of rfl rfl rfl rfl
  have po : PassesOwn (model PySem.Challenge.pw_kerbcall_k27_checked_numbers w) (B.deeper (envOfC "_law_numbers" (defScope (topS 60)) t.heap.objs.size fA cdv)) (cxOf (L2.CX PySem.Challenge.pw_kerbcall_k27_checked_numbers w) PySem.Challenge.pw_kerbcall_k27_checked_numbers w K mg base ["draws", "first", "many", "top", "thick", "singles", "k", "number", "pairs", "at", "i", "j"] "_law_numbers" (defScope (topS 60)) fA cdv B out t G E).env (cxOf (L2.CX PySem.Challenge.pw_kerbcall_k27_checked_numbers w) PySem.Challenge.pw_kerbcall_k27_checked_numbers w K mg base ["draws", "first", "many", "top", "thick", "singles", "k", "number", "pairs", "at", "i", "j"] "_law_numbers" (defScope (topS 60)) fA cdv B out t G E).xe := passes_of (X := cxOf (L2.CX PySem.Challenge.pw_kerbcall_k27_checked_numbers w) PySem.Challenge.pw_kerbcall_k27_checked_numbers w K mg base ["draws", "first", "many", "top", "thick", "singles", "k", "number", "pairs", "at", "i", "j"] "_law_numbers" (defScope (topS 60)) fA cdv B out t G E) rfl
  exact (bv_cons (sv_setF (i := 5) sS.nd rfl (.inl rfl) (ef_lst av_nil)) (bv_cons (sv_for po rfl (iv_rng1 (by rfl) T.m_range (ev_var (pv 2))) (gv_name sS.nd rfl (.inl rfl)) (bv_cons (sv_set (i := 7) sS.nd rfl (.inl rfl) (ev_call (fv__law_amount T) (rm.mono (by decide)) gd tk (by rfl) (av_cons (ev_var (pv 0)) (av_cons (ev_add (ev_var (pv 1)) (ev_mul ev_int (ev_var (pv 6)))) (av_cons (ev_var (pv 3)) av_nil))))) (bv_cons (sv_app (pv 5) (ev_ix (EF.v (ef_lst (av_cons ev_int (av_cons (ev_div (ev_var (pv 7)) ev_int) (av_cons (ev_div (ev_var (pv 7)) ev_int) av_nil))))) (ev_call (fv__law_mix T) (rm.mono (by decide)) gd tk (by rfl) (av_cons (ev_var (pv 0)) (av_cons (ev_add (ev_add (ev_var (pv 1)) (ev_mul ev_int (ev_var (pv 6)))) ev_int) (av_cons ev_int av_nil)))) (fun _ _ => rfl))) bv_nil))) (bv_cons (sv_setF (i := 8) sS.nd rfl (.inl rfl) (ef_lst av_nil)) (bv_cons (sv_set (i := 9) sS.nd rfl (.inl rfl) (ev_add (ev_var (pv 1)) (ev_mul ev_int (ev_var (pv 2))))) (bv_cons (sv_for po rfl (iv_rng1 (by rfl) T.m_range (ev_var (pv 2))) (gv_name sS.nd rfl (.inl rfl)) (bv_cons (sv_for po rfl (iv_rng2 (by rfl) T.m_range (ev_add (ev_var (pv 10)) ev_int) (ev_var (pv 2))) (gv_name sS.nd rfl (.inl rfl)) (bv_cons (sv_set (i := 9) sS.nd rfl (.inl rfl) (ev_add (ev_var (pv 9)) ev_int)) (bv_cons (sv_if (tv_cmp cm2_I op_lt (ev_call (fv__law_mix T) (rm.mono (by decide)) gd tk (by rfl) (av_cons (ev_var (pv 0)) (av_cons (ev_var (pv 9)) (av_cons ev_int av_nil)))) (ev_var (pv 4)) (nomark _)) (bv_cons (sv_app (pv 8) (ev_tup (av_cons (ev_var (pv 10)) (av_cons (ev_var (pv 11)) (av_cons (ev_call (fv__law_amount T) (rm.mono (by decide)) gd tk (by rfl) (av_cons (ev_var (pv 0)) (av_cons (ev_add (ev_var (pv 9)) ev_int) (av_cons (ev_var (pv 3)) av_nil)))) av_nil))))) bv_nil) bv_nil) bv_nil))) bv_nil)) (bv_cons (sv_fz (i := 8) (sv_fz (i := 5) (sv_ret (ev_tup (av_cons (ev_var (pv 5)) (av_cons (ev_var (pv 8)) av_nil)))))) bv_nil))))))
/-! _law_same(actual, due): 0 actual, 1 due, 2 k -/
def bl__law_same_1 (rec : List Da → R Da) : En → SRs := sSeq (sIf (tNo (eT (eAp rec (aCons (e2 dIx (eVar 0) (eVar 2)) (aCons (e2 dIx (eVar 1) (eVar 2)) (aNil)))))) (sSeq (sRet (eC (.bool false))) (sNil)) (sNil)) (sNil)
def bl__law_same_2 (rec : List Da → R Da) : En → SRs := sSeq (sIf (tOr' (t2 qNe (e1 (isTy "tuple") (eVar 1)) (e1 (isTy "tuple") (eVar 0))) (t2 qNe (e1 (isTy "list") (eVar 1)) (e1 (isTy "list") (eVar 0)))) (sSeq (sRet (eC (.bool false))) (sNil)) (sNil)) (sSeq (sIf (t2 qNe (eAp gLen (aCons (eVar 0) (aNil))) (eAp gLen (aCons (eVar 1) (aNil)))) (sSeq (sRet (eC (.bool false))) (sNil)) (sNil)) (sSeq (sFor (eR1 (eAp gLen (aCons (eVar 1) (aNil)))) (gNm 2) (bl__law_same_1 rec)) (sSeq (sRet (eC (.bool true))) (sNil))))
def v__law_same (rec : List Da → R Da) : En → SRs := sSeq (sIf (t2 cIsN (eVar 1) (eC .none)) (sSeq (sRet (eB (t2 cIsN (eVar 0) (eC .none)))) (sNil)) (sNil)) (sSeq (sIf (tOr' (eT (e1 (isTy "tuple") (eVar 1))) (eT (e1 (isTy "list") (eVar 1)))) ((bl__law_same_2 rec)) (sNil)) (sSeq (sIf (tOr' (t2 qNe (e1 (isTy "bool") (eVar 1)) (e1 (isTy "bool") (eVar 0))) (t2 qNe (e1 (isTy "int") (eVar 1)) (e1 (isTy "int") (eVar 0)))) (sSeq (sRet (eC (.bool false))) (sNil)) (sNil)) (sSeq (sIf (t2 qNe (e1 (isTy "str") (eVar 1)) (e1 (isTy "str") (eVar 0))) (sSeq (sRet (eC (.bool false))) (sNil)) (sNil)) (sSeq (sRet (eB (t2 qEq (eVar 0) (eVar 1)))) (sNil)))))
def fl__law_same : Nat → List Da → R Da
  | 0 => fun _ => .bad
  | n + 1 => runF false (v__law_same (fl__law_same n)) 3
theorem fvl__law_same (T : Txt K mg) : ∀ n, FnV PySem.Challenge.pw_kerbcall_k27_checked_numbers w K mg base (0 + n) "_law_same" 2 false (fl__law_same n)
  | 0 => by
    obtain ⟨fA, fd, F, hm, bd⟩ := T.d__law_same
    exact fnV_bad F hm bd rfl
  | n + 1 => by
    have ih := fvl__law_same T n
    obtain ⟨fA, fd, F, hm, bd⟩ := T.d__law_same
    have sS : FnScope ["actual", "due", "k"] ["actual", "due"] (defScope (topS 57)) := ⟨rfl, rfl, rfl, by decide +kernel, rfl, by decide +kernel, by decide +kernel⟩
    refine fnV_mk (k := 0 + n) (nl := 3) F hm sS bd rfl rfl (by decide) fun cdv B out t G E gd rm => ?_
    have h64 := Nat.lt_of_le_of_lt (Nat.add_le_add_left (by decide : 64 ≤ 200) _) (Nat.lt_of_le_of_lt (Nat.add_le_add_right (Nat.le_add_right _ (16 * (0 + n))) 200) rm.un)
    have h65 := Nat.lt_of_le_of_lt (Nat.add_le_add_left (by decide : 65 ≤ 200) _) (Nat.lt_of_le_of_lt (Nat.add_le_add_right (Nat.le_add_right _ (16 * (0 + n))) 200) rm.un)
    have tk : Takes (cxOf (L2.CX PySem.Challenge.pw_kerbcall_k27_checked_numbers w) PySem.Challenge.pw_kerbcall_k27_checked_numbers w K mg base ["actual", "due", "k"] "_law_same" (defScope (topS 57)) fA cdv B out t G E) (fun cls d _ H => E cls d H) := takes_of rfl rfl rfl rfl
    have po : PassesOwn (model PySem.Challenge.pw_kerbcall_k27_checked_numbers w) (B.deeper (envOfC "_law_same" (defScope (topS 57)) t.heap.objs.size fA cdv)) (cxOf (L2.CX PySem.Challenge.pw_kerbcall_k27_checked_numbers w) PySem.Challenge.pw_kerbcall_k27_checked_numbers w K mg base ["actual", "due", "k"] "_law_same" (defScope (topS 57)) fA cdv B out t G E).env (cxOf (L2.CX PySem.Challenge.pw_kerbcall_k27_checked_numbers w) PySem.Challenge.pw_kerbcall_k27_checked_numbers w K mg base ["actual", "due", "k"] "_law_same" (defScope (topS 57)) fA cdv B out t G E).xe := passes_of (X := cxOf (L2.CX PySem.Challenge.pw_kerbcall_k27_checked_numbers w) PySem.Challenge.pw_kerbcall_k27_checked_numbers w K mg base ["actual", "due", "k"] "_law_same" (defScope (topS 57)) fA cdv B out t G E) rfl
    exact (bv_cons (sv_if (tv_cmp cm2_isN op_isN (ev_var (pv 1)) ev_non (nomark _)) (bv_cons (sv_ret (ev_cmp cm2_isN op_isN (ev_var (pv 0)) ev_non (nomark _))) bv_nil) bv_nil) (bv_cons (sv_if (WV.t (wv_or (tv_val (ev_isTy (by rfl) T.m_isinstance (by rfl) T.m_tuple (by decide +kernel) (ev_var (pv 1)))) (wv_or1 (tv_val (ev_isTy (by rfl) T.m_isinstance (by rfl) T.m_list (by decide +kernel) (ev_var (pv 1))))))) (bv_cons (sv_if (WV.t (wv_or (tv_cmp cm2_neQ (op_neQ h64) (ev_isTy (by rfl) T.m_isinstance (by rfl) T.m_tuple (by decide +kernel) (ev_var (pv 1))) (ev_isTy (by rfl) T.m_isinstance (by rfl) T.m_tuple (by decide +kernel) (ev_var (pv 0))) (nomark _)) (wv_or1 (tv_cmp cm2_neQ (op_neQ h64) (ev_isTy (by rfl) T.m_isinstance (by rfl) T.m_list (by decide +kernel) (ev_var (pv 1))) (ev_isTy (by rfl) T.m_isinstance (by rfl) T.m_list (by decide +kernel) (ev_var (pv 0))) (nomark _))))) (bv_cons (sv_ret ev_bl) bv_nil) bv_nil) (bv_cons (sv_if (tv_cmp cm2_neQ (op_neQ h64) (ev_callB cs_len call_len (by rfl) T.m_len (by decide +kernel) (av_cons (ev_var (pv 0)) av_nil)) (ev_callB cs_len call_len (by rfl) T.m_len (by decide +kernel) (av_cons (ev_var (pv 1)) av_nil)) (nomark _)) (bv_cons (sv_ret ev_bl) bv_nil) bv_nil) (bv_cons (sv_for po rfl (iv_rng1 (by rfl) T.m_range (ev_callB cs_len call_len (by rfl) T.m_len (by decide +kernel) (av_cons (ev_var (pv 1)) av_nil))) (gv_name sS.nd rfl (.inl rfl)) (bv_cons (sv_if (tv_not (tv_val (ev_call ih rm gd tk (by rfl) (av_cons (ev_ix (ev_var (pv 0)) (ev_var (pv 2)) (fun _ _ => rfl)) (av_cons (ev_ix (ev_var (pv 1)) (ev_var (pv 2)) (fun _ _ => rfl)) av_nil))))) (bv_cons (sv_ret ev_bl) bv_nil) bv_nil) bv_nil)) (bv_cons (sv_ret ev_bl) bv_nil)))) bv_nil) (bv_cons (sv_if (WV.t (wv_or (tv_cmp cm2_neQ (op_neQ h64) (ev_isTy (by rfl) T.m_isinstance (by rfl) T.m_bool (by decide +kernel) (ev_var (pv 1))) (ev_isTy (by rfl) T.m_isinstance (by rfl) T.m_bool (by decide +kernel) (ev_var (pv 0))) (nomark _)) (wv_or1 (tv_cmp cm2_neQ (op_neQ h64) (ev_isTy (by rfl) T.m_isinstance (by rfl) T.m_int (by decide +kernel) (ev_var (pv 1))) (ev_isTy (by rfl) T.m_isinstance (by rfl) T.m_int (by decide +kernel) (ev_var (pv 0))) (nomark _))))) (bv_cons (sv_ret ev_bl) bv_nil) bv_nil) (bv_cons (sv_if (tv_cmp cm2_neQ (op_neQ h64) (ev_isTy (by rfl) T.m_isinstance (by rfl) T.m_str (by decide +kernel) (ev_var (pv 1))) (ev_isTy (by rfl) T.m_isinstance (by rfl) T.m_str (by decide +kernel) (ev_var (pv 0))) (nomark _)) (bv_cons (sv_ret ev_bl) bv_nil) bv_nil) (bv_cons (sv_ret (ev_cmp cm2_eqQ (op_eqQ h64) (ev_var (pv 0)) (ev_var (pv 1)) (nomark _))) bv_nil)))))
def f__law_same : List Da → R Da := fl__law_same 8
theorem fv__law_same (T : Txt K mg) : FnV PySem.Challenge.pw_kerbcall_k27_checked_numbers w K mg base 8 "_law_same" 2 false f__law_same := fvl__law_same T 8
/-! check_many(many, most): 0 many, 1 most -/
def v_check_many : En → SRs := sSeq (sIf (t2 cGt (eVar 0) (eVar 1)) (sSeq (sRaise "TooMany" (eVar 0)) (sNil)) (sNil)) (sNil)
def f_check_many : List Da → R Da := runF false v_check_many 2
theorem fv_check_many (T : Txt K mg) : FnV PySem.Challenge.pw_kerbcall_k27_checked_numbers w K mg base 1 "check_many" 2 false f_check_many := by
  obtain ⟨fA, fd, F, hm, bd⟩ := T.d_check_many
  have sS : FnScope ["many", "most"] ["many", "most"] (defScope (topS 11)) := ⟨rfl, rfl, rfl, by decide +kernel, rfl, by decide +kernel, by decide +kernel⟩
  refine fnV_mk (nl := 2) F hm sS bd rfl rfl (by decide) fun cdv B out t G E gd rm => ?_
  have h64 := Nat.lt_of_le_of_lt (Nat.add_le_add_left (by decide : 64 ≤ 200) _) (Nat.lt_of_le_of_lt (Nat.add_le_add_right (Nat.le_add_right _ (16 * 0)) 200) rm.un)
  have h65 := Nat.lt_of_le_of_lt (Nat.add_le_add_left (by decide : 65 ≤ 200) _) (Nat.lt_of_le_of_lt (Nat.add_le_add_right (Nat.le_add_right _ (16 * 0)) 200) rm.un)
  have tk : Takes (cxOf (L2.CX PySem.Challenge.pw_kerbcall_k27_checked_numbers w) PySem.Challenge.pw_kerbcall_k27_checked_numbers w K mg base ["many", "most"] "check_many" (defScope (topS 11)) fA cdv B out t G E) (fun cls d _ H => E cls d H) := takes_of rfl rfl rfl rfl
  have po : PassesOwn (model PySem.Challenge.pw_kerbcall_k27_checked_numbers w) (B.deeper (envOfC "check_many" (defScope (topS 11)) t.heap.objs.size fA cdv)) (cxOf (L2.CX PySem.Challenge.pw_kerbcall_k27_checked_numbers w) PySem.Challenge.pw_kerbcall_k27_checked_numbers w K mg base ["many", "most"] "check_many" (defScope (topS 11)) fA cdv B out t G E).env (cxOf (L2.CX PySem.Challenge.pw_kerbcall_k27_checked_numbers w) PySem.Challenge.pw_kerbcall_k27_checked_numbers w K mg base ["many", "most"] "check_many" (defScope (topS 11)) fA cdv B out t G E).xe := passes_of (X := cxOf (L2.CX PySem.Challenge.pw_kerbcall_k27_checked_numbers w) PySem.Challenge.pw_kerbcall_k27_checked_numbers w K mg base ["many", "most"] "check_many" (defScope (topS 11)) fA cdv B out t G E) rfl
  exact (bv_cons (sv_if (tv_cmp cm2_I op_gt (ev_var (pv 0)) (ev_var (pv 1)) (nomark _)) (bv_cons (sv_raise (k := 0) rfl T.krs.choose_spec.choose_spec (by decide) (rm.mono (by decide)) tk (ev_var (pv 0)) (by rfl)) bv_nil) bv_nil) bv_nil)
/-! check_numbers(numbers): 0 numbers, 1 singles, 2 pairs, 3 rider, 4 number, 5 last, 6 at, 7 one, 8 two, 9 right -/
def st_check_numbers_1 : En → SRs := sIf (tNo (tCh (eC (.int 0)) (cN cLe (eVar 4) (c1 cLe (eC (.int 1000000000)))))) (sSeq (sRaise "BadNumbers" (eVar 3)) (sNil)) (sNil)
def bl_check_numbers_1 : En → SRs := sSeq (st_check_numbers_1) (sNil)
def st_check_numbers_2 : En → SRs := sSet 9 (eB (tAn (eT (eB (tCh (eC (.int 0)) (cN cLe (eVar 7) (cN cLt (eVar 8) (c1 cLt (eAp gLen (aCons (eVar 1) (aNil))))))))) (eT (eB (tCh (eC (.int 0)) (cN cLe (eVar 4) (c1 cLe (eC (.int 1000000000)))))))))
def st_check_numbers_3 : En → SRs := sIf (tOr' (tNo (eT (eVar 9))) (t2 cLeP (eTup (aCons (eVar 7) (aCons (eVar 8) (aNil)))) (eVar 5))) (sSeq (sRaise "BadNumbers" (e2 dAdd (eAp gLen (aCons (eVar 1) (aNil))) (eVar 6))) (sNil)) (sNil)
def bl_check_numbers_2 : En → SRs := sSeq (st_check_numbers_2) (sSeq (st_check_numbers_3) (sSeq (sSet 5 (eTup (aCons (eVar 7) (aCons (eVar 8) (aNil))))) (sNil)))
def st_check_numbers_4 : En → SRs := sDo (eAp f_check_many (aCons (eAp gLen (aCons (eVar 1) (aNil))) (aCons (eC (.int 40)) (aNil))))
def st_check_numbers_5 : En → SRs := sFor (eEnum (eL (eVar 1))) (gTp 2 (gsCons (gNm 3) (gsCons (gNm 4) (gsNil)))) bl_check_numbers_1
def st_check_numbers_6 : En → SRs := sSet 5 (eTup (aCons (e1 dNeg (eC (.int 1))) (aCons (e1 dNeg (eC (.int 1))) (aNil))))
def st_check_numbers_7 : En → SRs := sFor (eEnum (eL (eVar 2))) (gTp 2 (gsCons (gNm 6) (gsCons (gTp 3 (gsCons (gNm 7) (gsCons (gNm 8) (gsCons (gNm 4) (gsNil))))) (gsNil)))) bl_check_numbers_2
def v_check_numbers : En → SRs := sSeq (sPat (gTp 2 (gsCons (gNm 1) (gsCons (gNm 2) (gsNil)))) (eVar 0)) (sSeq (st_check_numbers_4) (sSeq (st_check_numbers_5) (sSeq (st_check_numbers_6) (sSeq (st_check_numbers_7) (sNil)))))
def f_check_numbers : List Da → R Da := runF false v_check_numbers 10
theorem fv_check_numbers (T : Txt K mg) : FnV PySem.Challenge.pw_kerbcall_k27_checked_numbers w K mg base 2 "check_numbers" 1 false f_check_numbers := by
  obtain ⟨fA, fd, F, hm, bd⟩ := T.d_check_numbers
  have sS : FnScope ["numbers", "singles", "pairs", "rider", "number", "last", "at", "one", "two", "right"] ["numbers"] (defScope (topS 12)) := ⟨rfl, rfl, rfl, by decide +kernel, rfl, by decide +kernel, by decide +kernel⟩
  refine fnV_mk (nl := 10) F hm sS bd rfl rfl (by decide) fun cdv B out t G E gd rm => ?_
  have h64 := Nat.lt_of_le_of_lt (Nat.add_le_add_left (by decide : 64 ≤ 200) _) (Nat.lt_of_le_of_lt (Nat.add_le_add_right (Nat.le_add_right _ (16 * 1)) 200) rm.un)
  have h65 := Nat.lt_of_le_of_lt (Nat.add_le_add_left (by decide : 65 ≤ 200) _) (Nat.lt_of_le_of_lt (Nat.add_le_add_right (Nat.le_add_right _ (16 * 1)) 200) rm.un)
  have tk : Takes (cxOf (L2.CX PySem.Challenge.pw_kerbcall_k27_checked_numbers w) PySem.Challenge.pw_kerbcall_k27_checked_numbers w K mg base ["numbers", "singles", "pairs", "rider", "number", "last", "at", "one", "two", "right"] "check_numbers" (defScope (topS 12)) fA cdv B out t G E) (fun cls d _ H => E cls d H) := takes_of rfl rfl rfl rfl
  have po : PassesOwn (model PySem.Challenge.pw_kerbcall_k27_checked_numbers w) (B.deeper (envOfC "check_numbers" (defScope (topS 12)) t.heap.objs.size fA cdv)) (cxOf (L2.CX PySem.Challenge.pw_kerbcall_k27_checked_numbers w) PySem.Challenge.pw_kerbcall_k27_checked_numbers w K mg base ["numbers", "singles", "pairs", "rider", "number", "last", "at", "one", "two", "right"] "check_numbers" (defScope (topS 12)) fA cdv B out t G E).env (cxOf (L2.CX PySem.Challenge.pw_kerbcall_k27_checked_numbers w) PySem.Challenge.pw_kerbcall_k27_checked_numbers w K mg base ["numbers", "singles", "pairs", "rider", "number", "last", "at", "one", "two", "right"] "check_numbers" (defScope (topS 12)) fA cdv B out t G E).xe := passes_of (X := cxOf (L2.CX PySem.Challenge.pw_kerbcall_k27_checked_numbers w) PySem.Challenge.pw_kerbcall_k27_checked_numbers w K mg base ["numbers", "singles", "pairs", "rider", "number", "last", "at", "one", "two", "right"] "check_numbers" (defScope (topS 12)) fA cdv B out t G E) rfl
  exact (bv_cons (sv_pat (ev_var (pv 0)) (gv_tup rfl (gsv_cons (gv_name sS.nd rfl (.inl rfl)) (gsv_cons (gv_name sS.nd rfl (.inl rfl)) gsv_nil)))) (bv_cons (sv_expr (c := false) (ev_call (fv_check_many T) (rm.mono (by decide)) gd tk (by rfl) (av_cons (ev_callB cs_len call_len (by rfl) T.m_len (by decide +kernel) (av_cons (ev_var (pv 1)) av_nil)) (av_cons (ev_globI (by rfl) T.c_MOST_RIDERS.choose_spec) av_nil)))) (bv_cons (sv_for po rfl (iv_enum (by rfl) T.m_enumerate (EV.l (ev_var (pv 1)))) (gv_tup rfl (gsv_cons (gv_name sS.nd rfl (.inl rfl)) (gsv_cons (gv_name sS.nd rfl (.inl rfl)) gsv_nil))) (bv_cons (sv_if (tv_not (tv_chain ev_int (tc_link cm2_I op_le (ev_var (pv 4)) (tc_last cm2_I op_le (ev_globI (by rfl) T.c_MOST_NUMBER.choose_spec))))) (bv_cons (sv_raise (k := 0) rfl T.krs.choose_spec.choose_spec (by decide) (rm.mono (by decide)) tk (ev_var (pv 3)) (by rfl)) bv_nil) bv_nil) bv_nil)) (bv_cons (sv_set (i := 5) sS.nd rfl (.inl rfl) (ev_tup (av_cons (ev_neg ev_int) (av_cons (ev_neg ev_int) av_nil)))) (bv_cons (sv_for po rfl (iv_enum (by rfl) T.m_enumerate (EV.l (ev_var (pv 2)))) (gv_tup rfl (gsv_cons (gv_name sS.nd rfl (.inl rfl)) (gsv_cons (gv_tup rfl (gsv_cons (gv_name sS.nd rfl (.inl rfl)) (gsv_cons (gv_name sS.nd rfl (.inl rfl)) (gsv_cons (gv_name sS.nd rfl (.inl rfl)) gsv_nil)))) gsv_nil))) (bv_cons (sv_set (i := 9) sS.nd rfl (.inl rfl) (ev_and (ev_chain ev_int (vc_link cm2_I op_le (ev_var (pv 7)) (vc_link cm2_I op_lt (ev_var (pv 8)) (vc_last cm2_I op_lt (ev_callB cs_len call_len (by rfl) T.m_len (by decide +kernel) (av_cons (ev_var (pv 1)) av_nil)))))) (ev_bone (ev_chain ev_int (vc_link cm2_I op_le (ev_var (pv 4)) (vc_last cm2_I op_le (ev_globI (by rfl) T.c_MOST_NUMBER.choose_spec))))))) (bv_cons (sv_if (WV.t (wv_or (tv_not (tv_val (ev_var (pv 9)))) (wv_or1 (tv_cmp cm2_leP (op_leT (Nat.lt_of_le_of_lt (Nat.le_add_right _ _) h64)) (ev_tup (av_cons (ev_var (pv 7)) (av_cons (ev_var (pv 8)) av_nil))) (ev_var (pv 5)) (nomark _))))) (bv_cons (sv_raise (k := 0) rfl T.krs.choose_spec.choose_spec (by decide) (rm.mono (by decide)) tk (ev_add (ev_callB cs_len call_len (by rfl) T.m_len (by decide +kernel) (av_cons (ev_var (pv 1)) av_nil)) (ev_var (pv 6))) (by rfl)) bv_nil) bv_nil) (bv_cons (sv_set (i := 5) sS.nd rfl (.inl rfl) (ev_tup (av_cons (ev_var (pv 7)) (av_cons (ev_var (pv 8)) av_nil)))) bv_nil)))) bv_nil)))))
/-! leaves(numbers, prices): 0 numbers, 1 prices, 2 singles, 3 pairs, 4 found, 5 rider, 6 number, 7 one, 8 two -/
def v_leaves : En → SRs := sSeq (sDo (eAp f_check_numbers (aCons (eVar 0) (aNil)))) (sSeq (sPat (gTp 2 (gsCons (gNm 2) (gsCons (gNm 3) (gsNil)))) (eVar 0)) (sSeq (sIf (t2 qNe (eAp gLen (aCons (eVar 1) (aNil))) (eAp gLen (aCons (eVar 2) (aNil)))) (sSeq (sRaise "WrongSize" (eAp gLen (aCons (eVar 1) (aNil)))) (sNil)) (sNil)) (sSeq (sSetF 4 (eLc [5, 6] (eEnum (eL (eVar 2))) (gTp 2 (gsCons (gNm 5) (gsCons (gNm 6) (gsNil)))) (t2 cLt (e2 dIx (eVar 1) (eVar 5)) (e2 dMul (eC (.int 2)) (eVar 6))) (eTup (aCons (eVar 5) (aNil))))) (sSeq (sDo (eBad)) (sSeq (sRet (eBad)) (sNil))))))
def f_leaves : List Da → R Da := runF false v_leaves 9
theorem fv_leaves (T : Txt K mg) : FnV PySem.Challenge.pw_kerbcall_k27_checked_numbers w K mg base 3 "leaves" 2 false f_leaves := by
  obtain ⟨fA, fd, F, hm, bd⟩ := T.d_leaves
  have sS : FnScope ["numbers", "prices", "singles", "pairs", "found", "rider", "number", "one", "two"] ["numbers", "prices"] (defScope (topS 53)) := ⟨rfl, rfl, rfl, by decide +kernel, rfl, by decide +kernel, by decide +kernel⟩
  refine fnV_mk (nl := 9) F hm sS bd rfl rfl (by decide) fun cdv B out t G E gd rm => ?_
  have h64 := Nat.lt_of_le_of_lt (Nat.add_le_add_left (by decide : 64 ≤ 200) _) (Nat.lt_of_le_of_lt (Nat.add_le_add_right (Nat.le_add_right _ (16 * 2)) 200) rm.un)
  have h65 := Nat.lt_of_le_of_lt (Nat.add_le_add_left (by decide : 65 ≤ 200) _) (Nat.lt_of_le_of_lt (Nat.add_le_add_right (Nat.le_add_right _ (16 * 2)) 200) rm.un)
  have tk : Takes (cxOf (L2.CX PySem.Challenge.pw_kerbcall_k27_checked_numbers w) PySem.Challenge.pw_kerbcall_k27_checked_numbers w K mg base ["numbers", "prices", "singles", "pairs", "found", "rider", "number", "one", "two"] "leaves" (defScope (topS 53)) fA cdv B out t G E) (fun cls d _ H => E cls d H) := takes_of rfl rfl rfl rfl
  have po : PassesOwn (model PySem.Challenge.pw_kerbcall_k27_checked_numbers w) (B.deeper (envOfC "leaves" (defScope (topS 53)) t.heap.objs.size fA cdv)) (cxOf (L2.CX PySem.Challenge.pw_kerbcall_k27_checked_numbers w) PySem.Challenge.pw_kerbcall_k27_checked_numbers w K mg base ["numbers", "prices", "singles", "pairs", "found", "rider", "number", "one", "two"] "leaves" (defScope (topS 53)) fA cdv B out t G E).env (cxOf (L2.CX PySem.Challenge.pw_kerbcall_k27_checked_numbers w) PySem.Challenge.pw_kerbcall_k27_checked_numbers w K mg base ["numbers", "prices", "singles", "pairs", "found", "rider", "number", "one", "two"] "leaves" (defScope (topS 53)) fA cdv B out t G E).xe := passes_of (X := cxOf (L2.CX PySem.Challenge.pw_kerbcall_k27_checked_numbers w) PySem.Challenge.pw_kerbcall_k27_checked_numbers w K mg base ["numbers", "prices", "singles", "pairs", "found", "rider", "number", "one", "two"] "leaves" (defScope (topS 53)) fA cdv B out t G E) rfl
  exact (bv_cons (sv_expr (c := false) (ev_call (fv_check_numbers T) (rm.mono (by decide)) gd tk (by rfl) (av_cons (ev_var (pv 0)) av_nil))) (bv_cons (sv_pat (ev_var (pv 0)) (gv_tup rfl (gsv_cons (gv_name sS.nd rfl (.inl rfl)) (gsv_cons (gv_name sS.nd rfl (.inl rfl)) gsv_nil)))) (bv_cons (sv_if (tv_cmp cm2_neQ (op_neQ h64) (ev_callB cs_len call_len (by rfl) T.m_len (by decide +kernel) (av_cons (ev_var (pv 1)) av_nil)) (ev_callB cs_len call_len (by rfl) T.m_len (by decide +kernel) (av_cons (ev_var (pv 2)) av_nil)) (nomark _)) (bv_cons (sv_raise (k := 0) rfl T.krs.choose_spec.choose_spec (by decide) (rm.mono (by decide)) tk (ev_callB cs_len call_len (by rfl) T.m_len (by decide +kernel) (av_cons (ev_var (pv 1)) av_nil)) (by rfl)) bv_nil) bv_nil) (bv_cons (sv_setLc (i := 4) rfl sS.nd rfl rfl (by rfl) (iv_enum (by rfl) T.m_enumerate (ES.l (EV.s (ev_var (pv 2))))) (blkOk_by (own := [("rider", 5), ("number", 6)]) (by first | rfl | kernel_rfl)) (by decide) (fun _ _ _ _ _ => (gv_tup rfl (gsv_cons (gv_name sS.nd rfl (.inl rfl)) (gsv_cons (gv_name sS.nd rfl (.inl rfl)) gsv_nil)))) (fun _ _ _ _ _ => (iv_one (tv_cmp cm2_I op_lt (ev_ix (ev_var (pv 1)) (ev_var (pv 5)) (fun _ _ => rfl)) (ev_mul ev_int (ev_var (pv 6))) (nomark _)))) (fun _ _ _ _ _ => (ev_tup (av_cons (ev_var (pv 5)) av_nil)))) (bv_cons (sv_expr (c := false) ev_bad) (bv_cons (sv_ret ev_bad) bv_nil))))))
/-! pairing(numbers): 0 numbers -/
def v_pairing : En → SRs := sSeq (sDo (eAp f_check_numbers (aCons (eVar 0) (aNil)))) (sSeq (sBad) (sNil))
def f_pairing : List Da → R Da := runF true v_pairing 1
theorem fv_pairing (T : Txt K mg) : FnV PySem.Challenge.pw_kerbcall_k27_checked_numbers w K mg base 3 "pairing" 1 true f_pairing := by
  obtain ⟨fA, fd, F, hm, bd⟩ := T.d_pairing
  have sS : FnScope ["numbers"] ["numbers"] (defScope (topS 23)) := ⟨rfl, rfl, rfl, by decide +kernel, rfl, by decide +kernel, by decide +kernel⟩
  refine fnV_mk (nl := 1) F hm sS bd rfl rfl (by decide) fun cdv B out t G E gd rm => ?_
  have h64 := Nat.lt_of_le_of_lt (Nat.add_le_add_left (by decide : 64 ≤ 200) _) (Nat.lt_of_le_of_lt (Nat.add_le_add_right (Nat.le_add_right _ (16 * 2)) 200) rm.un)
  have h65 := Nat.lt_of_le_of_lt (Nat.add_le_add_left (by decide : 65 ≤ 200) _) (Nat.lt_of_le_of_lt (Nat.add_le_add_right (Nat.le_add_right _ (16 * 2)) 200) rm.un)
  have tk : Takes (cxOf (L2.CX PySem.Challenge.pw_kerbcall_k27_checked_numbers w) PySem.Challenge.pw_kerbcall_k27_checked_numbers w K mg base ["numbers"] "pairing" (defScope (topS 23)) fA cdv B out t G E) (fun cls d _ H => E cls d H) := takes_of rfl rfl rfl rfl
  have po : PassesOwn (model PySem.Challenge.pw_kerbcall_k27_checked_numbers w) (B.deeper (envOfC "pairing" (defScope (topS 23)) t.heap.objs.size fA cdv)) (cxOf (L2.CX PySem.Challenge.pw_kerbcall_k27_checked_numbers w) PySem.Challenge.pw_kerbcall_k27_checked_numbers w K mg base ["numbers"] "pairing" (defScope (topS 23)) fA cdv B out t G E).env (cxOf (L2.CX PySem.Challenge.pw_kerbcall_k27_checked_numbers w) PySem.Challenge.pw_kerbcall_k27_checked_numbers w K mg base ["numbers"] "pairing" (defScope (topS 23)) fA cdv B out t G E).xe := passes_of (X := cxOf (L2.CX PySem.Challenge.pw_kerbcall_k27_checked_numbers w) PySem.Challenge.pw_kerbcall_k27_checked_numbers w K mg base ["numbers"] "pairing" (defScope (topS 23)) fA cdv B out t G E) rfl
  exact (bv_cons (sv_expr (c := false) (ev_call (fv_check_numbers T) (rm.mono (by decide)) gd tk (by rfl) (av_cons (ev_var (pv 0)) av_nil))) (bv_cons sv_bad bv_nil))
/-! greatest_sum(numbers): 0 numbers, 1 table -/
def v_greatest_sum : En → SRs := sSeq (sDo (eAp f_check_numbers (aCons (eVar 0) (aNil)))) (sSeq (sSet 1 (eBad)) (sSeq (sRet (eBad)) (sNil)))
def f_greatest_sum : List Da → R Da := runF false v_greatest_sum 2
theorem fv_greatest_sum (T : Txt K mg) : FnV PySem.Challenge.pw_kerbcall_k27_checked_numbers w K mg base 3 "greatest_sum" 1 false f_greatest_sum := by
  obtain ⟨fA, fd, F, hm, bd⟩ := T.d_greatest_sum
  have sS : FnScope ["numbers", "table"] ["numbers"] (defScope (topS 27)) := ⟨rfl, rfl, rfl, by decide +kernel, rfl, by decide +kernel, by decide +kernel⟩
  refine fnV_mk (nl := 2) F hm sS bd rfl rfl (by decide) fun cdv B out t G E gd rm => ?_
  have h64 := Nat.lt_of_le_of_lt (Nat.add_le_add_left (by decide : 64 ≤ 200) _) (Nat.lt_of_le_of_lt (Nat.add_le_add_right (Nat.le_add_right _ (16 * 2)) 200) rm.un)
  have h65 := Nat.lt_of_le_of_lt (Nat.add_le_add_left (by decide : 65 ≤ 200) _) (Nat.lt_of_le_of_lt (Nat.add_le_add_right (Nat.le_add_right _ (16 * 2)) 200) rm.un)
  have tk : Takes (cxOf (L2.CX PySem.Challenge.pw_kerbcall_k27_checked_numbers w) PySem.Challenge.pw_kerbcall_k27_checked_numbers w K mg base ["numbers", "table"] "greatest_sum" (defScope (topS 27)) fA cdv B out t G E) (fun cls d _ H => E cls d H) := takes_of rfl rfl rfl rfl
  have po : PassesOwn (model PySem.Challenge.pw_kerbcall_k27_checked_numbers w) (B.deeper (envOfC "greatest_sum" (defScope (topS 27)) t.heap.objs.size fA cdv)) (cxOf (L2.CX PySem.Challenge.pw_kerbcall_k27_checked_numbers w) PySem.Challenge.pw_kerbcall_k27_checked_numbers w K mg base ["numbers", "table"] "greatest_sum" (defScope (topS 27)) fA cdv B out t G E).env (cxOf (L2.CX PySem.Challenge.pw_kerbcall_k27_checked_numbers w) PySem.Challenge.pw_kerbcall_k27_checked_numbers w K mg base ["numbers", "table"] "greatest_sum" (defScope (topS 27)) fA cdv B out t G E).xe := passes_of (X := cxOf (L2.CX PySem.Challenge.pw_kerbcall_k27_checked_numbers w) PySem.Challenge.pw_kerbcall_k27_checked_numbers w K mg base ["numbers", "table"] "greatest_sum" (defScope (topS 27)) fA cdv B out t G E) rfl
  exact (bv_cons (sv_expr (c := false) (ev_call (fv_check_numbers T) (rm.mono (by decide)) gd tk (by rfl) (av_cons (ev_var (pv 0)) av_nil))) (bv_cons (sv_set (i := 1) sS.nd rfl (.inl rfl) ev_bad) (bv_cons (sv_ret ev_bad) bv_nil)))
/-! pairing_sum(numbers, pairs): 0 numbers, 1 pairs, 2 table, 3 at -/
def v_pairing_sum : En → SRs := sSeq (sDo (eAp f_check_numbers (aCons (eVar 0) (aNil)))) (sSeq (sSet 2 (eBad)) (sSeq (sSet 3 (eBad)) (sSeq (sIf (t2 cNotN (eVar 3) (eC .none)) (sSeq (sRaise "BadPairing" (eVar 3)) (sNil)) (sNil)) (sSeq (sRet (eBad)) (sNil)))))
def f_pairing_sum : List Da → R Da := runF false v_pairing_sum 4
theorem fv_pairing_sum (T : Txt K mg) : FnV PySem.Challenge.pw_kerbcall_k27_checked_numbers w K mg base 3 "pairing_sum" 2 false f_pairing_sum := by
  obtain ⟨fA, fd, F, hm, bd⟩ := T.d_pairing_sum
  have sS : FnScope ["numbers", "pairs", "table", "at"] ["numbers", "pairs"] (defScope (topS 26)) := ⟨rfl, rfl, rfl, by decide +kernel, rfl, by decide +kernel, by decide +kernel⟩
  refine fnV_mk (nl := 4) F hm sS bd rfl rfl (by decide) fun cdv B out t G E gd rm => ?_
  have h64 := Nat.lt_of_le_of_lt (Nat.add_le_add_left (by decide : 64 ≤ 200) _) (Nat.lt_of_le_of_lt (Nat.add_le_add_right (Nat.le_add_right _ (16 * 2)) 200) rm.un)
  have h65 := Nat.lt_of_le_of_lt (Nat.add_le_add_left (by decide : 65 ≤ 200) _) (Nat.lt_of_le_of_lt (Nat.add_le_add_right (Nat.le_add_right _ (16 * 2)) 200) rm.un)
  have tk : Takes (cxOf (L2.CX PySem.Challenge.pw_kerbcall_k27_checked_numbers w) PySem.Challenge.pw_kerbcall_k27_checked_numbers w K mg base ["numbers", "pairs", "table", "at"] "pairing_sum" (defScope (topS 26)) fA cdv B out t G E) (fun cls d _ H => E cls d H) := takes_of rfl rfl rfl rfl
  have po : PassesOwn (model PySem.Challenge.pw_kerbcall_k27_checked_numbers w) (B.deeper (envOfC "pairing_sum" (defScope (topS 26)) t.heap.objs.size fA cdv)) (cxOf (L2.CX PySem.Challenge.pw_kerbcall_k27_checked_numbers w) PySem.Challenge.pw_kerbcall_k27_checked_numbers w K mg base ["numbers", "pairs", "table", "at"] "pairing_sum" (defScope (topS 26)) fA cdv B out t G E).env (cxOf (L2.CX PySem.Challenge.pw_kerbcall_k27_checked_numbers w) PySem.Challenge.pw_kerbcall_k27_checked_numbers w K mg base ["numbers", "pairs", "table", "at"] "pairing_sum" (defScope (topS 26)) fA cdv B out t G E).xe := passes_of (X := cxOf (L2.CX PySem.Challenge.pw_kerbcall_k27_checked_numbers w) PySem.Challenge.pw_kerbcall_k27_checked_numbers w K mg base ["numbers", "pairs", "table", "at"] "pairing_sum" (defScope (topS 26)) fA cdv B out t G E) rfl
  exact (bv_cons (sv_expr (c := false) (ev_call (fv_check_numbers T) (rm.mono (by decide)) gd tk (by rfl) (av_cons (ev_var (pv 0)) av_nil))) (bv_cons (sv_set (i := 2) sS.nd rfl (.inl rfl) ev_bad) (bv_cons (sv_set (i := 3) sS.nd rfl (.inl rfl) ev_bad) (bv_cons (sv_if (tv_cmp cm2_notN op_notN (ev_var (pv 3)) ev_non (nomark _)) (bv_cons (sv_raise (k := 0) rfl T.krs.choose_spec.choose_spec (by decide) (rm.mono (by decide)) tk (ev_var (pv 3)) (by rfl)) bv_nil) bv_nil) (bv_cons (sv_ret ev_bad) bv_nil)))))
/-! pairing_paper(numbers): 0 numbers, 1 singles, 2 garden, 3 price, 4 single -/
def el_pairing_paper_1 : En → R Da := e2 dAdd (eVar 3) (e2 dMul (eC (.int 2)) (eVar 4))
def v_pairing_paper : En → SRs := sSeq (sDo (eAp f_check_numbers (aCons (eVar 0) (aNil)))) (sSeq (sSet 1 (e2 dIx (eVar 0) (eC (.int 0)))) (sSeq (sSet 2 (eBad)) (sSeq (sRet (eTup (aCons (eD (eLc [3, 4] (eZip (eL (eBad)) (eL (eVar 1))) (gTp 2 (gsCons (gNm 3) (gsCons (gNm 4) (gsNil)))) (tAll) (el_pairing_paper_1))) (aCons (eBad) (aNil))))) (sNil))))
def f_pairing_paper : List Da → R Da := runF false v_pairing_paper 5
theorem fv_pairing_paper (T : Txt K mg) : FnV PySem.Challenge.pw_kerbcall_k27_checked_numbers w K mg base 3 "pairing_paper" 1 false f_pairing_paper := by
  obtain ⟨fA, fd, F, hm, bd⟩ := T.d_pairing_paper
  have sS : FnScope ["numbers", "singles", "garden", "price", "single"] ["numbers"] (defScope (topS 28)) := ⟨rfl, rfl, rfl, by decide +kernel, rfl, by decide +kernel, by decide +kernel⟩
  refine fnV_mk (nl := 5) F hm sS bd rfl rfl (by decide) fun cdv B out t G E gd rm => ?_
  have h64 := Nat.lt_of_le_of_lt (Nat.add_le_add_left (by decide : 64 ≤ 200) _) (Nat.lt_of_le_of_lt (Nat.add_le_add_right (Nat.le_add_right _ (16 * 2)) 200) rm.un)
  have h65 := Nat.lt_of_le_of_lt (Nat.add_le_add_left (by decide : 65 ≤ 200) _) (Nat.lt_of_le_of_lt (Nat.add_le_add_right (Nat.le_add_right _ (16 * 2)) 200) rm.un)
  have tk : Takes (cxOf (L2.CX PySem.Challenge.pw_kerbcall_k27_checked_numbers w) PySem.Challenge.pw_kerbcall_k27_checked_numbers w K mg base ["numbers", "singles", "garden", "price", "single"] "pairing_paper" (defScope (topS 28)) fA cdv B out t G E) (fun cls d _ H => E cls d H) := takes_of rfl rfl rfl rfl
  have po : PassesOwn (model PySem.Challenge.pw_kerbcall_k27_checked_numbers w) (B.deeper (envOfC "pairing_paper" (defScope (topS 28)) t.heap.objs.size fA cdv)) (cxOf (L2.CX PySem.Challenge.pw_kerbcall_k27_checked_numbers w) PySem.Challenge.pw_kerbcall_k27_checked_numbers w K mg base ["numbers", "singles", "garden", "price", "single"] "pairing_paper" (defScope (topS 28)) fA cdv B out t G E).env (cxOf (L2.CX PySem.Challenge.pw_kerbcall_k27_checked_numbers w) PySem.Challenge.pw_kerbcall_k27_checked_numbers w K mg base ["numbers", "singles", "garden", "price", "single"] "pairing_paper" (defScope (topS 28)) fA cdv B out t G E).xe := passes_of (X := cxOf (L2.CX PySem.Challenge.pw_kerbcall_k27_checked_numbers w) PySem.Challenge.pw_kerbcall_k27_checked_numbers w K mg base ["numbers", "singles", "garden", "price", "single"] "pairing_paper" (defScope (topS 28)) fA cdv B out t G E) rfl
  exact (bv_cons (sv_expr (c := false) (ev_call (fv_check_numbers T) (rm.mono (by decide)) gd tk (by rfl) (av_cons (ev_var (pv 0)) av_nil))) (bv_cons (sv_set (i := 1) sS.nd rfl (.inl rfl) (ev_ix (ev_var (pv 0)) ev_int (fun _ _ => rfl))) (bv_cons (sv_set (i := 2) sS.nd rfl (.inl rfl) ev_bad) (bv_cons (sv_ret (ev_tup (av_cons (EF.v (ef_lc rfl sS.nd (iv_zip (by rfl) T.m_zip (ES.l (EV.s ev_bad)) (ES.l (EV.s (ev_var (pv 1))))) (blkOk_by (own := [("price", 3), ("single", 4)]) (by first | rfl | kernel_rfl)) (by decide) (fun _ _ _ _ _ => (gv_tup rfl (gsv_cons (gv_name sS.nd rfl (.inl rfl)) (gsv_cons (gv_name sS.nd rfl (.inl rfl)) gsv_nil)))) (fun _ _ _ _ _ => iv_all) (fun _ _ _ _ _ => (ev_add (ev_var (pv 3)) (ev_mul ev_int (ev_var (pv 4))))))) (av_cons ev_bad av_nil)))) bv_nil))))
/-! check_pairing(numbers, pairs, paper): 0 numbers, 1 pairs, 2 paper, 3 table, 4 prices, 5 sets, 6 bound -/
def v_check_pairing : En → SRs := sSeq (sDo (eAp f_check_numbers (aCons (eVar 0) (aNil)))) (sSeq (sSet 3 (eBad)) (sSeq (sPat (gTp 2 (gsCons (gNm 4) (gsCons (gNm 5) (gsNil)))) (eVar 2)) (sSeq (sIf (tOr' (t2 cNotN (eBad) (eC .none)) (tNo (eT (eBad)))) (sSeq (sRet (eC (.bool false))) (sNil)) (sNil)) (sSeq (sSet 6 (e2 dAdd (eAp gSum (aCons (eVar 4) (aNil))) (eAp gSum (aCons (eBad) (aNil))))) (sSeq (sRet (eB (t2 qEq (eVar 6) (e2 dMul (eC (.int 2)) (eBad))))) (sNil))))))
def f_check_pairing : List Da → R Da := runF false v_check_pairing 7
theorem fv_check_pairing (T : Txt K mg) : FnV PySem.Challenge.pw_kerbcall_k27_checked_numbers w K mg base 3 "check_pairing" 3 false f_check_pairing := by
  obtain ⟨fA, fd, F, hm, bd⟩ := T.d_check_pairing
  have sS : FnScope ["numbers", "pairs", "paper", "table", "prices", "sets", "bound"] ["numbers", "pairs", "paper"] (defScope (topS 31)) := ⟨rfl, rfl, rfl, by decide +kernel, rfl, by decide +kernel, by decide +kernel⟩
  refine fnV_mk (nl := 7) F hm sS bd rfl rfl (by decide) fun cdv B out t G E gd rm => ?_
  have h64 := Nat.lt_of_le_of_lt (Nat.add_le_add_left (by decide : 64 ≤ 200) _) (Nat.lt_of_le_of_lt (Nat.add_le_add_right (Nat.le_add_right _ (16 * 2)) 200) rm.un)
  have h65 := Nat.lt_of_le_of_lt (Nat.add_le_add_left (by decide : 65 ≤ 200) _) (Nat.lt_of_le_of_lt (Nat.add_le_add_right (Nat.le_add_right _ (16 * 2)) 200) rm.un)
  have tk : Takes (cxOf (L2.CX PySem.Challenge.pw_kerbcall_k27_checked_numbers w) PySem.Challenge.pw_kerbcall_k27_checked_numbers w K mg base ["numbers", "pairs", "paper", "table", "prices", "sets", "bound"] "check_pairing" (defScope (topS 31)) fA cdv B out t G E) (fun cls d _ H => E cls d H) := takes_of rfl rfl rfl rfl
  have po : PassesOwn (model PySem.Challenge.pw_kerbcall_k27_checked_numbers w) (B.deeper (envOfC "check_pairing" (defScope (topS 31)) t.heap.objs.size fA cdv)) (cxOf (L2.CX PySem.Challenge.pw_kerbcall_k27_checked_numbers w) PySem.Challenge.pw_kerbcall_k27_checked_numbers w K mg base ["numbers", "pairs", "paper", "table", "prices", "sets", "bound"] "check_pairing" (defScope (topS 31)) fA cdv B out t G E).env (cxOf (L2.CX PySem.Challenge.pw_kerbcall_k27_checked_numbers w) PySem.Challenge.pw_kerbcall_k27_checked_numbers w K mg base ["numbers", "pairs", "paper", "table", "prices", "sets", "bound"] "check_pairing" (defScope (topS 31)) fA cdv B out t G E).xe := passes_of (X := cxOf (L2.CX PySem.Challenge.pw_kerbcall_k27_checked_numbers w) PySem.Challenge.pw_kerbcall_k27_checked_numbers w K mg base ["numbers", "pairs", "paper", "table", "prices", "sets", "bound"] "check_pairing" (defScope (topS 31)) fA cdv B out t G E) rfl
  exact (bv_cons (sv_expr (c := false) (ev_call (fv_check_numbers T) (rm.mono (by decide)) gd tk (by rfl) (av_cons (ev_var (pv 0)) av_nil))) (bv_cons (sv_set (i := 3) sS.nd rfl (.inl rfl) ev_bad) (bv_cons (sv_pat (ev_var (pv 2)) (gv_tup rfl (gsv_cons (gv_name sS.nd rfl (.inl rfl)) (gsv_cons (gv_name sS.nd rfl (.inl rfl)) gsv_nil)))) (bv_cons (sv_if (WV.t (wv_or (tv_cmp cm2_notN op_notN ev_bad ev_non (nomark _)) (wv_or1 (tv_not (tv_val ev_bad))))) (bv_cons (sv_ret ev_bl) bv_nil) bv_nil) (bv_cons (sv_set (i := 6) sS.nd rfl (.inl rfl) (ev_add (ev_callB cs_sum (cr_sum (by rfl)) (by rfl) T.m_sum (by decide +kernel) (av_cons (ev_var (pv 4)) av_nil)) (ev_callB cs_sum (cr_sum (by rfl)) (by rfl) T.m_sum (by decide +kernel) (av_cons ev_bad av_nil)))) (bv_cons (sv_ret (ev_cmp cm2_eqQ (op_eqQ h64) (ev_var (pv 6)) (ev_mul ev_int ev_bad) (nomark _))) bv_nil))))))
/-! adds(numbers): 0 numbers, 1 whole, 2 singles, 3 pairs, 4 found, 5 rider, 6 others, 7 without, 8 one, 9 two, 10 number, 11 other -/
def el_adds_1 : En → R Da := eTup (aCons (eVar 8) (aCons (eVar 9) (aCons (eVar 10) (aNil))))
def el_adds_2 : En → R Da := eIf (t2 qEq (eVar 11) (eVar 5)) (eC (.int 0)) (eVar 10)
def bl_adds_1 : En → SRs := sSeq (sSetF 6 (eLc [8, 9, 10] (eL (eVar 3)) (gTp 3 (gsCons (gNm 8) (gsCons (gNm 9) (gsCons (gNm 10) (gsNil))))) (t2 cNotIn (eVar 5) (eTup (aCons (eVar 8) (aCons (eVar 9) (aNil))))) (el_adds_1))) (sSeq (sSetF 7 (eLc [11, 10] (eEnum (eL (eVar 2))) (gTp 2 (gsCons (gNm 11) (gsCons (gNm 10) (gsNil)))) (tAll) (el_adds_2))) (sSeq (sApp 4 (e2 dSub (eVar 1) (eAp f_greatest_sum (aCons (eTup (aCons (eVarB 7) (aCons (eVarB 6) (aNil)))) (aNil))))) (sNil)))
def v_adds : En → SRs := sSeq (sSet 1 (eAp f_greatest_sum (aCons (eVar 0) (aNil)))) (sSeq (sPat (gTp 2 (gsCons (gNm 2) (gsCons (gNm 3) (gsNil)))) (eVar 0)) (sSeq (sSetF 4 (aNil)) (sSeq (sFor (eR1 (eAp gLen (aCons (eVar 2) (aNil)))) (gNm 5) bl_adds_1) (sSeq (sRetO 4) (sNil)))))
def f_adds : List Da → R Da := runF true v_adds 12
theorem fv_adds (T : Txt K mg) : FnV PySem.Challenge.pw_kerbcall_k27_checked_numbers w K mg base 4 "adds" 1 true f_adds := by
  obtain ⟨fA, fd, F, hm, bd⟩ := T.d_adds
  have sS : FnScope ["numbers", "whole", "singles", "pairs", "found", "rider", "others", "without", "one", "two", "number", "other"] ["numbers"] (defScope (topS 32)) := ⟨rfl, rfl, rfl, by decide +kernel, rfl, by decide +kernel, by decide +kernel⟩
  refine fnV_mk (nl := 12) F hm sS bd rfl rfl (by decide) fun cdv B out t G E gd rm => ?_
  have h64 := Nat.lt_of_le_of_lt (Nat.add_le_add_left (by decide : 64 ≤ 200) _) (Nat.lt_of_le_of_lt (Nat.add_le_add_right (Nat.le_add_right _ (16 * 3)) 200) rm.un)
  have h65 := Nat.lt_of_le_of_lt (Nat.add_le_add_left (by decide : 65 ≤ 200) _) (Nat.lt_of_le_of_lt (Nat.add_le_add_right (Nat.le_add_right _ (16 * 3)) 200) rm.un)
  have tk : Takes (cxOf (L2.CX PySem.Challenge.pw_kerbcall_k27_checked_numbers w) PySem.Challenge.pw_kerbcall_k27_checked_numbers w K mg base ["numbers", "whole", "singles", "pairs", "found", "rider", "others", "without", "one", "two", "number", "other"] "adds" (defScope (topS 32)) fA cdv B out t G E) (fun cls d _ H => E cls d H) := takes_of rfl rfl rfl rfl
  have po : PassesOwn (model PySem.Challenge.pw_kerbcall_k27_checked_numbers w) (B.deeper (envOfC "adds" (defScope (topS 32)) t.heap.objs.size fA cdv)) (cxOf (L2.CX PySem.Challenge.pw_kerbcall_k27_checked_numbers w) PySem.Challenge.pw_kerbcall_k27_checked_numbers w K mg base ["numbers", "whole", "singles", "pairs", "found", "rider", "others", "without", "one", "two", "number", "other"] "adds" (defScope (topS 32)) fA cdv B out t G E).env (cxOf (L2.CX PySem.Challenge.pw_kerbcall_k27_checked_numbers w) PySem.Challenge.pw_kerbcall_k27_checked_numbers w K mg base ["numbers", "whole", "singles", "pairs", "found", "rider", "others", "without", "one", "two", "number", "other"] "adds" (defScope (topS 32)) fA cdv B out t G E).xe := passes_of (X := cxOf (L2.CX PySem.Challenge.pw_kerbcall_k27_checked_numbers w) PySem.Challenge.pw_kerbcall_k27_checked_numbers w K mg base ["numbers", "whole", "singles", "pairs", "found", "rider", "others", "without", "one", "two", "number", "other"] "adds" (defScope (topS 32)) fA cdv B out t G E) rfl
  exact (bv_cons (sv_set (i := 1) sS.nd rfl (.inl rfl) (ev_call (fv_greatest_sum T) (rm.mono (by decide)) gd tk (by rfl) (av_cons (ev_var (pv 0)) av_nil))) (bv_cons (sv_pat (ev_var (pv 0)) (gv_tup rfl (gsv_cons (gv_name sS.nd rfl (.inl rfl)) (gsv_cons (gv_name sS.nd rfl (.inl rfl)) gsv_nil)))) (bv_cons (sv_setF (i := 4) sS.nd rfl (.inl rfl) (ef_lst av_nil)) (bv_cons (sv_for po rfl (iv_rng1 (by rfl) T.m_range (ev_callB cs_len call_len (by rfl) T.m_len (by decide +kernel) (av_cons (ev_var (pv 2)) av_nil))) (gv_name sS.nd rfl (.inr rfl)) (bv_cons (sv_setLc (i := 6) rfl sS.nd rfl rfl (by rfl) (iv_list' (ES.l (EV.s (ev_var (pv 3))))) (blkOk_by (own := [("one", 8), ("two", 9), ("number", 10)]) (by first | rfl | kernel_rfl)) (by decide) (fun _ _ _ _ _ => (gv_tup rfl (gsv_cons (gv_name sS.nd rfl (.inl rfl)) (gsv_cons (gv_name sS.nd rfl (.inl rfl)) (gsv_cons (gv_name sS.nd rfl (.inl rfl)) gsv_nil))))) (fun _ _ _ _ _ => (iv_one (tv_cmp cm2_notIn (op_notInD h65) (ev_var (pv 5)) (ev_tup (av_cons (ev_var (pv 8)) (av_cons (ev_var (pv 9)) av_nil))) (by with_unfolding_all rfl)))) (fun _ _ _ _ _ => (ev_tup (av_cons (ev_var (pv 8)) (av_cons (ev_var (pv 9)) (av_cons (ev_var (pv 10)) av_nil)))))) (bv_cons (sv_setLc (i := 7) rfl sS.nd rfl rfl (by rfl) (iv_enum (by rfl) T.m_enumerate (ES.l (EV.s (ev_var (pv 2))))) (blkOk_by (own := [("other", 11), ("number", 10)]) (by first | rfl | kernel_rfl)) (by decide) (fun _ _ _ _ _ => (gv_tup rfl (gsv_cons (gv_name sS.nd rfl (.inl rfl)) (gsv_cons (gv_name sS.nd rfl (.inl rfl)) gsv_nil)))) (fun _ _ _ _ _ => iv_all) (fun _ _ _ _ _ => (ev_if (tv_cmp cm2_eqQ (op_eqQ h64) (ev_var (pv 11)) (ev_var (pv 5)) (nomark _)) ev_int (ev_var (pv 10))))) (bv_cons (sv_app (pv 4) (ev_sub (ev_var (pv 1)) (ev_call (fv_greatest_sum T) (rm.mono (by decide)) gd tk (by rfl) (av_cons (ev_tup (av_cons (ev_varB (pv 7)) (av_cons (ev_varB (pv 6)) av_nil))) av_nil)))) bv_nil)))) (bv_cons (sv_retO (pv 4)) bv_nil)))))
/-! half_plan(numbers): 0 numbers, 1 table, 2 columns, 3 pairs, 4 rings, 5 ring, 6 links, 7 sides -/
def v_half_plan : En → SRs := sSeq (sDo (eAp f_check_numbers (aCons (eVar 0) (aNil)))) (sSeq (sSet 1 (eBad)) (sSeq (sSet 2 (e2 dIx (eBad) (eC (.int 0)))) (sSeq (sParF 3 4 (aNil) (aNil)) (sSeq (sBad) (sSeq (sRet (eTup (aCons (eBad) (aCons (eBad) (aNil))))) (sNil))))))
def f_half_plan : List Da → R Da := runF false v_half_plan 8
theorem fv_half_plan (T : Txt K mg) : FnV PySem.Challenge.pw_kerbcall_k27_checked_numbers w K mg base 3 "half_plan" 1 false f_half_plan := by
  obtain ⟨fA, fd, F, hm, bd⟩ := T.d_half_plan
  have sS : FnScope ["numbers", "table", "columns", "pairs", "rings", "ring", "links", "sides"] ["numbers"] (defScope (topS 41)) := ⟨rfl, rfl, rfl, by decide +kernel, rfl, by decide +kernel, by decide +kernel⟩
  refine fnV_mk (nl := 8) F hm sS bd rfl rfl (by decide) fun cdv B out t G E gd rm => ?_
  have h64 := Nat.lt_of_le_of_lt (Nat.add_le_add_left (by decide : 64 ≤ 200) _) (Nat.lt_of_le_of_lt (Nat.add_le_add_right (Nat.le_add_right _ (16 * 2)) 200) rm.un)
  have h65 := Nat.lt_of_le_of_lt (Nat.add_le_add_left (by decide : 65 ≤ 200) _) (Nat.lt_of_le_of_lt (Nat.add_le_add_right (Nat.le_add_right _ (16 * 2)) 200) rm.un)
  have tk : Takes (cxOf (L2.CX PySem.Challenge.pw_kerbcall_k27_checked_numbers w) PySem.Challenge.pw_kerbcall_k27_checked_numbers w K mg base ["numbers", "table", "columns", "pairs", "rings", "ring", "links", "sides"] "half_plan" (defScope (topS 41)) fA cdv B out t G E) (fun cls d _ H => E cls d H) := takes_of rfl rfl rfl rfl
  have po : PassesOwn (model PySem.Challenge.pw_kerbcall_k27_checked_numbers w) (B.deeper (envOfC "half_plan" (defScope (topS 41)) t.heap.objs.size fA cdv)) (cxOf (L2.CX PySem.Challenge.pw_kerbcall_k27_checked_numbers w) PySem.Challenge.pw_kerbcall_k27_checked_numbers w K mg base ["numbers", "table", "columns", "pairs", "rings", "ring", "links", "sides"] "half_plan" (defScope (topS 41)) fA cdv B out t G E).env (cxOf (L2.CX PySem.Challenge.pw_kerbcall_k27_checked_numbers w) PySem.Challenge.pw_kerbcall_k27_checked_numbers w K mg base ["numbers", "table", "columns", "pairs", "rings", "ring", "links", "sides"] "half_plan" (defScope (topS 41)) fA cdv B out t G E).xe := passes_of (X := cxOf (L2.CX PySem.Challenge.pw_kerbcall_k27_checked_numbers w) PySem.Challenge.pw_kerbcall_k27_checked_numbers w K mg base ["numbers", "table", "columns", "pairs", "rings", "ring", "links", "sides"] "half_plan" (defScope (topS 41)) fA cdv B out t G E) rfl
  exact (bv_cons (sv_expr (c := false) (ev_call (fv_check_numbers T) (rm.mono (by decide)) gd tk (by rfl) (av_cons (ev_var (pv 0)) av_nil))) (bv_cons (sv_set (i := 1) sS.nd rfl (.inr rfl) ev_bad) (bv_cons (sv_set (i := 2) sS.nd rfl (.inl rfl) (ev_ix ev_bad ev_int (fun _ _ => rfl))) (bv_cons (sv_parF (i := 3) (j := 4) (by rfl) sS.nd rfl rfl (by decide) rfl rfl (ef_lst av_nil) (ef_lst av_nil) (by rfl)) (bv_cons sv_bad (bv_cons (sv_ret (ev_tup (av_cons ev_bad (av_cons ev_bad av_nil)))) bv_nil))))))
/-! half_prices(numbers): 0 numbers, 1 _, 2 ups, 3 downs, 4 up, 5 down -/
def v_half_prices : En → SRs := sSeq (sDo (eAp f_check_numbers (aCons (eVar 0) (aNil)))) (sSeq (sPat (gTp 3 (gsCons (gNm 1) (gsCons (gNm 2) (gsCons (gNm 3) (gsNil))))) (eBad)) (sSeq (sRetF (eLc [4, 5] (eZip (eL (eVar 2)) (eL (eVar 3))) (gTp 2 (gsCons (gNm 4) (gsCons (gNm 5) (gsNil)))) (tAll) (e2 dAdd (eVar 4) (eVar 5)))) (sNil)))
def f_half_prices : List Da → R Da := runF true v_half_prices 6
theorem fv_half_prices (T : Txt K mg) : FnV PySem.Challenge.pw_kerbcall_k27_checked_numbers w K mg base 3 "half_prices" 1 true f_half_prices := by
  obtain ⟨fA, fd, F, hm, bd⟩ := T.d_half_prices
  have sS : FnScope ["numbers", "_", "ups", "downs", "up", "down"] ["numbers"] (defScope (topS 44)) := ⟨rfl, rfl, rfl, by decide +kernel, rfl, by decide +kernel, by decide +kernel⟩
  refine fnV_mk (nl := 6) F hm sS bd rfl rfl (by decide) fun cdv B out t G E gd rm => ?_
  have h64 := Nat.lt_of_le_of_lt (Nat.add_le_add_left (by decide : 64 ≤ 200) _) (Nat.lt_of_le_of_lt (Nat.add_le_add_right (Nat.le_add_right _ (16 * 2)) 200) rm.un)
  have h65 := Nat.lt_of_le_of_lt (Nat.add_le_add_left (by decide : 65 ≤ 200) _) (Nat.lt_of_le_of_lt (Nat.add_le_add_right (Nat.le_add_right _ (16 * 2)) 200) rm.un)
  have tk : Takes (cxOf (L2.CX PySem.Challenge.pw_kerbcall_k27_checked_numbers w) PySem.Challenge.pw_kerbcall_k27_checked_numbers w K mg base ["numbers", "_", "ups", "downs", "up", "down"] "half_prices" (defScope (topS 44)) fA cdv B out t G E) (fun cls d _ H => E cls d H) := takes_of rfl rfl rfl rfl
  have po : PassesOwn (model PySem.Challenge.pw_kerbcall_k27_checked_numbers w) (B.deeper (envOfC "half_prices" (defScope (topS 44)) t.heap.objs.size fA cdv)) (cxOf (L2.CX PySem.Challenge.pw_kerbcall_k27_checked_numbers w) PySem.Challenge.pw_kerbcall_k27_checked_numbers w K mg base ["numbers", "_", "ups", "downs", "up", "down"] "half_prices" (defScope (topS 44)) fA cdv B out t G E).env (cxOf (L2.CX PySem.Challenge.pw_kerbcall_k27_checked_numbers w) PySem.Challenge.pw_kerbcall_k27_checked_numbers w K mg base ["numbers", "_", "ups", "downs", "up", "down"] "half_prices" (defScope (topS 44)) fA cdv B out t G E).xe := passes_of (X := cxOf (L2.CX PySem.Challenge.pw_kerbcall_k27_checked_numbers w) PySem.Challenge.pw_kerbcall_k27_checked_numbers w K mg base ["numbers", "_", "ups", "downs", "up", "down"] "half_prices" (defScope (topS 44)) fA cdv B out t G E) rfl
  exact (bv_cons (sv_expr (c := false) (ev_call (fv_check_numbers T) (rm.mono (by decide)) gd tk (by rfl) (av_cons (ev_var (pv 0)) av_nil))) (bv_cons (sv_pat ev_bad (gv_tup rfl (gsv_cons (gv_name sS.nd rfl (.inl rfl)) (gsv_cons (gv_name sS.nd rfl (.inl rfl)) (gsv_cons (gv_name sS.nd rfl (.inl rfl)) gsv_nil))))) (bv_cons (sv_retF (ef_lc rfl sS.nd (iv_zip (by rfl) T.m_zip (ES.l (EV.s (ev_var (pv 2)))) (ES.l (EV.s (ev_var (pv 3))))) (blkOk_by (own := [("up", 4), ("down", 5)]) (by first | rfl | kernel_rfl)) (by decide) (fun _ _ _ _ _ => (gv_tup rfl (gsv_cons (gv_name sS.nd rfl (.inl rfl)) (gsv_cons (gv_name sS.nd rfl (.inl rfl)) gsv_nil)))) (fun _ _ _ _ _ => iv_all) (fun _ _ _ _ _ => (ev_add (ev_var (pv 4)) (ev_var (pv 5)))))) bv_nil)))
/-! is_half_plan(numbers, plan): 0 numbers, 1 plan, 2 table, 3 pairs, 4 rings, 5 ring, 6 riders, 7 row, 8 rider -/
def bl_is_half_plan_1 : En → SRs := sSeq (sIf (tOr' (t2 cLt (eAp gLen (aCons (eVar 5) (aNil))) (eC (.int 3))) (tOr' (t2 qEq (eBad) (eC (.int 0))) (eT (eAp gAny (aCons (eBad) (aNil)))))) (sSeq (sRet (eC (.bool false))) (sNil)) (sNil)) (sSeq (sIf (tOr' (t2 qNe (e2 dIx (eVar 5) (eC (.int 0))) (eAp gMinT (aCons (eVar 5) (aNil)))) (t2 cGt (e2 dIx (eVar 5) (eC (.int 1))) (e2 dIx (eVar 5) (e1 dNeg (eC (.int 1)))))) (sSeq (sRet (eC (.bool false))) (sNil)) (sNil)) (sNil))
def v_is_half_plan : En → SRs := sSeq (sDo (eAp f_check_numbers (aCons (eVar 0) (aNil)))) (sSeq (sSet 2 (eBad)) (sSeq (sPat (gTp 2 (gsCons (gNm 3) (gsCons (gNm 4) (gsNil)))) (eVar 1)) (sSeq (sIf (tOr' (t2 qNe (eD (eL (eVar 3))) (eBad)) (t2 qNe (eD (eL (eVar 4))) (eBad))) (sSeq (sRet (eC (.bool false))) (sNil)) (sNil)) (sSeq (sIf (eT (eAp gAny (aCons (eBad) (aNil)))) (sSeq (sRet (eC (.bool false))) (sNil)) (sNil)) (sSeq (sFor (eL (eVar 4)) (gNm 5) bl_is_half_plan_1) (sSeq (sBad) (sSeq (sRet (eB (t2 qEq (eAp gLen (aCons (eBad) (aNil))) (eAp gLen (aCons (eVarB 6) (aNil)))))) (sNil))))))))
def f_is_half_plan : List Da → R Da := runF false v_is_half_plan 9
theorem fv_is_half_plan (T : Txt K mg) : FnV PySem.Challenge.pw_kerbcall_k27_checked_numbers w K mg base 3 "is_half_plan" 2 false f_is_half_plan := by
  obtain ⟨fA, fd, F, hm, bd⟩ := T.d_is_half_plan
  have sS : FnScope ["numbers", "plan", "table", "pairs", "rings", "ring", "riders", "row", "rider"] ["numbers", "plan"] (defScope (topS 42)) := ⟨rfl, rfl, rfl, by decide +kernel, rfl, by decide +kernel, by decide +kernel⟩
  refine fnV_mk (nl := 9) F hm sS bd rfl rfl (by decide) fun cdv B out t G E gd rm => ?_
  have h64 := Nat.lt_of_le_of_lt (Nat.add_le_add_left (by decide : 64 ≤ 200) _) (Nat.lt_of_le_of_lt (Nat.add_le_add_right (Nat.le_add_right _ (16 * 2)) 200) rm.un)
  have h65 := Nat.lt_of_le_of_lt (Nat.add_le_add_left (by decide : 65 ≤ 200) _) (Nat.lt_of_le_of_lt (Nat.add_le_add_right (Nat.le_add_right _ (16 * 2)) 200) rm.un)
  have tk : Takes (cxOf (L2.CX PySem.Challenge.pw_kerbcall_k27_checked_numbers w) PySem.Challenge.pw_kerbcall_k27_checked_numbers w K mg base ["numbers", "plan", "table", "pairs", "rings", "ring", "riders", "row", "rider"] "is_half_plan" (defScope (topS 42)) fA cdv B out t G E) (fun cls d _ H => E cls d H) := takes_of rfl rfl rfl rfl
  have po : PassesOwn (model PySem.Challenge.pw_kerbcall_k27_checked_numbers w) (B.deeper (envOfC "is_half_plan" (defScope (topS 42)) t.heap.objs.size fA cdv)) (cxOf (L2.CX PySem.Challenge.pw_kerbcall_k27_checked_numbers w) PySem.Challenge.pw_kerbcall_k27_checked_numbers w K mg base ["numbers", "plan", "table", "pairs", "rings", "ring", "riders", "row", "rider"] "is_half_plan" (defScope (topS 42)) fA cdv B out t G E).env (cxOf (L2.CX PySem.Challenge.pw_kerbcall_k27_checked_numbers w) PySem.Challenge.pw_kerbcall_k27_checked_numbers w K mg base ["numbers", "plan", "table", "pairs", "rings", "ring", "riders", "row", "rider"] "is_half_plan" (defScope (topS 42)) fA cdv B out t G E).xe := passes_of (X := cxOf (L2.CX PySem.Challenge.pw_kerbcall_k27_checked_numbers w) PySem.Challenge.pw_kerbcall_k27_checked_numbers w K mg base ["numbers", "plan", "table", "pairs", "rings", "ring", "riders", "row", "rider"] "is_half_plan" (defScope (topS 42)) fA cdv B out t G E) rfl
  exact (bv_cons (sv_expr (c := false) (ev_call (fv_check_numbers T) (rm.mono (by decide)) gd tk (by rfl) (av_cons (ev_var (pv 0)) av_nil))) (bv_cons (sv_set (i := 2) sS.nd rfl (.inr rfl) ev_bad) (bv_cons (sv_pat (ev_var (pv 1)) (gv_tup rfl (gsv_cons (gv_name sS.nd rfl (.inl rfl)) (gsv_cons (gv_name sS.nd rfl (.inl rfl)) gsv_nil)))) (bv_cons (sv_if (WV.t (wv_or (tv_cmp cm2_neQ (op_neQ h64) (EF.v (ef_list (by rfl) T.m_list (EV.s (ev_var (pv 3))))) ev_bad (nomark _)) (wv_or1 (tv_cmp cm2_neQ (op_neQ h64) (EF.v (ef_list (by rfl) T.m_list (EV.s (ev_var (pv 4))))) ev_bad (nomark _))))) (bv_cons (sv_ret ev_bl) bv_nil) bv_nil) (bv_cons (sv_if (tv_val (ev_callB cs_any (cr_any (by rfl)) (by rfl) T.m_any (by decide +kernel) (av_cons ev_bad av_nil))) (bv_cons (sv_ret ev_bl) bv_nil) bv_nil) (bv_cons (sv_for po rfl (iv_list' (EV.l (ev_var (pv 4)))) (gv_name sS.nd rfl (.inl rfl)) (bv_cons (sv_if (WV.t (wv_or (tv_cmp cm2_I op_lt (ev_callB cs_len call_len (by rfl) T.m_len (by decide +kernel) (av_cons (ev_var (pv 5)) av_nil)) ev_int (nomark _)) (wv_or (tv_cmp cm2_eqQ (op_eqQ h64) ev_bad ev_int (nomark _)) (wv_or1 (tv_val (ev_callB cs_any (cr_any (by rfl)) (by rfl) T.m_any (by decide +kernel) (av_cons ev_bad av_nil))))))) (bv_cons (sv_ret ev_bl) bv_nil) bv_nil) (bv_cons (sv_if (WV.t (wv_or (tv_cmp cm2_neQ (op_neQ h64) (ev_ix (ev_var (pv 5)) ev_int (fun _ _ => rfl)) (ev_callB cs_minT (cr_minT (by rfl)) (by rfl) T.m_min (by decide +kernel) (av_cons (ev_var (pv 5)) av_nil)) (nomark _)) (wv_or1 (tv_cmp cm2_I op_gt (ev_ix (ev_var (pv 5)) ev_int (fun _ _ => rfl)) (ev_ix (ev_var (pv 5)) (ev_neg ev_int) (fun _ _ => rfl)) (nomark _))))) (bv_cons (sv_ret ev_bl) bv_nil) bv_nil) bv_nil))) (bv_cons sv_bad (bv_cons (sv_ret (ev_cmp cm2_eqQ (op_eqQ h64) (ev_callB cs_len call_len (by rfl) T.m_len (by decide +kernel) (av_cons ev_bad av_nil)) (ev_callB cs_len call_len (by rfl) T.m_len (by decide +kernel) (av_cons (ev_varB (pv 6)) av_nil)) (nomark _))) bv_nil))))))))
/-! half_sum(numbers, plan): 0 numbers, 1 plan, 2 table, 3 pairs, 4 rings, 5 riders, 6 total, 7 row, 8 rider -/
def v_half_sum : En → SRs := sSeq (sIf (tNo (eT (eAp f_is_half_plan (aCons (eVar 0) (aCons (eVar 1) (aNil)))))) (sSeq (sRet (eC .none)) (sNil)) (sNil)) (sSeq (sSet 2 (eBad)) (sSeq (sPat (gTp 2 (gsCons (gNm 3) (gsCons (gNm 4) (gsNil)))) (eVar 1)) (sSeq (sSet 5 (eBad)) (sSeq (sSet 6 (e2 dMul (eC (.int 2)) (eAp gSum (aCons (eBad) (aNil))))) (sSeq (sAug 6 dAdd (e2 dMul (eC (.int 2)) (eAp gSum (aCons (eBad) (aNil))))) (sSeq (sRet (e2 dAdd (eVar 6) (eAp gSum (aCons (eBad) (aNil))))) (sNil)))))))
def f_half_sum : List Da → R Da := runF false v_half_sum 9
theorem fv_half_sum (T : Txt K mg) : FnV PySem.Challenge.pw_kerbcall_k27_checked_numbers w K mg base 4 "half_sum" 2 false f_half_sum := by
  obtain ⟨fA, fd, F, hm, bd⟩ := T.d_half_sum
  have sS : FnScope ["numbers", "plan", "table", "pairs", "rings", "riders", "total", "row", "rider"] ["numbers", "plan"] (defScope (topS 43)) := ⟨rfl, rfl, rfl, by decide +kernel, rfl, by decide +kernel, by decide +kernel⟩
  refine fnV_mk (nl := 9) F hm sS bd rfl rfl (by decide) fun cdv B out t G E gd rm => ?_
  have h64 := Nat.lt_of_le_of_lt (Nat.add_le_add_left (by decide : 64 ≤ 200) _) (Nat.lt_of_le_of_lt (Nat.add_le_add_right (Nat.le_add_right _ (16 * 3)) 200) rm.un)
  have h65 := Nat.lt_of_le_of_lt (Nat.add_le_add_left (by decide : 65 ≤ 200) _) (Nat.lt_of_le_of_lt (Nat.add_le_add_right (Nat.le_add_right _ (16 * 3)) 200) rm.un)
  have tk : Takes (cxOf (L2.CX PySem.Challenge.pw_kerbcall_k27_checked_numbers w) PySem.Challenge.pw_kerbcall_k27_checked_numbers w K mg base ["numbers", "plan", "table", "pairs", "rings", "riders", "total", "row", "rider"] "half_sum" (defScope (topS 43)) fA cdv B out t G E) (fun cls d _ H => E cls d H) := takes_of rfl rfl rfl rfl
  have po : PassesOwn (model PySem.Challenge.pw_kerbcall_k27_checked_numbers w) (B.deeper (envOfC "half_sum" (defScope (topS 43)) t.heap.objs.size fA cdv)) (cxOf (L2.CX PySem.Challenge.pw_kerbcall_k27_checked_numbers w) PySem.Challenge.pw_kerbcall_k27_checked_numbers w K mg base ["numbers", "plan", "table", "pairs", "rings", "riders", "total", "row", "rider"] "half_sum" (defScope (topS 43)) fA cdv B out t G E).env (cxOf (L2.CX PySem.Challenge.pw_kerbcall_k27_checked_numbers w) PySem.Challenge.pw_kerbcall_k27_checked_numbers w K mg base ["numbers", "plan", "table", "pairs", "rings", "riders", "total", "row", "rider"] "half_sum" (defScope (topS 43)) fA cdv B out t G E).xe := passes_of (X := cxOf (L2.CX PySem.Challenge.pw_kerbcall_k27_checked_numbers w) PySem.Challenge.pw_kerbcall_k27_checked_numbers w K mg base ["numbers", "plan", "table", "pairs", "rings", "riders", "total", "row", "rider"] "half_sum" (defScope (topS 43)) fA cdv B out t G E) rfl
  exact (bv_cons (sv_if (tv_not (tv_val (ev_call (fv_is_half_plan T) (rm.mono (by decide)) gd tk (by rfl) (av_cons (ev_var (pv 0)) (av_cons (ev_var (pv 1)) av_nil))))) (bv_cons (sv_ret ev_non) bv_nil) bv_nil) (bv_cons (sv_set (i := 2) sS.nd rfl (.inr rfl) ev_bad) (bv_cons (sv_pat (ev_var (pv 1)) (gv_tup rfl (gsv_cons (gv_name sS.nd rfl (.inl rfl)) (gsv_cons (gv_name sS.nd rfl (.inl rfl)) gsv_nil)))) (bv_cons (sv_set (i := 5) sS.nd rfl (.inr rfl) ev_bad) (bv_cons (sv_set (i := 6) sS.nd rfl (.inl rfl) (ev_mul ev_int (ev_callB cs_sum (cr_sum (by rfl)) (by rfl) T.m_sum (by decide +kernel) (av_cons ev_bad av_nil)))) (bv_cons (sv_augAdd sS.nd rfl (.inl rfl) (ev_mul ev_int (ev_callB cs_sum (cr_sum (by rfl)) (by rfl) T.m_sum (by decide +kernel) (av_cons ev_bad av_nil)))) (bv_cons (sv_ret (ev_add (ev_var (pv 6)) (ev_callB cs_sum (cr_sum (by rfl)) (by rfl) T.m_sum (by decide +kernel) (av_cons ev_bad av_nil)))) bv_nil)))))))
/-! bears(numbers, prices): 0 numbers, 1 prices, 2 singles, 3 pairs -/
def v_bears : En → SRs := sSeq (sDo (eAp f_check_numbers (aCons (eVar 0) (aNil)))) (sSeq (sPat (gTp 2 (gsCons (gNm 2) (gsCons (gNm 3) (gsNil)))) (eVar 0)) (sSeq (sIf (tOr' (t2 qNe (eAp gLen (aCons (eVar 1) (aNil))) (eAp gLen (aCons (eVar 2) (aNil)))) (eT (eAp gAny (aCons (eBad) (aNil))))) (sSeq (sRet (eC (.bool false))) (sNil)) (sNil)) (sSeq (sRet (eAp gAll (aCons (eBad) (aNil)))) (sNil))))
def f_bears : List Da → R Da := runF false v_bears 4
theorem fv_bears (T : Txt K mg) : FnV PySem.Challenge.pw_kerbcall_k27_checked_numbers w K mg base 3 "bears" 2 false f_bears := by
  obtain ⟨fA, fd, F, hm, bd⟩ := T.d_bears
  have sS : FnScope ["numbers", "prices", "singles", "pairs"] ["numbers", "prices"] (defScope (topS 45)) := ⟨rfl, rfl, rfl, by decide +kernel, rfl, by decide +kernel, by decide +kernel⟩
  refine fnV_mk (nl := 4) F hm sS bd rfl rfl (by decide) fun cdv B out t G E gd rm => ?_
  have h64 := Nat.lt_of_le_of_lt (Nat.add_le_add_left (by decide : 64 ≤ 200) _) (Nat.lt_of_le_of_lt (Nat.add_le_add_right (Nat.le_add_right _ (16 * 2)) 200) rm.un)
  have h65 := Nat.lt_of_le_of_lt (Nat.add_le_add_left (by decide : 65 ≤ 200) _) (Nat.lt_of_le_of_lt (Nat.add_le_add_right (Nat.le_add_right _ (16 * 2)) 200) rm.un)
  have tk : Takes (cxOf (L2.CX PySem.Challenge.pw_kerbcall_k27_checked_numbers w) PySem.Challenge.pw_kerbcall_k27_checked_numbers w K mg base ["numbers", "prices", "singles", "pairs"] "bears" (defScope (topS 45)) fA cdv B out t G E) (fun cls d _ H => E cls d H) := takes_of rfl rfl rfl rfl
  have po : PassesOwn (model PySem.Challenge.pw_kerbcall_k27_checked_numbers w) (B.deeper (envOfC "bears" (defScope (topS 45)) t.heap.objs.size fA cdv)) (cxOf (L2.CX PySem.Challenge.pw_kerbcall_k27_checked_numbers w) PySem.Challenge.pw_kerbcall_k27_checked_numbers w K mg base ["numbers", "prices", "singles", "pairs"] "bears" (defScope (topS 45)) fA cdv B out t G E).env (cxOf (L2.CX PySem.Challenge.pw_kerbcall_k27_checked_numbers w) PySem.Challenge.pw_kerbcall_k27_checked_numbers w K mg base ["numbers", "prices", "singles", "pairs"] "bears" (defScope (topS 45)) fA cdv B out t G E).xe := passes_of (X := cxOf (L2.CX PySem.Challenge.pw_kerbcall_k27_checked_numbers w) PySem.Challenge.pw_kerbcall_k27_checked_numbers w K mg base ["numbers", "prices", "singles", "pairs"] "bears" (defScope (topS 45)) fA cdv B out t G E) rfl
  exact (bv_cons (sv_expr (c := false) (ev_call (fv_check_numbers T) (rm.mono (by decide)) gd tk (by rfl) (av_cons (ev_var (pv 0)) av_nil))) (bv_cons (sv_pat (ev_var (pv 0)) (gv_tup rfl (gsv_cons (gv_name sS.nd rfl (.inl rfl)) (gsv_cons (gv_name sS.nd rfl (.inl rfl)) gsv_nil)))) (bv_cons (sv_if (WV.t (wv_or (tv_cmp cm2_neQ (op_neQ h64) (ev_callB cs_len call_len (by rfl) T.m_len (by decide +kernel) (av_cons (ev_var (pv 1)) av_nil)) (ev_callB cs_len call_len (by rfl) T.m_len (by decide +kernel) (av_cons (ev_var (pv 2)) av_nil)) (nomark _)) (wv_or1 (tv_val (ev_callB cs_any (cr_any (by rfl)) (by rfl) T.m_any (by decide +kernel) (av_cons ev_bad av_nil)))))) (bv_cons (sv_ret ev_bl) bv_nil) bv_nil) (bv_cons (sv_ret (ev_callB cs_all (cr_all (by rfl)) (by rfl) T.m_all (by decide +kernel) (av_cons ev_bad av_nil))) bv_nil))))
/-! check_half(numbers, plan, prices): 0 numbers, 1 plan, 2 prices, 3 total -/
def v_check_half : En → SRs := sSeq (sSet 3 (eAp f_half_sum (aCons (eVar 0) (aCons (eVar 1) (aNil))))) (sSeq (sRet (eB (tAn (eT (eB (t2 cNotN (eVar 3) (eC .none)))) (tAn (eT (eAp f_bears (aCons (eVar 0) (aCons (eVar 2) (aNil))))) (eT (eB (t2 qEq (eAp gSum (aCons (eVar 2) (aNil))) (eVar 3)))))))) (sNil))
def f_check_half : List Da → R Da := runF false v_check_half 4
theorem fv_check_half (T : Txt K mg) : FnV PySem.Challenge.pw_kerbcall_k27_checked_numbers w K mg base 5 "check_half" 3 false f_check_half := by
  obtain ⟨fA, fd, F, hm, bd⟩ := T.d_check_half
  have sS : FnScope ["numbers", "plan", "prices", "total"] ["numbers", "plan", "prices"] (defScope (topS 46)) := ⟨rfl, rfl, rfl, by decide +kernel, rfl, by decide +kernel, by decide +kernel⟩
  refine fnV_mk (nl := 4) F hm sS bd rfl rfl (by decide) fun cdv B out t G E gd rm => ?_
  have h64 := Nat.lt_of_le_of_lt (Nat.add_le_add_left (by decide : 64 ≤ 200) _) (Nat.lt_of_le_of_lt (Nat.add_le_add_right (Nat.le_add_right _ (16 * 4)) 200) rm.un)
  have h65 := Nat.lt_of_le_of_lt (Nat.add_le_add_left (by decide : 65 ≤ 200) _) (Nat.lt_of_le_of_lt (Nat.add_le_add_right (Nat.le_add_right _ (16 * 4)) 200) rm.un)
  have tk : Takes (cxOf (L2.CX PySem.Challenge.pw_kerbcall_k27_checked_numbers w) PySem.Challenge.pw_kerbcall_k27_checked_numbers w K mg base ["numbers", "plan", "prices", "total"] "check_half" (defScope (topS 46)) fA cdv B out t G E) (fun cls d _ H => E cls d H) := takes_of rfl rfl rfl rfl
  have po : PassesOwn (model PySem.Challenge.pw_kerbcall_k27_checked_numbers w) (B.deeper (envOfC "check_half" (defScope (topS 46)) t.heap.objs.size fA cdv)) (cxOf (L2.CX PySem.Challenge.pw_kerbcall_k27_checked_numbers w) PySem.Challenge.pw_kerbcall_k27_checked_numbers w K mg base ["numbers", "plan", "prices", "total"] "check_half" (defScope (topS 46)) fA cdv B out t G E).env (cxOf (L2.CX PySem.Challenge.pw_kerbcall_k27_checked_numbers w) PySem.Challenge.pw_kerbcall_k27_checked_numbers w K mg base ["numbers", "plan", "prices", "total"] "check_half" (defScope (topS 46)) fA cdv B out t G E).xe := passes_of (X := cxOf (L2.CX PySem.Challenge.pw_kerbcall_k27_checked_numbers w) PySem.Challenge.pw_kerbcall_k27_checked_numbers w K mg base ["numbers", "plan", "prices", "total"] "check_half" (defScope (topS 46)) fA cdv B out t G E) rfl
  exact (bv_cons (sv_set (i := 3) sS.nd rfl (.inl rfl) (ev_call (fv_half_sum T) (rm.mono (by decide)) gd tk (by rfl) (av_cons (ev_var (pv 0)) (av_cons (ev_var (pv 1)) av_nil)))) (bv_cons (sv_ret (ev_and (ev_cmp cm2_notN op_notN (ev_var (pv 3)) ev_non (nomark _)) (ev_and (ev_call (fv_bears T) (rm.mono (by decide)) gd tk (by rfl) (av_cons (ev_var (pv 0)) (av_cons (ev_var (pv 2)) av_nil))) (ev_bone (ev_cmp cm2_eqQ (op_eqQ h64) (ev_callB cs_sum (cr_sum (by rfl)) (by rfl) T.m_sum (by decide +kernel) (av_cons (ev_var (pv 2)) av_nil)) (ev_var (pv 3)) (nomark _)))))) bv_nil))
/-! stable_prices(numbers): 0 numbers, 1 prices -/
def v_stable_prices : En → SRs := sSeq (sSet 1 (eAp f_half_prices (aCons (eVar 0) (aNil)))) (sSeq (sRet (eIf (t2 qEq (eAp gSum (aCons (eVar 1) (aNil))) (e2 dMul (eC (.int 2)) (eAp f_greatest_sum (aCons (eVar 0) (aNil))))) (eVar 1) (eC .none))) (sNil))
def f_stable_prices : List Da → R Da := runF false v_stable_prices 2
theorem fv_stable_prices (T : Txt K mg) : FnV PySem.Challenge.pw_kerbcall_k27_checked_numbers w K mg base 4 "stable_prices" 1 false f_stable_prices := by
  obtain ⟨fA, fd, F, hm, bd⟩ := T.d_stable_prices
  have sS : FnScope ["numbers", "prices"] ["numbers"] (defScope (topS 49)) := ⟨rfl, rfl, rfl, by decide +kernel, rfl, by decide +kernel, by decide +kernel⟩
  refine fnV_mk (nl := 2) F hm sS bd rfl rfl (by decide) fun cdv B out t G E gd rm => ?_
  have h64 := Nat.lt_of_le_of_lt (Nat.add_le_add_left (by decide : 64 ≤ 200) _) (Nat.lt_of_le_of_lt (Nat.add_le_add_right (Nat.le_add_right _ (16 * 3)) 200) rm.un)
  have h65 := Nat.lt_of_le_of_lt (Nat.add_le_add_left (by decide : 65 ≤ 200) _) (Nat.lt_of_le_of_lt (Nat.add_le_add_right (Nat.le_add_right _ (16 * 3)) 200) rm.un)
  have tk : Takes (cxOf (L2.CX PySem.Challenge.pw_kerbcall_k27_checked_numbers w) PySem.Challenge.pw_kerbcall_k27_checked_numbers w K mg base ["numbers", "prices"] "stable_prices" (defScope (topS 49)) fA cdv B out t G E) (fun cls d _ H => E cls d H) := takes_of rfl rfl rfl rfl
  have po : PassesOwn (model PySem.Challenge.pw_kerbcall_k27_checked_numbers w) (B.deeper (envOfC "stable_prices" (defScope (topS 49)) t.heap.objs.size fA cdv)) (cxOf (L2.CX PySem.Challenge.pw_kerbcall_k27_checked_numbers w) PySem.Challenge.pw_kerbcall_k27_checked_numbers w K mg base ["numbers", "prices"] "stable_prices" (defScope (topS 49)) fA cdv B out t G E).env (cxOf (L2.CX PySem.Challenge.pw_kerbcall_k27_checked_numbers w) PySem.Challenge.pw_kerbcall_k27_checked_numbers w K mg base ["numbers", "prices"] "stable_prices" (defScope (topS 49)) fA cdv B out t G E).xe := passes_of (X := cxOf (L2.CX PySem.Challenge.pw_kerbcall_k27_checked_numbers w) PySem.Challenge.pw_kerbcall_k27_checked_numbers w K mg base ["numbers", "prices"] "stable_prices" (defScope (topS 49)) fA cdv B out t G E) rfl
  exact (bv_cons (sv_set (i := 1) sS.nd rfl (.inl rfl) (ev_callX (fv_half_prices T) (rm.mono (by decide)) gd tk (by rfl) (av_cons (ev_var (pv 0)) av_nil))) (bv_cons (sv_ret (ev_if (tv_cmp cm2_eqQ (op_eqQ h64) (ev_callB cs_sum (cr_sum (by rfl)) (by rfl) T.m_sum (by decide +kernel) (av_cons (ev_var (pv 1)) av_nil)) (ev_mul ev_int (ev_call (fv_greatest_sum T) (rm.mono (by decide)) gd tk (by rfl) (av_cons (ev_var (pv 0)) av_nil))) (nomark _)) (ev_var (pv 1)) ev_non)) bv_nil))
/-! paid_in(numbers): 0 numbers -/
def v_paid_in : En → SRs := sSeq (sRet (e2 dSub (eAp gSum (aCons (eAp f_half_prices (aCons (eVar 0) (aNil))) (aNil))) (e2 dMul (eC (.int 2)) (eAp f_greatest_sum (aCons (eVar 0) (aNil)))))) (sNil)
def f_paid_in : List Da → R Da := runF false v_paid_in 1
theorem fv_paid_in (T : Txt K mg) : FnV PySem.Challenge.pw_kerbcall_k27_checked_numbers w K mg base 4 "paid_in" 1 false f_paid_in := by
  obtain ⟨fA, fd, F, hm, bd⟩ := T.d_paid_in
  have sS : FnScope ["numbers"] ["numbers"] (defScope (topS 48)) := ⟨rfl, rfl, rfl, by decide +kernel, rfl, by decide +kernel, by decide +kernel⟩
  refine fnV_mk (nl := 1) F hm sS bd rfl rfl (by decide) fun cdv B out t G E gd rm => ?_
  have h64 := Nat.lt_of_le_of_lt (Nat.add_le_add_left (by decide : 64 ≤ 200) _) (Nat.lt_of_le_of_lt (Nat.add_le_add_right (Nat.le_add_right _ (16 * 3)) 200) rm.un)
  have h65 := Nat.lt_of_le_of_lt (Nat.add_le_add_left (by decide : 65 ≤ 200) _) (Nat.lt_of_le_of_lt (Nat.add_le_add_right (Nat.le_add_right _ (16 * 3)) 200) rm.un)
  have tk : Takes (cxOf (L2.CX PySem.Challenge.pw_kerbcall_k27_checked_numbers w) PySem.Challenge.pw_kerbcall_k27_checked_numbers w K mg base ["numbers"] "paid_in" (defScope (topS 48)) fA cdv B out t G E) (fun cls d _ H => E cls d H) := takes_of rfl rfl rfl rfl
  have po : PassesOwn (model PySem.Challenge.pw_kerbcall_k27_checked_numbers w) (B.deeper (envOfC "paid_in" (defScope (topS 48)) t.heap.objs.size fA cdv)) (cxOf (L2.CX PySem.Challenge.pw_kerbcall_k27_checked_numbers w) PySem.Challenge.pw_kerbcall_k27_checked_numbers w K mg base ["numbers"] "paid_in" (defScope (topS 48)) fA cdv B out t G E).env (cxOf (L2.CX PySem.Challenge.pw_kerbcall_k27_checked_numbers w) PySem.Challenge.pw_kerbcall_k27_checked_numbers w K mg base ["numbers"] "paid_in" (defScope (topS 48)) fA cdv B out t G E).xe := passes_of (X := cxOf (L2.CX PySem.Challenge.pw_kerbcall_k27_checked_numbers w) PySem.Challenge.pw_kerbcall_k27_checked_numbers w K mg base ["numbers"] "paid_in" (defScope (topS 48)) fA cdv B out t G E) rfl
  exact (bv_cons (sv_ret (ev_sub (ev_callB cs_sum (cr_sum (by rfl)) (by rfl) T.m_sum (by decide +kernel) (av_cons (ev_callX (fv_half_prices T) (rm.mono (by decide)) gd tk (by rfl) (av_cons (ev_var (pv 0)) av_nil)) av_nil)) (ev_mul ev_int (ev_call (fv_greatest_sum T) (rm.mono (by decide)) gd tk (by rfl) (av_cons (ev_var (pv 0)) av_nil))))) bv_nil)
/-! bars(numbers): 0 numbers, 1 plan -/
def v_bars : En → SRs := sSeq (sSet 1 (eAp f_half_plan (aCons (eVar 0) (aNil)))) (sSeq (sRet (eIf (t2 cGt (eAp f_half_sum (aCons (eVar 0) (aCons (eVar 1) (aNil)))) (e2 dMul (eC (.int 2)) (eAp f_greatest_sum (aCons (eVar 0) (aNil))))) (eVar 1) (eC .none))) (sNil))
def f_bars : List Da → R Da := runF false v_bars 2
theorem fv_bars (T : Txt K mg) : FnV PySem.Challenge.pw_kerbcall_k27_checked_numbers w K mg base 5 "bars" 1 false f_bars := by
  obtain ⟨fA, fd, F, hm, bd⟩ := T.d_bars
  have sS : FnScope ["numbers", "plan"] ["numbers"] (defScope (topS 50)) := ⟨rfl, rfl, rfl, by decide +kernel, rfl, by decide +kernel, by decide +kernel⟩
  refine fnV_mk (nl := 2) F hm sS bd rfl rfl (by decide) fun cdv B out t G E gd rm => ?_
  have h64 := Nat.lt_of_le_of_lt (Nat.add_le_add_left (by decide : 64 ≤ 200) _) (Nat.lt_of_le_of_lt (Nat.add_le_add_right (Nat.le_add_right _ (16 * 4)) 200) rm.un)
  have h65 := Nat.lt_of_le_of_lt (Nat.add_le_add_left (by decide : 65 ≤ 200) _) (Nat.lt_of_le_of_lt (Nat.add_le_add_right (Nat.le_add_right _ (16 * 4)) 200) rm.un)
  have tk : Takes (cxOf (L2.CX PySem.Challenge.pw_kerbcall_k27_checked_numbers w) PySem.Challenge.pw_kerbcall_k27_checked_numbers w K mg base ["numbers", "plan"] "bars" (defScope (topS 50)) fA cdv B out t G E) (fun cls d _ H => E cls d H) := takes_of rfl rfl rfl rfl
  have po : PassesOwn (model PySem.Challenge.pw_kerbcall_k27_checked_numbers w) (B.deeper (envOfC "bars" (defScope (topS 50)) t.heap.objs.size fA cdv)) (cxOf (L2.CX PySem.Challenge.pw_kerbcall_k27_checked_numbers w) PySem.Challenge.pw_kerbcall_k27_checked_numbers w K mg base ["numbers", "plan"] "bars" (defScope (topS 50)) fA cdv B out t G E).env (cxOf (L2.CX PySem.Challenge.pw_kerbcall_k27_checked_numbers w) PySem.Challenge.pw_kerbcall_k27_checked_numbers w K mg base ["numbers", "plan"] "bars" (defScope (topS 50)) fA cdv B out t G E).xe := passes_of (X := cxOf (L2.CX PySem.Challenge.pw_kerbcall_k27_checked_numbers w) PySem.Challenge.pw_kerbcall_k27_checked_numbers w K mg base ["numbers", "plan"] "bars" (defScope (topS 50)) fA cdv B out t G E) rfl
  exact (bv_cons (sv_set (i := 1) sS.nd rfl (.inl rfl) (ev_call (fv_half_plan T) (rm.mono (by decide)) gd tk (by rfl) (av_cons (ev_var (pv 0)) av_nil))) (bv_cons (sv_ret (ev_if (tv_cmp cm2_I op_gt (ev_call (fv_half_sum T) (rm.mono (by decide)) gd tk (by rfl) (av_cons (ev_var (pv 0)) (av_cons (ev_var (pv 1)) av_nil))) (ev_mul ev_int (ev_call (fv_greatest_sum T) (rm.mono (by decide)) gd tk (by rfl) (av_cons (ev_var (pv 0)) av_nil))) (nomark _)) (ev_var (pv 1)) ev_non)) bv_nil))
/-! check_stable(numbers, pairs, prices): 0 numbers, 1 pairs, 2 prices -/
def v_check_stable : En → SRs := sSeq (sIf (tOr' (tNo (eT (eAp f_bears (aCons (eVar 0) (aCons (eVar 2) (aNil)))))) (t2 cNotN (eBad) (eC .none))) (sSeq (sRet (eC (.bool false))) (sNil)) (sNil)) (sSeq (sRet (eB (t2 qEq (eAp gSum (aCons (eVar 2) (aNil))) (e2 dMul (eC (.int 2)) (eAp f_pairing_sum (aCons (eVar 0) (aCons (eVar 1) (aNil)))))))) (sNil))
def f_check_stable : List Da → R Da := runF false v_check_stable 3
theorem fv_check_stable (T : Txt K mg) : FnV PySem.Challenge.pw_kerbcall_k27_checked_numbers w K mg base 4 "check_stable" 3 false f_check_stable := by
  obtain ⟨fA, fd, F, hm, bd⟩ := T.d_check_stable
  have sS : FnScope ["numbers", "pairs", "prices"] ["numbers", "pairs", "prices"] (defScope (topS 51)) := ⟨rfl, rfl, rfl, by decide +kernel, rfl, by decide +kernel, by decide +kernel⟩
  refine fnV_mk (nl := 3) F hm sS bd rfl rfl (by decide) fun cdv B out t G E gd rm => ?_
  have h64 := Nat.lt_of_le_of_lt (Nat.add_le_add_left (by decide : 64 ≤ 200) _) (Nat.lt_of_le_of_lt (Nat.add_le_add_right (Nat.le_add_right _ (16 * 3)) 200) rm.un)
  have h65 := Nat.lt_of_le_of_lt (Nat.add_le_add_left (by decide : 65 ≤ 200) _) (Nat.lt_of_le_of_lt (Nat.add_le_add_right (Nat.le_add_right _ (16 * 3)) 200) rm.un)
  have tk : Takes (cxOf (L2.CX PySem.Challenge.pw_kerbcall_k27_checked_numbers w) PySem.Challenge.pw_kerbcall_k27_checked_numbers w K mg base ["numbers", "pairs", "prices"] "check_stable" (defScope (topS 51)) fA cdv B out t G E) (fun cls d _ H => E cls d H) := takes_of rfl rfl rfl rfl
  have po : PassesOwn (model PySem.Challenge.pw_kerbcall_k27_checked_numbers w) (B.deeper (envOfC "check_stable" (defScope (topS 51)) t.heap.objs.size fA cdv)) (cxOf (L2.CX PySem.Challenge.pw_kerbcall_k27_checked_numbers w) PySem.Challenge.pw_kerbcall_k27_checked_numbers w K mg base ["numbers", "pairs", "prices"] "check_stable" (defScope (topS 51)) fA cdv B out t G E).env (cxOf (L2.CX PySem.Challenge.pw_kerbcall_k27_checked_numbers w) PySem.Challenge.pw_kerbcall_k27_checked_numbers w K mg base ["numbers", "pairs", "prices"] "check_stable" (defScope (topS 51)) fA cdv B out t G E).xe := passes_of (X := cxOf (L2.CX PySem.Challenge.pw_kerbcall_k27_checked_numbers w) PySem.Challenge.pw_kerbcall_k27_checked_numbers w K mg base ["numbers", "pairs", "prices"] "check_stable" (defScope (topS 51)) fA cdv B out t G E) rfl
  exact (bv_cons (sv_if (WV.t (wv_or (tv_not (tv_val (ev_call (fv_bears T) (rm.mono (by decide)) gd tk (by rfl) (av_cons (ev_var (pv 0)) (av_cons (ev_var (pv 2)) av_nil))))) (wv_or1 (tv_cmp cm2_notN op_notN ev_bad ev_non (nomark _))))) (bv_cons (sv_ret ev_bl) bv_nil) bv_nil) (bv_cons (sv_ret (ev_cmp cm2_eqQ (op_eqQ h64) (ev_callB cs_sum (cr_sum (by rfl)) (by rfl) T.m_sum (by decide +kernel) (av_cons (ev_var (pv 2)) av_nil)) (ev_mul ev_int (ev_call (fv_pairing_sum T) (rm.mono (by decide)) gd tk (by rfl) (av_cons (ev_var (pv 0)) (av_cons (ev_var (pv 1)) av_nil)))) (nomark _))) bv_nil))
/-! check_barred(numbers, pairs, paper, plan): 0 numbers, 1 pairs, 2 paper, 3 plan, 4 total -/
def v_check_barred : En → SRs := sSeq (sSet 4 (eAp f_half_sum (aCons (eVar 0) (aCons (eVar 3) (aNil))))) (sSeq (sIf (tOr' (t2 cIsN (eVar 4) (eC .none)) (tNo (eT (eAp f_check_pairing (aCons (eVar 0) (aCons (eVar 1) (aCons (eVar 2) (aNil)))))))) (sSeq (sRet (eC (.bool false))) (sNil)) (sNil)) (sSeq (sRet (eB (t2 cGt (eVar 4) (e2 dMul (eC (.int 2)) (eAp f_pairing_sum (aCons (eVar 0) (aCons (eVar 1) (aNil)))))))) (sNil)))
def f_check_barred : List Da → R Da := runF false v_check_barred 5
theorem fv_check_barred (T : Txt K mg) : FnV PySem.Challenge.pw_kerbcall_k27_checked_numbers w K mg base 5 "check_barred" 4 false f_check_barred := by
  obtain ⟨fA, fd, F, hm, bd⟩ := T.d_check_barred
  have sS : FnScope ["numbers", "pairs", "paper", "plan", "total"] ["numbers", "pairs", "paper", "plan"] (defScope (topS 52)) := ⟨rfl, rfl, rfl, by decide +kernel, rfl, by decide +kernel, by decide +kernel⟩
  refine fnV_mk (nl := 5) F hm sS bd rfl rfl (by decide) fun cdv B out t G E gd rm => ?_
  have h64 := Nat.lt_of_le_of_lt (Nat.add_le_add_left (by decide : 64 ≤ 200) _) (Nat.lt_of_le_of_lt (Nat.add_le_add_right (Nat.le_add_right _ (16 * 4)) 200) rm.un)
  have h65 := Nat.lt_of_le_of_lt (Nat.add_le_add_left (by decide : 65 ≤ 200) _) (Nat.lt_of_le_of_lt (Nat.add_le_add_right (Nat.le_add_right _ (16 * 4)) 200) rm.un)
  have tk : Takes (cxOf (L2.CX PySem.Challenge.pw_kerbcall_k27_checked_numbers w) PySem.Challenge.pw_kerbcall_k27_checked_numbers w K mg base ["numbers", "pairs", "paper", "plan", "total"] "check_barred" (defScope (topS 52)) fA cdv B out t G E) (fun cls d _ H => E cls d H) := takes_of rfl rfl rfl rfl
  have po : PassesOwn (model PySem.Challenge.pw_kerbcall_k27_checked_numbers w) (B.deeper (envOfC "check_barred" (defScope (topS 52)) t.heap.objs.size fA cdv)) (cxOf (L2.CX PySem.Challenge.pw_kerbcall_k27_checked_numbers w) PySem.Challenge.pw_kerbcall_k27_checked_numbers w K mg base ["numbers", "pairs", "paper", "plan", "total"] "check_barred" (defScope (topS 52)) fA cdv B out t G E).env (cxOf (L2.CX PySem.Challenge.pw_kerbcall_k27_checked_numbers w) PySem.Challenge.pw_kerbcall_k27_checked_numbers w K mg base ["numbers", "pairs", "paper", "plan", "total"] "check_barred" (defScope (topS 52)) fA cdv B out t G E).xe := passes_of (X := cxOf (L2.CX PySem.Challenge.pw_kerbcall_k27_checked_numbers w) PySem.Challenge.pw_kerbcall_k27_checked_numbers w K mg base ["numbers", "pairs", "paper", "plan", "total"] "check_barred" (defScope (topS 52)) fA cdv B out t G E) rfl
  exact (bv_cons (sv_set (i := 4) sS.nd rfl (.inl rfl) (ev_call (fv_half_sum T) (rm.mono (by decide)) gd tk (by rfl) (av_cons (ev_var (pv 0)) (av_cons (ev_var (pv 3)) av_nil)))) (bv_cons (sv_if (WV.t (wv_or (tv_cmp cm2_isN op_isN (ev_var (pv 4)) ev_non (nomark _)) (wv_or1 (tv_not (tv_val (ev_call (fv_check_pairing T) (rm.mono (by decide)) gd tk (by rfl) (av_cons (ev_var (pv 0)) (av_cons (ev_var (pv 1)) (av_cons (ev_var (pv 2)) av_nil))))))))) (bv_cons (sv_ret ev_bl) bv_nil) bv_nil) (bv_cons (sv_ret (ev_cmp cm2_I op_gt (ev_var (pv 4)) (ev_mul ev_int (ev_call (fv_pairing_sum T) (rm.mono (by decide)) gd tk (by rfl) (av_cons (ev_var (pv 0)) (av_cons (ev_var (pv 1)) av_nil)))) (nomark _))) bv_nil)))
/-! _law_error(e): 0 e, 1 kinds, 2 names -/
def v__law_error : En → SRs := sSeq (sSet 1 (eD (aCons (eIs tb 0 "TooMany") (aCons (eIs tb 0 "BadNumbers") (aCons (eIs tb 0 "BadPairing") (aCons (eIs tb 0 "WrongSize") (aCons (eIs tb 0 "OutOfRange") (aCons (eIs tb 0 "BadPools") (aNil))))))))) (sSeq (sSet 2 (eD (aCons (eC (.str "many")) (aCons (eC (.str "numbers")) (aCons (eC (.str "pairing")) (aCons (eC (.str "size")) (aCons (eC (.str "range")) (aCons (eC (.str "pools")) (aNil))))))))) (sSeq (sIf (tOr' (t2 qNe (eM1 gCount (eL (eVar 1)) (eC (.bool true))) (eC (.int 1))) (eT (e1 (isTy "bool") (eAt tb 0)))) (sSeq (sRet (eTup (aCons (eC (.str "error")) (aCons (eC (.str "other")) (aCons (eAt tb 0) (aNil)))))) (sNil)) (sNil)) (sSeq (sRet (eTup (aCons (eC (.str "error")) (aCons (e2 dIx (eVar 2) (eM1 gIndex (eL (eVar 1)) (eC (.bool true)))) (aCons (eAt tb 0) (aNil)))))) (sNil))))
def fe__law_error : Str → Int → R Da := runE v__law_error 3
theorem fw__law_error (T : Txt K mg) : FnE PySem.Challenge.pw_kerbcall_k27_checked_numbers w K mg base 1 "_law_error" fe__law_error := by
  obtain ⟨fA, fd, F, hm, bd⟩ := T.d__law_error
  have sS : FnScope ["e", "kinds", "names"] ["e"] (defScope (topS 61)) := ⟨rfl, rfl, rfl, by decide +kernel, rfl, by decide +kernel, by decide +kernel⟩
  refine fnE_mk (nl := 3) F hm sS bd rfl rfl (by decide) fun cdv B out t G E ad oe rm => ?_
  have h64 := Nat.lt_of_le_of_lt (Nat.add_le_add_left (by decide : 64 ≤ 200) _) (Nat.lt_of_le_of_lt (Nat.add_le_add_right (Nat.le_add_right _ (16 * 0)) 200) rm.un)
  have h65 := Nat.lt_of_le_of_lt (Nat.add_le_add_left (by decide : 65 ≤ 200) _) (Nat.lt_of_le_of_lt (Nat.add_le_add_right (Nat.le_add_right _ (16 * 0)) 200) rm.un)
  exact (bv_cons (sv_set (i := 1) sS.nd rfl (.inl rfl) (EF.v (ef_lst (av_cons (ev_is T.krs.choose_spec.choose_spec (by decide) (pv 0) (by rfl) T.m_isinstance (by rfl)) (av_cons (ev_is T.krs.choose_spec.choose_spec (by decide) (pv 0) (by rfl) T.m_isinstance (by rfl)) (av_cons (ev_is T.krs.choose_spec.choose_spec (by decide) (pv 0) (by rfl) T.m_isinstance (by rfl)) (av_cons (ev_is T.krs.choose_spec.choose_spec (by decide) (pv 0) (by rfl) T.m_isinstance (by rfl)) (av_cons (ev_is T.krs.choose_spec.choose_spec (by decide) (pv 0) (by rfl) T.m_isinstance (by rfl)) (av_cons (ev_is T.krs.choose_spec.choose_spec (by decide) (pv 0) (by rfl) T.m_isinstance (by rfl)) av_nil))))))))) (bv_cons (sv_set (i := 2) sS.nd rfl (.inl rfl) (EF.v (ef_lst (av_cons ev_str (av_cons ev_str (av_cons ev_str (av_cons ev_str (av_cons ev_str (av_cons ev_str av_nil))))))))) (bv_cons (sv_if (WV.t (wv_or (tv_cmp cm2_neQ (op_neQ h64) (ev_count h65 (EV.s (ev_var (pv 1))) ev_bl) ev_int (nomark _)) (wv_or1 (tv_val (ev_isTy (by rfl) T.m_isinstance (by rfl) T.m_bool (by decide +kernel) (ev_at T.krs.choose_spec.choose_spec (pv 0))))))) (bv_cons (sv_ret (ev_tup (av_cons ev_str (av_cons ev_str (av_cons (ev_at T.krs.choose_spec.choose_spec (pv 0)) av_nil))))) bv_nil) bv_nil) (bv_cons (sv_ret (ev_tup (av_cons ev_str (av_cons (ev_ix (ev_var (pv 2)) (ev_index h65 (EV.s (ev_var (pv 1))) ev_bl) (fun _ _ => rfl)) (av_cons (ev_at T.krs.choose_spec.choose_spec (pv 0)) av_nil))))) bv_nil))))
/-! _law_asked(which, numbers): 0 which, 1 numbers, 2 e -/
def st__law_asked_1 : En → SRs := sRetX (eAp f_pairing_sum (aCons (eVar 1) (aCons (eD (aCons (eTup (aCons (eC (.int 9)) (aCons (eC (.int 9)) (aNil)))) (aNil))) (aNil))))
def st__law_asked_2 : En → SRs := sRetX (eAp f_check_pairing (aCons (eVar 1) (aCons (eD (aCons (eTup (aCons (eC (.int 9)) (aCons (eC (.int 9)) (aNil)))) (aNil))) (aCons (eTup (aCons (eD (aNil)) (aCons (eD (aNil)) (aNil)))) (aNil)))))
def st__law_asked_3 : En → SRs := sRetX (eAp f_half_sum (aCons (eVar 1) (aCons (eTup (aCons (eD (aCons (eTup (aCons (eC (.int 9)) (aCons (eC (.int 9)) (aNil)))) (aNil))) (aCons (eD (aNil)) (aNil)))) (aNil))))
def st__law_asked_4 : En → SRs := sRetX (eAp f_check_half (aCons (eVar 1) (aCons (eTup (aCons (eD (aCons (eTup (aCons (eC (.int 9)) (aCons (eC (.int 9)) (aNil)))) (aNil))) (aCons (eD (aNil)) (aNil)))) (aCons (eD (aNil)) (aNil)))))
def st__law_asked_5 : En → SRs := sRetX (eAp f_check_stable (aCons (eVar 1) (aCons (eD (aCons (eTup (aCons (eC (.int 9)) (aCons (eC (.int 9)) (aNil)))) (aNil))) (aCons (eD (aNil)) (aNil)))))
def st__law_asked_6 : En → SRs := sRetX (eAp f_check_barred (aCons (eVar 1) (aCons (eD (aCons (eTup (aCons (eC (.int 9)) (aCons (eC (.int 9)) (aNil)))) (aNil))) (aCons (eTup (aCons (eD (aNil)) (aCons (eD (aNil)) (aNil)))) (aCons (eTup (aCons (eD (aCons (eTup (aCons (eC (.int 9)) (aCons (eC (.int 9)) (aNil)))) (aNil))) (aCons (eD (aNil)) (aNil)))) (aNil))))))
def st__law_asked_7 : En → SRs := sIf (t2 qEq (eVar 0) (eC (.int 0))) (sSeq (sRetX (eAp f_check_numbers (aCons (eVar 1) (aNil)))) (sNil)) (sNil)
def st__law_asked_8 : En → SRs := sIf (t2 qEq (eVar 0) (eC (.int 1))) (sSeq (sRetF (eApL f_pairing (aCons (eVar 1) (aNil)))) (sNil)) (sNil)
def st__law_asked_9 : En → SRs := sIf (t2 qEq (eVar 0) (eC (.int 2))) (sSeq (sRetX (eAp f_greatest_sum (aCons (eVar 1) (aNil)))) (sNil)) (sNil)
def st__law_asked_10 : En → SRs := sIf (t2 qEq (eVar 0) (eC (.int 4))) (sSeq (sRetX (eAp f_pairing_paper (aCons (eVar 1) (aNil)))) (sNil)) (sNil)
def st__law_asked_11 : En → SRs := sIf (t2 qEq (eVar 0) (eC (.int 6))) (sSeq (sRetF (eApL f_adds (aCons (eVar 1) (aNil)))) (sNil)) (sNil)
def st__law_asked_12 : En → SRs := sIf (t2 qEq (eVar 0) (eC (.int 7))) (sSeq (sRetX (eAp f_half_plan (aCons (eVar 1) (aNil)))) (sNil)) (sNil)
def st__law_asked_13 : En → SRs := sIf (t2 qEq (eVar 0) (eC (.int 8))) (sSeq (sRetF (eApL f_half_prices (aCons (eVar 1) (aNil)))) (sNil)) (sNil)
def st__law_asked_14 : En → SRs := sIf (t2 qEq (eVar 0) (eC (.int 10))) (sSeq (sRetX (eAp f_bears (aCons (eVar 1) (aCons (eD (aNil)) (aNil))))) (sNil)) (sNil)
def st__law_asked_15 : En → SRs := sIf (t2 qEq (eVar 0) (eC (.int 12))) (sSeq (sRetX (eAp f_stable_prices (aCons (eVar 1) (aNil)))) (sNil)) (sNil)
def st__law_asked_16 : En → SRs := sIf (t2 qEq (eVar 0) (eC (.int 13))) (sSeq (sRetX (eAp f_paid_in (aCons (eVar 1) (aNil)))) (sNil)) (sNil)
def st__law_asked_17 : En → SRs := sIf (t2 qEq (eVar 0) (eC (.int 14))) (sSeq (sRetX (eAp f_bars (aCons (eVar 1) (aNil)))) (sNil)) (sNil)
def st__law_asked_18 : En → SRs := sRetX (eAp f_leaves (aCons (eVar 1) (aCons (eD (eRep (aCons (eC (.int 1)) (aNil)) (eC (.int 99)))) (aNil))))
def bl__law_asked_1 : En → SRs := sSeq (st__law_asked_7) (sSeq (st__law_asked_8) (sSeq (st__law_asked_9) (sSeq (sIf (t2 qEq (eVar 0) (eC (.int 3))) (sSeq (st__law_asked_1) (sNil)) (sNil)) (sSeq (st__law_asked_10) (sSeq (sIf (t2 qEq (eVar 0) (eC (.int 5))) (sSeq (st__law_asked_2) (sNil)) (sNil)) (sSeq (st__law_asked_11) (sSeq (st__law_asked_12) (sSeq (st__law_asked_13) (sSeq (sIf (t2 qEq (eVar 0) (eC (.int 9))) (sSeq (st__law_asked_3) (sNil)) (sNil)) (sSeq (st__law_asked_14) (sSeq (sIf (t2 qEq (eVar 0) (eC (.int 11))) (sSeq (st__law_asked_4) (sNil)) (sNil)) (sSeq (st__law_asked_15) (sSeq (st__law_asked_16) (sSeq (st__law_asked_17) (sSeq (sIf (t2 qEq (eVar 0) (eC (.int 15))) (sSeq (st__law_asked_5) (sNil)) (sNil)) (sSeq (sIf (t2 qEq (eVar 0) (eC (.int 16))) (sSeq (st__law_asked_6) (sNil)) (sNil)) (sSeq (st__law_asked_18) (sNil))))))))))))))))))
def bl__law_asked_2 : En → SRs := sSeq (sRetX (eCallE fe__law_error 2)) (sNil)
def v__law_asked : En → SRs := sSeq (sTry tb 2 bl__law_asked_1 bl__law_asked_2) (sNil)
def f__law_asked : List Da → R Da := runF true v__law_asked 3
theorem fv__law_asked (T : Txt K mg) : FnV PySem.Challenge.pw_kerbcall_k27_checked_numbers w K mg base 6 "_law_asked" 2 true f__law_asked := by
  obtain ⟨fA, fd, F, hm, bd⟩ := T.d__law_asked
  have sS : FnScope ["which", "numbers", "e"] ["which", "numbers"] (defScope (topS 62)) := ⟨rfl, rfl, rfl, by decide +kernel, rfl, by decide +kernel, by decide +kernel⟩
  refine fnV_mk (nl := 3) F hm sS bd rfl rfl (by decide) fun cdv B out t G E gd rm => ?_
  have h64 := Nat.lt_of_le_of_lt (Nat.add_le_add_left (by decide : 64 ≤ 200) _) (Nat.lt_of_le_of_lt (Nat.add_le_add_right (Nat.le_add_right _ (16 * 5)) 200) rm.un)
  have h65 := Nat.lt_of_le_of_lt (Nat.add_le_add_left (by decide : 65 ≤ 200) _) (Nat.lt_of_le_of_lt (Nat.add_le_add_right (Nat.le_add_right _ (16 * 5)) 200) rm.un)
  have tk : Takes (cxOf (L2.CX PySem.Challenge.pw_kerbcall_k27_checked_numbers w) PySem.Challenge.pw_kerbcall_k27_checked_numbers w K mg base ["which", "numbers", "e"] "_law_asked" (defScope (topS 62)) fA cdv B out t G E) (fun cls d _ H => E cls d H) := takes_of rfl rfl rfl rfl
  have po : PassesOwn (model PySem.Challenge.pw_kerbcall_k27_checked_numbers w) (B.deeper (envOfC "_law_asked" (defScope (topS 62)) t.heap.objs.size fA cdv)) (cxOf (L2.CX PySem.Challenge.pw_kerbcall_k27_checked_numbers w) PySem.Challenge.pw_kerbcall_k27_checked_numbers w K mg base ["which", "numbers", "e"] "_law_asked" (defScope (topS 62)) fA cdv B out t G E).env (cxOf (L2.CX PySem.Challenge.pw_kerbcall_k27_checked_numbers w) PySem.Challenge.pw_kerbcall_k27_checked_numbers w K mg base ["which", "numbers", "e"] "_law_asked" (defScope (topS 62)) fA cdv B out t G E).xe := passes_of (X := cxOf (L2.CX PySem.Challenge.pw_kerbcall_k27_checked_numbers w) PySem.Challenge.pw_kerbcall_k27_checked_numbers w K mg base ["which", "numbers", "e"] "_law_asked" (defScope (topS 62)) fA cdv B out t G E) rfl
  exact (bv_cons (sv_try (i := 2) T.krs.choose_spec.choose_spec rfl rfl rfl sS.nd rfl rfl rfl tk (fun _ _ _ tk2 po2 => (bv_cons (sv_if (tv_cmp cm2_eqQ (op_eqQ h64) (ev_var (pv 0)) ev_int (nomark _)) (bv_cons (sv_retX (ev_call (fv_check_numbers T) (rm.mono (by decide)) gd tk2 (by rfl) (av_cons (ev_var (pv 1)) av_nil))) bv_nil) bv_nil) (bv_cons (sv_if (tv_cmp cm2_eqQ (op_eqQ h64) (ev_var (pv 0)) ev_int (nomark _)) (bv_cons (sv_retF (ef_call (fv_pairing T) (rm.mono (by decide)) gd tk2 (by rfl) (av_cons (ev_var (pv 1)) av_nil))) bv_nil) bv_nil) (bv_cons (sv_if (tv_cmp cm2_eqQ (op_eqQ h64) (ev_var (pv 0)) ev_int (nomark _)) (bv_cons (sv_retX (ev_call (fv_greatest_sum T) (rm.mono (by decide)) gd tk2 (by rfl) (av_cons (ev_var (pv 1)) av_nil))) bv_nil) bv_nil) (bv_cons (sv_if (tv_cmp cm2_eqQ (op_eqQ h64) (ev_var (pv 0)) ev_int (nomark _)) (bv_cons (sv_retX (ev_call (fv_pairing_sum T) (rm.mono (by decide)) gd tk2 (by rfl) (av_cons (ev_var (pv 1)) (av_cons (EF.v (ef_lst (av_cons (ev_tup (av_cons ev_int (av_cons ev_int av_nil))) av_nil))) av_nil)))) bv_nil) bv_nil) (bv_cons (sv_if (tv_cmp cm2_eqQ (op_eqQ h64) (ev_var (pv 0)) ev_int (nomark _)) (bv_cons (sv_retX (ev_call (fv_pairing_paper T) (rm.mono (by decide)) gd tk2 (by rfl) (av_cons (ev_var (pv 1)) av_nil))) bv_nil) bv_nil) (bv_cons (sv_if (tv_cmp cm2_eqQ (op_eqQ h64) (ev_var (pv 0)) ev_int (nomark _)) (bv_cons (sv_retX (ev_call (fv_check_pairing T) (rm.mono (by decide)) gd tk2 (by rfl) (av_cons (ev_var (pv 1)) (av_cons (EF.v (ef_lst (av_cons (ev_tup (av_cons ev_int (av_cons ev_int av_nil))) av_nil))) (av_cons (ev_tup (av_cons (EF.v (ef_lst av_nil)) (av_cons (EF.v (ef_lst av_nil)) av_nil))) av_nil))))) bv_nil) bv_nil) (bv_cons (sv_if (tv_cmp cm2_eqQ (op_eqQ h64) (ev_var (pv 0)) ev_int (nomark _)) (bv_cons (sv_retF (ef_call (fv_adds T) (rm.mono (by decide)) gd tk2 (by rfl) (av_cons (ev_var (pv 1)) av_nil))) bv_nil) bv_nil) (bv_cons (sv_if (tv_cmp cm2_eqQ (op_eqQ h64) (ev_var (pv 0)) ev_int (nomark _)) (bv_cons (sv_retX (ev_call (fv_half_plan T) (rm.mono (by decide)) gd tk2 (by rfl) (av_cons (ev_var (pv 1)) av_nil))) bv_nil) bv_nil) (bv_cons (sv_if (tv_cmp cm2_eqQ (op_eqQ h64) (ev_var (pv 0)) ev_int (nomark _)) (bv_cons (sv_retF (ef_call (fv_half_prices T) (rm.mono (by decide)) gd tk2 (by rfl) (av_cons (ev_var (pv 1)) av_nil))) bv_nil) bv_nil) (bv_cons (sv_if (tv_cmp cm2_eqQ (op_eqQ h64) (ev_var (pv 0)) ev_int (nomark _)) (bv_cons (sv_retX (ev_call (fv_half_sum T) (rm.mono (by decide)) gd tk2 (by rfl) (av_cons (ev_var (pv 1)) (av_cons (ev_tup (av_cons (EF.v (ef_lst (av_cons (ev_tup (av_cons ev_int (av_cons ev_int av_nil))) av_nil))) (av_cons (EF.v (ef_lst av_nil)) av_nil))) av_nil)))) bv_nil) bv_nil) (bv_cons (sv_if (tv_cmp cm2_eqQ (op_eqQ h64) (ev_var (pv 0)) ev_int (nomark _)) (bv_cons (sv_retX (ev_call (fv_bears T) (rm.mono (by decide)) gd tk2 (by rfl) (av_cons (ev_var (pv 1)) (av_cons (EF.v (ef_lst av_nil)) av_nil)))) bv_nil) bv_nil) (bv_cons (sv_if (tv_cmp cm2_eqQ (op_eqQ h64) (ev_var (pv 0)) ev_int (nomark _)) (bv_cons (sv_retX (ev_call (fv_check_half T) (rm.mono (by decide)) gd tk2 (by rfl) (av_cons (ev_var (pv 1)) (av_cons (ev_tup (av_cons (EF.v (ef_lst (av_cons (ev_tup (av_cons ev_int (av_cons ev_int av_nil))) av_nil))) (av_cons (EF.v (ef_lst av_nil)) av_nil))) (av_cons (EF.v (ef_lst av_nil)) av_nil))))) bv_nil) bv_nil) (bv_cons (sv_if (tv_cmp cm2_eqQ (op_eqQ h64) (ev_var (pv 0)) ev_int (nomark _)) (bv_cons (sv_retX (ev_call (fv_stable_prices T) (rm.mono (by decide)) gd tk2 (by rfl) (av_cons (ev_var (pv 1)) av_nil))) bv_nil) bv_nil) (bv_cons (sv_if (tv_cmp cm2_eqQ (op_eqQ h64) (ev_var (pv 0)) ev_int (nomark _)) (bv_cons (sv_retX (ev_call (fv_paid_in T) (rm.mono (by decide)) gd tk2 (by rfl) (av_cons (ev_var (pv 1)) av_nil))) bv_nil) bv_nil) (bv_cons (sv_if (tv_cmp cm2_eqQ (op_eqQ h64) (ev_var (pv 0)) ev_int (nomark _)) (bv_cons (sv_retX (ev_call (fv_bars T) (rm.mono (by decide)) gd tk2 (by rfl) (av_cons (ev_var (pv 1)) av_nil))) bv_nil) bv_nil) (bv_cons (sv_if (tv_cmp cm2_eqQ (op_eqQ h64) (ev_var (pv 0)) ev_int (nomark _)) (bv_cons (sv_retX (ev_call (fv_check_stable T) (rm.mono (by decide)) gd tk2 (by rfl) (av_cons (ev_var (pv 1)) (av_cons (EF.v (ef_lst (av_cons (ev_tup (av_cons ev_int (av_cons ev_int av_nil))) av_nil))) (av_cons (EF.v (ef_lst av_nil)) av_nil))))) bv_nil) bv_nil) (bv_cons (sv_if (tv_cmp cm2_eqQ (op_eqQ h64) (ev_var (pv 0)) ev_int (nomark _)) (bv_cons (sv_retX (ev_call (fv_check_barred T) (rm.mono (by decide)) gd tk2 (by rfl) (av_cons (ev_var (pv 1)) (av_cons (EF.v (ef_lst (av_cons (ev_tup (av_cons ev_int (av_cons ev_int av_nil))) av_nil))) (av_cons (ev_tup (av_cons (EF.v (ef_lst av_nil)) (av_cons (EF.v (ef_lst av_nil)) av_nil))) (av_cons (ev_tup (av_cons (EF.v (ef_lst (av_cons (ev_tup (av_cons ev_int (av_cons ev_int av_nil))) av_nil))) (av_cons (EF.v (ef_lst av_nil)) av_nil))) av_nil)))))) bv_nil) bv_nil) (bv_cons (sv_retX (ev_call (fv_leaves T) (rm.mono (by decide)) gd tk2 (by rfl) (av_cons (ev_var (pv 1)) (av_cons (EF.v (ef_rep (EF.s (ef_lst (av_cons ev_int av_nil))) ev_int)) av_nil)))) bv_nil))))))))))))))))))) (fun _ _ _ => (bv_cons (sv_retX (ev_callE (fw__law_error T) (rm.mono (by decide)) (by rfl) (pv 2))) bv_nil))) bv_nil)
/-! _law_all_refuse(numbers, due): 0 numbers, 1 due, 2 which -/
def v__law_all_refuse : En → SRs := sSeq (sRet (eB (t2 qEq (eAp gLen (aCons (eD (eLc [2] (eR1 (eC (.int 18))) (gNm 2) (tNo (eT (eAp f__law_same (aCons (eAp f__law_asked (aCons (eVar 2) (aCons (eVar 0) (aNil)))) (aCons (eVar 1) (aNil)))))) (eVar 2))) (aNil))) (eC (.int 0))))) (sNil)
def f__law_all_refuse : List Da → R Da := runF false v__law_all_refuse 3
theorem fv__law_all_refuse (T : Txt K mg) : FnV PySem.Challenge.pw_kerbcall_k27_checked_numbers w K mg base 9 "_law_all_refuse" 2 false f__law_all_refuse := by
  obtain ⟨fA, fd, F, hm, bd⟩ := T.d__law_all_refuse
  have sS : FnScope ["numbers", "due", "which"] ["numbers", "due"] (defScope (topS 65)) := ⟨rfl, rfl, rfl, by decide +kernel, rfl, by decide +kernel, by decide +kernel⟩
  refine fnV_mk (nl := 3) F hm sS bd rfl rfl (by decide) fun cdv B out t G E gd rm => ?_
  have h64 := Nat.lt_of_le_of_lt (Nat.add_le_add_left (by decide : 64 ≤ 200) _) (Nat.lt_of_le_of_lt (Nat.add_le_add_right (Nat.le_add_right _ (16 * 8)) 200) rm.un)
  have h65 := Nat.lt_of_le_of_lt (Nat.add_le_add_left (by decide : 65 ≤ 200) _) (Nat.lt_of_le_of_lt (Nat.add_le_add_right (Nat.le_add_right _ (16 * 8)) 200) rm.un)
  have tk : Takes (cxOf (L2.CX PySem.Challenge.pw_kerbcall_k27_checked_numbers w) PySem.Challenge.pw_kerbcall_k27_checked_numbers w K mg base ["numbers", "due", "which"] "_law_all_refuse" (defScope (topS 65)) fA cdv B out t G E) (fun cls d _ H => E cls d H) := takes_of rfl rfl rfl rfl
  have po : PassesOwn (model PySem.Challenge.pw_kerbcall_k27_checked_numbers w) (B.deeper (envOfC "_law_all_refuse" (defScope (topS 65)) t.heap.objs.size fA cdv)) (cxOf (L2.CX PySem.Challenge.pw_kerbcall_k27_checked_numbers w) PySem.Challenge.pw_kerbcall_k27_checked_numbers w K mg base ["numbers", "due", "which"] "_law_all_refuse" (defScope (topS 65)) fA cdv B out t G E).env (cxOf (L2.CX PySem.Challenge.pw_kerbcall_k27_checked_numbers w) PySem.Challenge.pw_kerbcall_k27_checked_numbers w K mg base ["numbers", "due", "which"] "_law_all_refuse" (defScope (topS 65)) fA cdv B out t G E).xe := passes_of (X := cxOf (L2.CX PySem.Challenge.pw_kerbcall_k27_checked_numbers w) PySem.Challenge.pw_kerbcall_k27_checked_numbers w K mg base ["numbers", "due", "which"] "_law_all_refuse" (defScope (topS 65)) fA cdv B out t G E) rfl
  exact (bv_cons (sv_ret (ev_cmp cm2_eqQ (op_eqQ h64) (ev_callB cs_len call_len (by rfl) T.m_len (by decide +kernel) (av_cons (EF.v (ef_lc rfl sS.nd (iv_rng1 (by rfl) T.m_range ev_int) (blkOk_by (own := [("which", 2)]) (by first | rfl | kernel_rfl)) (by decide) (fun _ _ _ _ _ => (gv_name sS.nd rfl (.inl rfl))) (fun _ _ _ _ _ => (iv_one (tv_not (tv_val (ev_call (fv__law_same T) (rm.mono (by decide)) gd takes0 (by rfl) (av_cons (ev_callX (fv__law_asked T) (rm.mono (by decide)) gd takes0 (by rfl) (av_cons (ev_var (pv 2)) (av_cons (ev_var (pv 0)) av_nil))) (av_cons (ev_var (pv 1)) av_nil))))))) (fun _ _ _ _ _ => (ev_var (pv 2))))) av_nil)) ev_int (nomark _))) bv_nil)
/-! _law_top(draws, k): 0 draws, 1 k -/
def v__law_top : En → SRs := sSeq (sRet (e2 dIx (eD (aCons (eC (.int 1)) (aCons (eC (.int 2)) (aCons (eC (.int 3)) (aCons (eC (.int 9)) (aCons (eC (.int 1000)) (aCons (eC (.int 1000000000)) (aNil)))))))) (eAp f__law_mix (aCons (eVar 0) (aCons (eVar 1) (aCons (eC (.int 6)) (aNil))))))) (sNil)
def f__law_top : List Da → R Da := runF false v__law_top 2
theorem fv__law_top (T : Txt K mg) : FnV PySem.Challenge.pw_kerbcall_k27_checked_numbers w K mg base 2 "_law_top" 2 false f__law_top := by
  obtain ⟨fA, fd, F, hm, bd⟩ := T.d__law_top
  have sS : FnScope ["draws", "k"] ["draws", "k"] (defScope (topS 59)) := ⟨rfl, rfl, rfl, by decide +kernel, rfl, by decide +kernel, by decide +kernel⟩
  refine fnV_mk (nl := 2) F hm sS bd rfl rfl (by decide) fun cdv B out t G E gd rm => ?_
  have h64 := Nat.lt_of_le_of_lt (Nat.add_le_add_left (by decide : 64 ≤ 200) _) (Nat.lt_of_le_of_lt (Nat.add_le_add_right (Nat.le_add_right _ (16 * 1)) 200) rm.un)
  have h65 := Nat.lt_of_le_of_lt (Nat.add_le_add_left (by decide : 65 ≤ 200) _) (Nat.lt_of_le_of_lt (Nat.add_le_add_right (Nat.le_add_right _ (16 * 1)) 200) rm.un)
  have tk : Takes (cxOf (L2.CX PySem.Challenge.pw_kerbcall_k27_checked_numbers w) PySem.Challenge.pw_kerbcall_k27_checked_numbers w K mg base ["draws", "k"] "_law_top" (defScope (topS 59)) fA cdv B out t G E) (fun cls d _ H => E cls d H) := takes_of rfl rfl rfl rfl
  have po : PassesOwn (model PySem.Challenge.pw_kerbcall_k27_checked_numbers w) (B.deeper (envOfC "_law_top" (defScope (topS 59)) t.heap.objs.size fA cdv)) (cxOf (L2.CX PySem.Challenge.pw_kerbcall_k27_checked_numbers w) PySem.Challenge.pw_kerbcall_k27_checked_numbers w K mg base ["draws", "k"] "_law_top" (defScope (topS 59)) fA cdv B out t G E).env (cxOf (L2.CX PySem.Challenge.pw_kerbcall_k27_checked_numbers w) PySem.Challenge.pw_kerbcall_k27_checked_numbers w K mg base ["draws", "k"] "_law_top" (defScope (topS 59)) fA cdv B out t G E).xe := passes_of (X := cxOf (L2.CX PySem.Challenge.pw_kerbcall_k27_checked_numbers w) PySem.Challenge.pw_kerbcall_k27_checked_numbers w K mg base ["draws", "k"] "_law_top" (defScope (topS 59)) fA cdv B out t G E) rfl
  exact (bv_cons (sv_ret (ev_ix (EF.v (ef_lst (av_cons ev_int (av_cons ev_int (av_cons ev_int (av_cons ev_int (av_cons ev_int (av_cons ev_int av_nil)))))))) (ev_call (fv__law_mix T) (rm.mono (by decide)) gd tk (by rfl) (av_cons (ev_var (pv 0)) (av_cons (ev_var (pv 1)) (av_cons ev_int av_nil)))) (fun _ _ => rfl))) bv_nil)
/-! _law_spoilt(draws, at, numbers): 0 draws, 1 at, 2 numbers, 3 singles, 4 pairs, 5 kind, 6 k, 7 i, 8 j, 9 number, 10 menu, 11 other -/
def st__law_spoilt_1 : En → SRs := sSet 6 (eApF f__law_mix (aCons (eVar 0) (aCons (e2 dAdd (eVar 1) (eC (.int 1))) (aCons (eAp gLen (aCons (eVarB 3) (aNil))) (aNil)))))
def st__law_spoilt_2 : En → SRs := sSetIx 3 (eVar 6) (e2 dIx (eD (aCons (e1 dNeg (eC (.int 1))) (aCons (eC (.int 1000000001)) (aCons (e1 dNeg (eC (.int 1000000001))) (aCons (eC (.int 1000000000)) (aNil)))))) (eAp f__law_mix (aCons (eVar 0) (aCons (e2 dAdd (eVar 1) (eC (.int 2))) (aCons (eC (.int 4)) (aNil))))))
def st__law_spoilt_3 : En → SRs := sSetIx 4 (eVar 6) (e2 dIx (eVar 10) (eAp f__law_mix (aCons (eVar 0) (aCons (e2 dAdd (eVar 1) (eC (.int 3))) (aCons (eC (.int 8)) (aNil))))))
def st__law_spoilt_4 : En → SRs := sSetF 4 (eCat (eCat (eSl (eOwn 4) (oNo) (oSo (eVar 6))) (aCons (eIxS (eOwn 4) (eVar 6)) (aNil))) (eSl (eOwn 4) (oSo (eVar 6)) (oNo)))
def st__law_spoilt_5 : En → SRs := sSet 11 (eApF f__law_mix (aCons (eVar 0) (aCons (e2 dAdd (eVar 1) (eC (.int 3))) (aCons (eAp gLen (aCons (eVarB 4) (aNil))) (aNil)))))
def st__law_spoilt_6 : En → SRs := sSetIx 4 (eVar 11) (eTup (aCons (eVar 7) (aCons (eVar 8) (aCons (eVar 9) (aNil)))))
def st__law_spoilt_7 : En → SRs := sIf (t2 qEq (eVar 5) (eC (.int 8))) (sSeq (st__law_spoilt_4) (sNil)) (sSeq (st__law_spoilt_5) (sSeq (sSetIx 4 (eVar 6) (eIxS (eOwn 4) (eVar 11))) (sSeq (st__law_spoilt_6) (sNil))))
def st__law_spoilt_8 : En → SRs := sParF 3 4 (eL (e2 dIx (eVar 2) (eC (.int 0)))) (eL (e2 dIx (eVar 2) (eC (.int 1))))
def st__law_spoilt_9 : En → SRs := sSet 5 (eAp f__law_mix (aCons (eVar 0) (aCons (eVar 1) (aCons (eC (.int 10)) (aNil)))))
def st__law_spoilt_10 : En → SRs := sIf (tOr' (t2 cLt (eVar 5) (eC (.int 2))) (t2 qEq (eVarB 4) (eD (aNil)))) (sSeq (st__law_spoilt_1) (sSeq (st__law_spoilt_2) (sSeq (sFz 4 (sFz 3 (sRet (eTup (aCons (eVar 3) (aCons (eVar 4) (aNil))))))) (sNil)))) (sNil)
def st__law_spoilt_11 : En → SRs := sSet 6 (eApF f__law_mix (aCons (eVar 0) (aCons (e2 dAdd (eVar 1) (eC (.int 1))) (aCons (eAp gLen (aCons (eVarB 4) (aNil))) (aNil)))))
def st__law_spoilt_12 : En → SRs := sPat (gTp 3 (gsCons (gNm 7) (gsCons (gNm 8) (gsCons (gNm 9) (gsNil))))) (eIxS (eOwn 4) (eVar 6))
def st__law_spoilt_13 : En → SRs := sSet 10 (eD (aCons (eTup (aCons (eVar 7) (aCons (eVar 8) (aCons (e1 dNeg (eC (.int 1))) (aNil))))) (aCons (eTup (aCons (eVar 7) (aCons (eVar 8) (aCons (eC (.int 1000000001)) (aNil))))) (aCons (eTup (aCons (eVar 8) (aCons (eVar 7) (aCons (eVar 9) (aNil))))) (aCons (eTup (aCons (eVar 7) (aCons (eVar 7) (aCons (eVar 9) (aNil))))) (aCons (eTup (aCons (e1 dNeg (eC (.int 1))) (aCons (eVar 8) (aCons (eVar 9) (aNil))))) (aCons (eTup (aCons (eVar 7) (aCons (eAp gLen (aCons (eVarB 3) (aNil))) (aCons (eVar 9) (aNil))))) (aCons (eTup (aCons (eVar 7) (aCons (eVar 8) (aCons (eC (.int 1000000000)) (aNil))))) (aCons (eTup (aCons (eVar 7) (aCons (eVar 8) (aCons (eC (.int 0)) (aNil))))) (aNil))))))))))
def st__law_spoilt_14 : En → SRs := sIf (t2 cLt (eVar 5) (eC (.int 8))) (sSeq (st__law_spoilt_3) (sNil)) (sSeq (st__law_spoilt_7) (sNil))
def v__law_spoilt : En → SRs := sSeq (st__law_spoilt_8) (sSeq (st__law_spoilt_9) (sSeq (st__law_spoilt_10) (sSeq (st__law_spoilt_11) (sSeq (st__law_spoilt_12) (sSeq (st__law_spoilt_13) (sSeq (st__law_spoilt_14) (sSeq (sFz 4 (sFz 3 (sRet (eTup (aCons (eVar 3) (aCons (eVar 4) (aNil))))))) (sNil))))))))
def f__law_spoilt : List Da → R Da := runF false v__law_spoilt 12
theorem fv__law_spoilt (T : Txt K mg) : FnV PySem.Challenge.pw_kerbcall_k27_checked_numbers w K mg base 2 "_law_spoilt" 3 false f__law_spoilt := by
  obtain ⟨fA, fd, F, hm, bd⟩ := T.d__law_spoilt
  have sS : FnScope ["draws", "at", "numbers", "singles", "pairs", "kind", "k", "i", "j", "number", "menu", "other"] ["draws", "at", "numbers"] (defScope (topS 64)) := ⟨rfl, rfl, rfl, by decide +kernel, rfl, by decide +kernel, by decide +kernel⟩
  refine fnV_mk (nl := 12) F hm sS bd rfl rfl (by decide) fun cdv B out t G E gd rm => ?_
  have h64 := Nat.lt_of_le_of_lt (Nat.add_le_add_left (by decide : 64 ≤ 200) _) (Nat.lt_of_le_of_lt (Nat.add_le_add_right (Nat.le_add_right _ (16 * 1)) 200) rm.un)
  have h65 := Nat.lt_of_le_of_lt (Nat.add_le_add_left (by decide : 65 ≤ 200) _) (Nat.lt_of_le_of_lt (Nat.add_le_add_right (Nat.le_add_right _ (16 * 1)) 200) rm.un)
  have tk : Takes (cxOf (L2.CX PySem.Challenge.pw_kerbcall_k27_checked_numbers w) PySem.Challenge.pw_kerbcall_k27_checked_numbers w K mg base ["draws", "at", "numbers", "singles", "pairs", "kind", "k", "i", "j", "number", "menu", "other"] "_law_spoilt" (defScope (topS 64)) fA cdv B out t G E) (fun cls d _ H => E cls d H) := takes_of rfl rfl rfl rfl
  have po : PassesOwn (model PySem.Challenge.pw_kerbcall_k27_checked_numbers w) (B.deeper (envOfC "_law_spoilt" (defScope (topS 64)) t.heap.objs.size fA cdv)) (cxOf (L2.CX PySem.Challenge.pw_kerbcall_k27_checked_numbers w) PySem.Challenge.pw_kerbcall_k27_checked_numbers w K mg base ["draws", "at", "numbers", "singles", "pairs", "kind", "k", "i", "j", "number", "menu", "other"] "_law_spoilt" (defScope (topS 64)) fA cdv B out t G E).env (cxOf (L2.CX PySem.Challenge.pw_kerbcall_k27_checked_numbers w) PySem.Challenge.pw_kerbcall_k27_checked_numbers w K mg base ["draws", "at", "numbers", "singles", "pairs", "kind", "k", "i", "j", "number", "menu", "other"] "_law_spoilt" (defScope (topS 64)) fA cdv B out t G E).xe := passes_of (X := cxOf (L2.CX PySem.Challenge.pw_kerbcall_k27_checked_numbers w) PySem.Challenge.pw_kerbcall_k27_checked_numbers w K mg base ["draws", "at", "numbers", "singles", "pairs", "kind", "k", "i", "j", "number", "menu", "other"] "_law_spoilt" (defScope (topS 64)) fA cdv B out t G E) rfl
  exact (bv_cons (sv_parF (i := 3) (j := 4) (by rfl) sS.nd rfl rfl (by decide) rfl rfl (ef_list (by rfl) T.m_list (EV.s (ev_ix (ev_var (pv 2)) ev_int (fun _ _ => rfl)))) (ef_list (by rfl) T.m_list (EV.s (ev_ix (ev_var (pv 2)) ev_int (fun _ _ => rfl)))) (by rfl)) (bv_cons (sv_set (i := 5) sS.nd rfl (.inl rfl) (ev_call (fv__law_mix T) (rm.mono (by decide)) gd tk (by rfl) (av_cons (ev_var (pv 0)) (av_cons (ev_var (pv 1)) (av_cons ev_int av_nil))))) (bv_cons (sv_if (WV.t (wv_or (tv_cmp cm2_I op_lt (ev_var (pv 5)) ev_int (nomark _)) (wv_or1 (tv_cmp cm2_eqQ (op_eqQ h64) (ev_varB (pv 4)) (ev_lst av_nil) (nomark _))))) (bv_cons (sv_set (i := 6) sS.nd rfl (.inl rfl) (ev_callF (fv__law_mix T) (rm.mono (by decide)) gd tk (by rfl) (av_cons (ev_var (pv 0)) (av_cons (ev_add (ev_var (pv 1)) ev_int) (av_cons (ev_callB cs_len call_len (by rfl) T.m_len (by decide +kernel) (av_cons (ev_varB (pv 3)) av_nil)) av_nil))))) (bv_cons (sv_setix (pv 3) (ev_var (pv 6)) (ev_ix (EF.v (ef_lst (av_cons (ev_neg ev_int) (av_cons ev_int (av_cons (ev_neg ev_int) (av_cons ev_int av_nil)))))) (ev_call (fv__law_mix T) (rm.mono (by decide)) gd tk (by rfl) (av_cons (ev_var (pv 0)) (av_cons (ev_add (ev_var (pv 1)) ev_int) (av_cons ev_int av_nil)))) (fun _ _ => rfl))) (bv_cons (sv_fz (i := 4) (sv_fz (i := 3) (sv_ret (ev_tup (av_cons (ev_var (pv 3)) (av_cons (ev_var (pv 4)) av_nil)))))) bv_nil))) bv_nil) (bv_cons (sv_set (i := 6) sS.nd rfl (.inl rfl) (ev_callF (fv__law_mix T) (rm.mono (by decide)) gd tk (by rfl) (av_cons (ev_var (pv 0)) (av_cons (ev_add (ev_var (pv 1)) ev_int) (av_cons (ev_callB cs_len call_len (by rfl) T.m_len (by decide +kernel) (av_cons (ev_varB (pv 4)) av_nil)) av_nil))))) (bv_cons (sv_pat (ev_ixS (es_var (pv 4)) (ev_var (pv 6)) (fun _ _ => rfl)) (gv_tup rfl (gsv_cons (gv_name sS.nd rfl (.inl rfl)) (gsv_cons (gv_name sS.nd rfl (.inl rfl)) (gsv_cons (gv_name sS.nd rfl (.inl rfl)) gsv_nil))))) (bv_cons (sv_set (i := 10) sS.nd rfl (.inl rfl) (EF.v (ef_lst (av_cons (ev_tup (av_cons (ev_var (pv 7)) (av_cons (ev_var (pv 8)) (av_cons (ev_neg ev_int) av_nil)))) (av_cons (ev_tup (av_cons (ev_var (pv 7)) (av_cons (ev_var (pv 8)) (av_cons ev_int av_nil)))) (av_cons (ev_tup (av_cons (ev_var (pv 8)) (av_cons (ev_var (pv 7)) (av_cons (ev_var (pv 9)) av_nil)))) (av_cons (ev_tup (av_cons (ev_var (pv 7)) (av_cons (ev_var (pv 7)) (av_cons (ev_var (pv 9)) av_nil)))) (av_cons (ev_tup (av_cons (ev_neg ev_int) (av_cons (ev_var (pv 8)) (av_cons (ev_var (pv 9)) av_nil)))) (av_cons (ev_tup (av_cons (ev_var (pv 7)) (av_cons (ev_callB cs_len call_len (by rfl) T.m_len (by decide +kernel) (av_cons (ev_varB (pv 3)) av_nil)) (av_cons (ev_var (pv 9)) av_nil)))) (av_cons (ev_tup (av_cons (ev_var (pv 7)) (av_cons (ev_var (pv 8)) (av_cons ev_int av_nil)))) (av_cons (ev_tup (av_cons (ev_var (pv 7)) (av_cons (ev_var (pv 8)) (av_cons ev_int av_nil)))) av_nil))))))))))) (bv_cons (sv_if (tv_cmp cm2_I op_lt (ev_var (pv 5)) ev_int (nomark _)) (bv_cons (sv_setix (pv 4) (ev_var (pv 6)) (ev_ix (ev_var (pv 10)) (ev_call (fv__law_mix T) (rm.mono (by decide)) gd tk (by rfl) (av_cons (ev_var (pv 0)) (av_cons (ev_add (ev_var (pv 1)) ev_int) (av_cons ev_int av_nil)))) (fun _ _ => rfl))) bv_nil) (bv_cons (sv_if (tv_cmp cm2_eqQ (op_eqQ h64) (ev_var (pv 5)) ev_int (nomark _)) (bv_cons (sv_setF (i := 4) sS.nd rfl (.inl rfl) (ef_cat (EF.s (ef_cat (EF.s (ef_sl (es_var (pv 4)) ov_none (ov_some (ev_var (pv 6))))) (EF.s (ef_lst (av_cons (ev_ixS (es_var (pv 4)) (ev_var (pv 6)) (fun _ _ => rfl)) av_nil))))) (EF.s (ef_sl (es_var (pv 4)) (ov_some (ev_var (pv 6))) ov_none)))) bv_nil) (bv_cons (sv_set (i := 11) sS.nd rfl (.inl rfl) (ev_callF (fv__law_mix T) (rm.mono (by decide)) gd tk (by rfl) (av_cons (ev_var (pv 0)) (av_cons (ev_add (ev_var (pv 1)) ev_int) (av_cons (ev_callB cs_len call_len (by rfl) T.m_len (by decide +kernel) (av_cons (ev_varB (pv 4)) av_nil)) av_nil))))) (bv_cons (sv_setix (pv 4) (ev_var (pv 6)) (ev_ixS (es_var (pv 4)) (ev_var (pv 11)) (fun _ _ => rfl))) (bv_cons (sv_setix (pv 4) (ev_var (pv 11)) (ev_tup (av_cons (ev_var (pv 7)) (av_cons (ev_var (pv 8)) (av_cons (ev_var (pv 9)) av_nil))))) bv_nil)))) bv_nil)) (bv_cons (sv_fz (i := 4) (sv_fz (i := 3) (sv_ret (ev_tup (av_cons (ev_var (pv 3)) (av_cons (ev_var (pv 4)) av_nil)))))) bv_nil))))))))
/-! _law_fault(numbers): 0 numbers, 1 singles, 2 pairs, 3 k, 4 i, 5 j, 6 number, 7 wrong -/
def st__law_fault_1 : En → SRs := sRet (eTup (aCons (eC (.str "error")) (aCons (eC (.str "many")) (aCons (eAp gLen (aCons (eVar 1) (aNil))) (aNil)))))
def st__law_fault_2 : En → SRs := sRet (eTup (aCons (eC (.str "error")) (aCons (eC (.str "numbers")) (aCons (eVar 3) (aNil)))))
def st__law_fault_3 : En → SRs := sIf (tOr' (t2 cLt (e2 dIx (eVar 1) (eVar 3)) (eC (.int 0))) (t2 cGt (e2 dIx (eVar 1) (eVar 3)) (eC (.int 1000000000)))) (sSeq (st__law_fault_2) (sNil)) (sNil)
def bl__law_fault_1 : En → SRs := sSeq (st__law_fault_3) (sNil)
def st__law_fault_4 : En → SRs := sRet (eTup (aCons (eC (.str "error")) (aCons (eC (.str "numbers")) (aCons (e2 dAdd (eAp gLen (aCons (eVar 1) (aNil))) (eVar 3)) (aNil)))))
def st__law_fault_5 : En → SRs := sPat (gTp 3 (gsCons (gNm 4) (gsCons (gNm 5) (gsCons (gNm 6) (gsNil))))) (e2 dIx (eVar 2) (eVar 3))
def st__law_fault_6 : En → SRs := sSet 7 (eB (tOr' (eT (eB (t2 cLt (eVar 4) (eC (.int 0))))) (tOr' (eT (eB (t2 cGe (eVar 5) (eAp gLen (aCons (eVar 1) (aNil)))))) (tOr' (eT (eB (t2 cGe (eVar 4) (eVar 5)))) (tOr' (eT (eB (t2 cLt (eVar 6) (eC (.int 0))))) (eT (eB (t2 cGt (eVar 6) (eC (.int 1000000000))))))))))
def st__law_fault_7 : En → SRs := sIf (tOr' (eT (eVar 7)) (tAn (t2 cGt (eVar 3) (eC (.int 0))) (t2 cLeP (eTup (aCons (eVar 4) (aCons (eVar 5) (aNil)))) (eSlT (e2 dIx (eVar 2) (e2 dSub (eVar 3) (eC (.int 1)))) (oNo) (oSo (eC (.int 2))))))) (sSeq (st__law_fault_4) (sNil)) (sNil)
def bl__law_fault_2 : En → SRs := sSeq (st__law_fault_5) (sSeq (st__law_fault_6) (sSeq (st__law_fault_7) (sNil)))
def st__law_fault_8 : En → SRs := sIf (t2 cGt (eAp gLen (aCons (eVar 1) (aNil))) (eC (.int 40))) (sSeq (st__law_fault_1) (sNil)) (sNil)
def v__law_fault : En → SRs := sSeq (sPat (gTp 2 (gsCons (gNm 1) (gsCons (gNm 2) (gsNil)))) (eVar 0)) (sSeq (st__law_fault_8) (sSeq (sFor (eR1 (eAp gLen (aCons (eVar 1) (aNil)))) (gNm 3) bl__law_fault_1) (sSeq (sFor (eR1 (eAp gLen (aCons (eVar 2) (aNil)))) (gNm 3) bl__law_fault_2) (sSeq (sRet (eC .none)) (sNil)))))
def f__law_fault : List Da → R Da := runF false v__law_fault 8
theorem fv__law_fault (T : Txt K mg) : FnV PySem.Challenge.pw_kerbcall_k27_checked_numbers w K mg base 1 "_law_fault" 1 false f__law_fault := by
  obtain ⟨fA, fd, F, hm, bd⟩ := T.d__law_fault
  have sS : FnScope ["numbers", "singles", "pairs", "k", "i", "j", "number", "wrong"] ["numbers"] (defScope (topS 63)) := ⟨rfl, rfl, rfl, by decide +kernel, rfl, by decide +kernel, by decide +kernel⟩
  refine fnV_mk (nl := 8) F hm sS bd rfl rfl (by decide) fun cdv B out t G E gd rm => ?_
  have h64 := Nat.lt_of_le_of_lt (Nat.add_le_add_left (by decide : 64 ≤ 200) _) (Nat.lt_of_le_of_lt (Nat.add_le_add_right (Nat.le_add_right _ (16 * 0)) 200) rm.un)
  have h65 := Nat.lt_of_le_of_lt (Nat.add_le_add_left (by decide : 65 ≤ 200) _) (Nat.lt_of_le_of_lt (Nat.add_le_add_right (Nat.le_add_right _ (16 * 0)) 200) rm.un)
  have tk : Takes (cxOf (L2.CX PySem.Challenge.pw_kerbcall_k27_checked_numbers w) PySem.Challenge.pw_kerbcall_k27_checked_numbers w K mg base ["numbers", "singles", "pairs", "k", "i", "j", "number", "wrong"] "_law_fault" (defScope (topS 63)) fA cdv B out t G E) (fun cls d _ H => E cls d H) := takes_of rfl rfl rfl rfl
  have po : PassesOwn (model PySem.Challenge.pw_kerbcall_k27_checked_numbers w) (B.deeper (envOfC "_law_fault" (defScope (topS 63)) t.heap.objs.size fA cdv)) (cxOf (L2.CX PySem.Challenge.pw_kerbcall_k27_checked_numbers w) PySem.Challenge.pw_kerbcall_k27_checked_numbers w K mg base ["numbers", "singles", "pairs", "k", "i", "j", "number", "wrong"] "_law_fault" (defScope (topS 63)) fA cdv B out t G E).env (cxOf (L2.CX PySem.Challenge.pw_kerbcall_k27_checked_numbers w) PySem.Challenge.pw_kerbcall_k27_checked_numbers w K mg base ["numbers", "singles", "pairs", "k", "i", "j", "number", "wrong"] "_law_fault" (defScope (topS 63)) fA cdv B out t G E).xe := passes_of (X := cxOf (L2.CX PySem.Challenge.pw_kerbcall_k27_checked_numbers w) PySem.Challenge.pw_kerbcall_k27_checked_numbers w K mg base ["numbers", "singles", "pairs", "k", "i", "j", "number", "wrong"] "_law_fault" (defScope (topS 63)) fA cdv B out t G E) rfl
  exact (bv_cons (sv_pat (ev_var (pv 0)) (gv_tup rfl (gsv_cons (gv_name sS.nd rfl (.inl rfl)) (gsv_cons (gv_name sS.nd rfl (.inl rfl)) gsv_nil)))) (bv_cons (sv_if (tv_cmp cm2_I op_gt (ev_callB cs_len call_len (by rfl) T.m_len (by decide +kernel) (av_cons (ev_var (pv 1)) av_nil)) ev_int (nomark _)) (bv_cons (sv_ret (ev_tup (av_cons ev_str (av_cons ev_str (av_cons (ev_callB cs_len call_len (by rfl) T.m_len (by decide +kernel) (av_cons (ev_var (pv 1)) av_nil)) av_nil))))) bv_nil) bv_nil) (bv_cons (sv_for po rfl (iv_rng1 (by rfl) T.m_range (ev_callB cs_len call_len (by rfl) T.m_len (by decide +kernel) (av_cons (ev_var (pv 1)) av_nil))) (gv_name sS.nd rfl (.inl rfl)) (bv_cons (sv_if (WV.t (wv_or (tv_cmp cm2_I op_lt (ev_ix (ev_var (pv 1)) (ev_var (pv 3)) (fun _ _ => rfl)) ev_int (nomark _)) (wv_or1 (tv_cmp cm2_I op_gt (ev_ix (ev_var (pv 1)) (ev_var (pv 3)) (fun _ _ => rfl)) ev_int (nomark _))))) (bv_cons (sv_ret (ev_tup (av_cons ev_str (av_cons ev_str (av_cons (ev_var (pv 3)) av_nil))))) bv_nil) bv_nil) bv_nil)) (bv_cons (sv_for po rfl (iv_rng1 (by rfl) T.m_range (ev_callB cs_len call_len (by rfl) T.m_len (by decide +kernel) (av_cons (ev_var (pv 2)) av_nil))) (gv_name sS.nd rfl (.inl rfl)) (bv_cons (sv_pat (ev_ix (ev_var (pv 2)) (ev_var (pv 3)) (fun _ _ => rfl)) (gv_tup rfl (gsv_cons (gv_name sS.nd rfl (.inl rfl)) (gsv_cons (gv_name sS.nd rfl (.inl rfl)) (gsv_cons (gv_name sS.nd rfl (.inl rfl)) gsv_nil))))) (bv_cons (sv_set (i := 7) sS.nd rfl (.inl rfl) (ev_or (ev_cmp cm2_I op_lt (ev_var (pv 4)) ev_int (nomark _)) (ev_or (ev_cmp cm2_I op_ge (ev_var (pv 5)) (ev_callB cs_len call_len (by rfl) T.m_len (by decide +kernel) (av_cons (ev_var (pv 1)) av_nil)) (nomark _)) (ev_or (ev_cmp cm2_I op_ge (ev_var (pv 4)) (ev_var (pv 5)) (nomark _)) (ev_or (ev_cmp cm2_I op_lt (ev_var (pv 6)) ev_int (nomark _)) (ev_bone (ev_cmp cm2_I op_gt (ev_var (pv 6)) ev_int (nomark _)))))))) (bv_cons (sv_if (WV.t (wv_or (tv_val (ev_var (pv 7))) (wv_or1 (WV.t (wv_and (tv_cmp cm2_I op_gt (ev_var (pv 3)) ev_int (nomark _)) (wv_and1 (tv_cmp cm2_leP (op_leT (Nat.lt_of_le_of_lt (Nat.le_add_right _ _) h64)) (ev_tup (av_cons (ev_var (pv 4)) (av_cons (ev_var (pv 5)) av_nil))) (ev_slT (ev_ix (ev_var (pv 2)) (ev_sub (ev_var (pv 3)) ev_int) (fun _ _ => rfl)) ov_none (ov_some ev_int)) (nomark _)))))))) (bv_cons (sv_ret (ev_tup (av_cons ev_str (av_cons ev_str (av_cons (ev_add (ev_callB cs_len call_len (by rfl) T.m_len (by decide +kernel) (av_cons (ev_var (pv 1)) av_nil)) (ev_var (pv 3))) av_nil))))) bv_nil) bv_nil) bv_nil)))) (bv_cons (sv_ret ev_non) bv_nil)))))
/-! law(script): 0 script, 1 draws, 2 turn, 3 at, 4 many, 5 numbers, 6 kept, 7 spoil, 8 bad, 9 due, 10 more -/
def st_law_1 : En → SRs := sSet 8 (eAp f__law_spoilt (aCons (eVar 1) (aCons (e2 dAdd (e2 dAdd (eVar 3) (eC (.int 1800))) (e2 dMul (eC (.int 10)) (eVar 7))) (aCons (eVar 8) (aNil)))))
def st_law_2 : En → SRs := sSet 8 (eAp f__law_spoilt (aCons (eVar 1) (aCons (e2 dAdd (e2 dAdd (eVar 3) (eC (.int 1700))) (e2 dMul (eC (.int 10)) (eVar 7))) (aCons (eVar 5) (aNil)))))
def st_law_3 : En → SRs := sIf (tAn (t2 cIsN (eVar 9) (eC .none)) (tNo (eT (eAp f__law_same (aCons (eAp f__law_asked (aCons (eC (.int 0)) (aCons (eVar 8) (aNil)))) (aCons (eC .none) (aNil))))))) (sSeq (sRet (eC (.bool false))) (sNil)) (sNil)
def st_law_4 : En → SRs := sIf (tAn (t2 cNotN (eVar 9) (eC .none)) (tNo (eT (eAp f__law_all_refuse (aCons (eVar 8) (aCons (eVar 9) (aNil))))))) (sSeq (sRet (eC (.bool false))) (sNil)) (sNil)
def bl_law_1 : En → SRs := sSeq (st_law_2) (sSeq (sIf (t2 cGt (eVar 7) (eC (.int 3))) (sSeq (st_law_1) (sNil)) (sNil)) (sSeq (sSet 9 (eAp f__law_fault (aCons (eVar 8) (aNil)))) (sSeq (st_law_3) (sSeq (st_law_4) (sNil)))))
def st_law_5 : En → SRs := sSet 4 (e2 dIx (eD (aCons (e2 dAdd (eC (.int 1)) (eAp f__law_mix (aCons (eVar 1) (aCons (eVar 3) (aCons (eC (.int 6)) (aNil)))))) (aCons (e2 dAdd (eC (.int 3)) (eAp f__law_mix (aCons (eVar 1) (aCons (eVar 3) (aCons (eC (.int 5)) (aNil)))))) (aCons (eC (.int 40)) (aCons (e2 dAdd (eC (.int 1)) (eAp f__law_mix (aCons (eVar 1) (aCons (eVar 3) (aCons (eC (.int 40)) (aNil)))))) (aNil)))))) (eVar 2))
def st_law_6 : En → SRs := sSet 5 (eAp f__law_numbers (aCons (eVar 1) (aCons (e2 dAdd (eVar 3) (eC (.int 10))) (aCons (eVar 4) (aCons (eAp f__law_top (aCons (eVar 1) (aCons (e2 dAdd (eVar 3) (eC (.int 1))) (aNil)))) (aCons (e2 dIx (eD (aCons (eC (.int 4)) (aCons (eC (.int 2)) (aCons (eC (.int 1)) (aCons (eC (.int 3)) (aNil)))))) (eAp f__law_mix (aCons (eVar 1) (aCons (e2 dAdd (eVar 3) (eC (.int 2))) (aCons (eC (.int 4)) (aNil)))))) (aNil)))))))
def st_law_7 : En → SRs := sIf (tNo (eT (eAp f__law_same (aCons (eAp f__law_asked (aCons (eC (.int 0)) (aCons (eVar 5) (aNil)))) (aCons (eC .none) (aNil)))))) (sSeq (sRet (eC (.bool false))) (sNil)) (sNil)
def st_law_8 : En → SRs := sIf (t2 qNe (eAp gReprA (aCons (eVar 5) (aNil))) (eVar 6)) (sSeq (sRet (eC (.bool false))) (sNil)) (sNil)
def bl_law_2 : En → SRs := sSeq (sSet 3 (e2 dAdd (eC (.int 30)) (e2 dMul (eC (.int 2000)) (eVar 2)))) (sSeq (st_law_5) (sSeq (st_law_6) (sSeq (sSet 6 (eAp gReprA (aCons (eVar 5) (aNil)))) (sSeq (st_law_7) (sSeq (sFor (eR1 (eC (.int 6))) (gNm 7) bl_law_1) (sSeq (st_law_8) (sNil)))))))
def st_law_9 : En → SRs := sIf (tNo (eT (eAp f__law_all_refuse (aCons (eVar 8) (aCons (eTup (aCons (eC (.str "error")) (aCons (eC (.str "many")) (aCons (eAp gLen (aCons (e2 dIx (eVar 8) (eC (.int 0))) (aNil))) (aNil))))) (aNil)))))) (sSeq (sRet (eC (.bool false))) (sNil)) (sNil)
def bl_law_3 : En → SRs := sSeq (st_law_9) (sNil)
def st_law_10 : En → SRs := sSet 10 (e2 dAdd (eC (.int 41)) (eAp f__law_mix (aCons (eVar 1) (aCons (eC (.int 3)) (aCons (eC (.int 20)) (aNil))))))
def st_law_11 : En → SRs := sFor (aCons (eTup (aCons (eD (eRep (aCons (eC (.int 0)) (aNil)) (eVar 10))) (aCons (eD (aNil)) (aNil)))) (aCons (eTup (aCons (eD (eCat (eRep (aCons (eC (.int 0)) (aNil)) (eC (.int 40))) (aCons (e1 dNeg (eC (.int 1))) (aNil)))) (aCons (eD (aCons (eTup (aCons (eC (.int 0)) (aCons (eC (.int 1)) (aCons (e1 dNeg (eC (.int 1))) (aNil))))) (aNil))) (aNil)))) (aCons (eTup (aCons (eD (eRep (aCons (e1 dNeg (eC (.int 1))) (aNil)) (eVar 10))) (aCons (eD (aCons (eTup (aCons (eC (.int 1)) (aCons (eC (.int 0)) (aCons (eC (.int 5)) (aNil))))) (aNil))) (aNil)))) (aNil)))) (gNm 8) bl_law_3
def st_law_12 : En → SRs := sSet 9 (eTup (aCons (eC (.str "error")) (aCons (eC (.str "numbers")) (aCons (eC (.int 2)) (aNil)))))
def st_law_13 : En → SRs := sRet (eB (tAn (eT (eAp f__law_all_refuse (aCons (eTup (aCons (eD (aCons (eC (.int 3)) (aCons (eC (.int 4)) (aNil)))) (aCons (eD (aCons (eTup (aCons (eC (.int 0)) (aCons (eC (.int 1)) (aCons (e1 dNeg (eC (.int 1))) (aNil))))) (aNil))) (aNil)))) (aCons (eVar 9) (aNil))))) (tAn (eT (eAp f__law_all_refuse (aCons (eTup (aCons (eD (aCons (eC (.int 3)) (aCons (e1 dNeg (eC (.int 4))) (aNil)))) (aCons (eD (aCons (eTup (aCons (eC (.int 1)) (aCons (eC (.int 0)) (aCons (eC (.int 5)) (aNil))))) (aNil))) (aNil)))) (aCons (eTup (aCons (eC (.str "error")) (aCons (eC (.str "numbers")) (aCons (eC (.int 1)) (aNil))))) (aNil))))) (eT (eAp f__law_same (aCons (eAp f__law_asked (aCons (eC (.int 0)) (aCons (eTup (aCons (eD (aNil)) (aCons (eD (aNil)) (aNil)))) (aNil)))) (aCons (eC .none) (aNil))))))))
def v_law : En → SRs := sSeq (sSet 1 (eAp f__law_draws (aCons (eVar 0) (aNil)))) (sSeq (sFor (eR1 (eC (.int 4))) (gNm 2) bl_law_2) (sSeq (st_law_10) (sSeq (st_law_11) (sSeq (st_law_12) (sSeq (st_law_13) (sNil))))))
def f_law : List Da → R Da := runF false v_law 11
theorem fv_law (T : Txt K mg) : FnV PySem.Challenge.pw_kerbcall_k27_checked_numbers w K mg base 10 "law" 1 false f_law := by
  obtain ⟨fA, fd, F, hm, bd⟩ := T.d_law
  have sS : FnScope ["script", "draws", "turn", "at", "many", "numbers", "kept", "spoil", "bad", "due", "more"] ["script"] (defScope (topS 66)) := ⟨rfl, rfl, rfl, by decide +kernel, rfl, by decide +kernel, by decide +kernel⟩
  refine fnV_mk (nl := 11) F hm sS bd rfl rfl (by decide) fun cdv B out t G E gd rm => ?_
  have h64 := Nat.lt_of_le_of_lt (Nat.add_le_add_left (by decide : 64 ≤ 200) _) (Nat.lt_of_le_of_lt (Nat.add_le_add_right (Nat.le_add_right _ (16 * 9)) 200) rm.un)
  have h65 := Nat.lt_of_le_of_lt (Nat.add_le_add_left (by decide : 65 ≤ 200) _) (Nat.lt_of_le_of_lt (Nat.add_le_add_right (Nat.le_add_right _ (16 * 9)) 200) rm.un)
  have tk : Takes (cxOf (L2.CX PySem.Challenge.pw_kerbcall_k27_checked_numbers w) PySem.Challenge.pw_kerbcall_k27_checked_numbers w K mg base ["script", "draws", "turn", "at", "many", "numbers", "kept", "spoil", "bad", "due", "more"] "law" (defScope (topS 66)) fA cdv B out t G E) (fun cls d _ H => E cls d H) := takes_of rfl rfl rfl rfl
  have po : PassesOwn (model PySem.Challenge.pw_kerbcall_k27_checked_numbers w) (B.deeper (envOfC "law" (defScope (topS 66)) t.heap.objs.size fA cdv)) (cxOf (L2.CX PySem.Challenge.pw_kerbcall_k27_checked_numbers w) PySem.Challenge.pw_kerbcall_k27_checked_numbers w K mg base ["script", "draws", "turn", "at", "many", "numbers", "kept", "spoil", "bad", "due", "more"] "law" (defScope (topS 66)) fA cdv B out t G E).env (cxOf (L2.CX PySem.Challenge.pw_kerbcall_k27_checked_numbers w) PySem.Challenge.pw_kerbcall_k27_checked_numbers w K mg base ["script", "draws", "turn", "at", "many", "numbers", "kept", "spoil", "bad", "due", "more"] "law" (defScope (topS 66)) fA cdv B out t G E).xe := passes_of (X := cxOf (L2.CX PySem.Challenge.pw_kerbcall_k27_checked_numbers w) PySem.Challenge.pw_kerbcall_k27_checked_numbers w K mg base ["script", "draws", "turn", "at", "many", "numbers", "kept", "spoil", "bad", "due", "more"] "law" (defScope (topS 66)) fA cdv B out t G E) rfl
  exact (bv_cons (sv_set (i := 1) sS.nd rfl (.inl rfl) (ev_callX (fv__law_draws T) (rm.mono (by decide)) gd tk (by rfl) (av_cons (ev_var (pv 0)) av_nil))) (bv_cons (sv_for po rfl (iv_rng1 (by rfl) T.m_range ev_int) (gv_name sS.nd rfl (.inl rfl)) (bv_cons (sv_set (i := 3) sS.nd rfl (.inl rfl) (ev_add ev_int (ev_mul ev_int (ev_var (pv 2))))) (bv_cons (sv_set (i := 4) sS.nd rfl (.inl rfl) (ev_ix (EF.v (ef_lst (av_cons (ev_add ev_int (ev_call (fv__law_mix T) (rm.mono (by decide)) gd tk (by rfl) (av_cons (ev_var (pv 1)) (av_cons (ev_var (pv 3)) (av_cons ev_int av_nil))))) (av_cons (ev_add ev_int (ev_call (fv__law_mix T) (rm.mono (by decide)) gd tk (by rfl) (av_cons (ev_var (pv 1)) (av_cons (ev_var (pv 3)) (av_cons ev_int av_nil))))) (av_cons ev_int (av_cons (ev_add ev_int (ev_call (fv__law_mix T) (rm.mono (by decide)) gd tk (by rfl) (av_cons (ev_var (pv 1)) (av_cons (ev_var (pv 3)) (av_cons ev_int av_nil))))) av_nil)))))) (ev_var (pv 2)) (fun _ _ => rfl))) (bv_cons (sv_set (i := 5) sS.nd rfl (.inl rfl) (ev_call (fv__law_numbers T) (rm.mono (by decide)) gd tk (by rfl) (av_cons (ev_var (pv 1)) (av_cons (ev_add (ev_var (pv 3)) ev_int) (av_cons (ev_var (pv 4)) (av_cons (ev_call (fv__law_top T) (rm.mono (by decide)) gd tk (by rfl) (av_cons (ev_var (pv 1)) (av_cons (ev_add (ev_var (pv 3)) ev_int) av_nil))) (av_cons (ev_ix (EF.v (ef_lst (av_cons ev_int (av_cons ev_int (av_cons ev_int (av_cons ev_int av_nil)))))) (ev_call (fv__law_mix T) (rm.mono (by decide)) gd tk (by rfl) (av_cons (ev_var (pv 1)) (av_cons (ev_add (ev_var (pv 3)) ev_int) (av_cons ev_int av_nil)))) (fun _ _ => rfl)) av_nil))))))) (bv_cons (sv_set (i := 6) sS.nd rfl (.inl rfl) (ev_callB cs_reprA (call_reprA gd h64) (by rfl) T.m_repr (by decide +kernel) (av_cons (ev_var (pv 5)) av_nil))) (bv_cons (sv_if (tv_not (tv_val (ev_call (fv__law_same T) (rm.mono (by decide)) gd tk (by rfl) (av_cons (ev_callX (fv__law_asked T) (rm.mono (by decide)) gd tk (by rfl) (av_cons ev_int (av_cons (ev_var (pv 5)) av_nil))) (av_cons ev_non av_nil))))) (bv_cons (sv_ret ev_bl) bv_nil) bv_nil) (bv_cons (sv_for po rfl (iv_rng1 (by rfl) T.m_range ev_int) (gv_name sS.nd rfl (.inl rfl)) (bv_cons (sv_set (i := 8) sS.nd rfl (.inl rfl) (ev_call (fv__law_spoilt T) (rm.mono (by decide)) gd tk (by rfl) (av_cons (ev_var (pv 1)) (av_cons (ev_add (ev_add (ev_var (pv 3)) ev_int) (ev_mul ev_int (ev_var (pv 7)))) (av_cons (ev_var (pv 5)) av_nil))))) (bv_cons (sv_if (tv_cmp cm2_I op_gt (ev_var (pv 7)) ev_int (nomark _)) (bv_cons (sv_set (i := 8) sS.nd rfl (.inl rfl) (ev_call (fv__law_spoilt T) (rm.mono (by decide)) gd tk (by rfl) (av_cons (ev_var (pv 1)) (av_cons (ev_add (ev_add (ev_var (pv 3)) ev_int) (ev_mul ev_int (ev_var (pv 7)))) (av_cons (ev_var (pv 8)) av_nil))))) bv_nil) bv_nil) (bv_cons (sv_set (i := 9) sS.nd rfl (.inl rfl) (ev_call (fv__law_fault T) (rm.mono (by decide)) gd tk (by rfl) (av_cons (ev_var (pv 8)) av_nil))) (bv_cons (sv_if (WV.t (wv_and (tv_cmp cm2_isN op_isN (ev_var (pv 9)) ev_non (nomark _)) (wv_and1 (tv_not (tv_val (ev_call (fv__law_same T) (rm.mono (by decide)) gd tk (by rfl) (av_cons (ev_callX (fv__law_asked T) (rm.mono (by decide)) gd tk (by rfl) (av_cons ev_int (av_cons (ev_var (pv 8)) av_nil))) (av_cons ev_non av_nil)))))))) (bv_cons (sv_ret ev_bl) bv_nil) bv_nil) (bv_cons (sv_if (WV.t (wv_and (tv_cmp cm2_notN op_notN (ev_var (pv 9)) ev_non (nomark _)) (wv_and1 (tv_not (tv_val (ev_call (fv__law_all_refuse T) (rm.mono (by decide)) gd tk (by rfl) (av_cons (ev_var (pv 8)) (av_cons (ev_var (pv 9)) av_nil)))))))) (bv_cons (sv_ret ev_bl) bv_nil) bv_nil) bv_nil)))))) (bv_cons (sv_if (tv_cmp cm2_neQ (op_neQ h64) (ev_callB cs_reprA (call_reprA gd h64) (by rfl) T.m_repr (by decide +kernel) (av_cons (ev_var (pv 5)) av_nil)) (ev_var (pv 6)) (nomark _)) (bv_cons (sv_ret ev_bl) bv_nil) bv_nil) bv_nil)))))))) (bv_cons (sv_set (i := 10) sS.nd rfl (.inl rfl) (ev_add ev_int (ev_call (fv__law_mix T) (rm.mono (by decide)) gd tk (by rfl) (av_cons (ev_var (pv 1)) (av_cons ev_int (av_cons ev_int av_nil)))))) (bv_cons (sv_for po rfl (iv_list' (EF.l (ef_lst (av_cons (ev_tup (av_cons (EF.v (ef_rep (EF.s (ef_lst (av_cons ev_int av_nil))) (ev_var (pv 10)))) (av_cons (EF.v (ef_lst av_nil)) av_nil))) (av_cons (ev_tup (av_cons (EF.v (ef_cat (EF.s (ef_rep (EF.s (ef_lst (av_cons ev_int av_nil))) ev_int)) (EF.s (ef_lst (av_cons (ev_neg ev_int) av_nil))))) (av_cons (EF.v (ef_lst (av_cons (ev_tup (av_cons ev_int (av_cons ev_int (av_cons (ev_neg ev_int) av_nil)))) av_nil))) av_nil))) (av_cons (ev_tup (av_cons (EF.v (ef_rep (EF.s (ef_lst (av_cons (ev_neg ev_int) av_nil))) (ev_var (pv 10)))) (av_cons (EF.v (ef_lst (av_cons (ev_tup (av_cons ev_int (av_cons ev_int (av_cons ev_int av_nil)))) av_nil))) av_nil))) av_nil)))))) (gv_name sS.nd rfl (.inl rfl)) (bv_cons (sv_if (tv_not (tv_val (ev_call (fv__law_all_refuse T) (rm.mono (by decide)) gd tk (by rfl) (av_cons (ev_var (pv 8)) (av_cons (ev_tup (av_cons ev_str (av_cons ev_str (av_cons (ev_callB cs_len call_len (by rfl) T.m_len (by decide +kernel) (av_cons (ev_ix (ev_var (pv 8)) ev_int (fun _ _ => rfl)) av_nil)) av_nil)))) av_nil))))) (bv_cons (sv_ret ev_bl) bv_nil) bv_nil) bv_nil)) (bv_cons (sv_set (i := 9) sS.nd rfl (.inl rfl) (ev_tup (av_cons ev_str (av_cons ev_str (av_cons ev_int av_nil))))) (bv_cons (sv_ret (ev_and (ev_call (fv__law_all_refuse T) (rm.mono (by decide)) gd tk (by rfl) (av_cons (ev_tup (av_cons (ev_lst (av_cons ev_int (av_cons ev_int av_nil))) (av_cons (ev_lst (av_cons (ev_tup (av_cons ev_int (av_cons ev_int (av_cons (ev_neg ev_int) av_nil)))) av_nil)) av_nil))) (av_cons (ev_var (pv 9)) av_nil))) (ev_and (ev_call (fv__law_all_refuse T) (rm.mono (by decide)) gd tk (by rfl) (av_cons (ev_tup (av_cons (ev_lst (av_cons ev_int (av_cons (ev_neg ev_int) av_nil))) (av_cons (ev_lst (av_cons (ev_tup (av_cons ev_int (av_cons ev_int (av_cons ev_int av_nil)))) av_nil)) av_nil))) (av_cons (ev_tup (av_cons ev_str (av_cons ev_str (av_cons ev_int av_nil)))) av_nil))) (ev_bone (ev_call (fv__law_same T) (rm.mono (by decide)) gd tk (by rfl) (av_cons (ev_callX (fv__law_asked T) (rm.mono (by decide)) gd tk (by rfl) (av_cons ev_int (av_cons (ev_tup (av_cons (ev_lst av_nil) (av_cons (ev_lst av_nil) av_nil))) av_nil))) (av_cons ev_non av_nil))))))) bv_nil))))))
end
end K27
namespace K27
open PySem PySem.Spec PyProof.Rows L2 VL
/-! ### drawn numbers -/
def rg (z : Int) : Prop := 0 ≤ z ∧ z < 65536
theorem lx0 {a : Da} {ds : List Da} : dIx (.list (a :: ds)) (.int 0) = .ok a := dIx_nat (ds := a :: ds) (j := 0) rfl
theorem lx1 {a b : Da} {ds : List Da} : dIx (.list (a :: b :: ds)) (.int 1) = .ok b := dIx_nat (ds := a :: b :: ds) (j := 1) rfl
theorem lx2 {a b c : Da} {ds : List Da} : dIx (.list (a :: b :: c :: ds)) (.int 2) = .ok c := dIx_nat (ds := a :: b :: c :: ds) (j := 2) rfl
theorem ix0 {d : Da} {ds : List Da} : dIx (.tuple (d :: ds)) (.int 0) = .ok d := dIx_nat (ds := d :: ds) (j := 0) rfl
theorem ix1 {c d : Da} {ds : List Da} : dIx (.tuple (c :: d :: ds)) (.int 1) = .ok d := dIx_nat (ds := c :: d :: ds) (j := 1) rfl
theorem ix2 {b c d : Da} {ds : List Da} : dIx (.tuple (b :: c :: d :: ds)) (.int 2) = .ok d := dIx_nat (ds := b :: c :: d :: ds) (j := 2) rfl
theorem ix3 {a b c d : Da} {ds : List Da} : dIx (.tuple (a :: b :: c :: d :: ds)) (.int 3) = .ok d := dIx_nat (ds := a :: b :: c :: d :: ds) (j := 3) rfl
theorem max_if (h b : Int) : (if b > h then b else h) = max h b := by
  split <;> omega
theorem min_if (h b : Int) : (if b < h then b else h) = min h b := by
  split <;> omega
theorem toNat_eq {z : Int} (h : 0 ≤ z) : ((z.toNat : Nat) : Int) = z := Int.toNat_of_nonneg h
theorem draw_inner (A S K : Slot) : ∀ (ds : List Da) (xs : List Int) (rest : Int) (s4 : Slot), 0 ≤ rest → (∀ x ∈ xs, rg x) → xs.length + ds.length < 1000000 →
    ∃ (ys : List Int) (rest' : Int) (s4' : Slot), forE (gNm 4) bl__law_draws_1 ds [A, .own (dInts xs), K, .val (.int rest), s4, S] = .go .nx [A, .own (dInts ys), K, .val (.int rest'), s4', S] ∧ (∀ x ∈ ys, rg x) ∧ ys.length ≤ xs.length + ds.length
  | [], xs, rest, s4, _, h, _ => ⟨xs, rest, s4, rfl, h, Nat.le_refl _⟩
  | d :: ds, xs, rest, s4, h0, h, few => by
    rw [List.length_cons] at few
    by_cases q : 0 < rest
    · have r0 := Int.emod_nonneg rest (show (65536 : Int) ≠ 0 by decide)
      have r1 := Int.emod_lt_of_pos rest (show (0 : Int) < 65536 by decide)
      have d0 : 0 ≤ rest / 65536 := Int.ediv_nonneg h0 (by decide)
      obtain ⟨ys, rest', s4', e, h1, h2⟩ := draw_inner A S K ds (xs ++ [rest % 65536]) (rest / 65536) (.val d) d0 (fun x hx => by
        rcases List.mem_append.mp hx with hx | hx
        · exact h x hx
        · rw [List.mem_singleton.mp hx]
          exact ⟨r0, r1⟩) (by rw [List.length_append]; simp only [List.length_cons, List.length_nil]; omega)
      refine ⟨ys, rest', s4', ?_, h1, by rw [List.length_append] at h2; simp only [List.length_cons, List.length_nil] at h2 ⊢; omega⟩
      have ap : sApp 1 (e2 dMod (eAp gInt (aCons (eVar 3) (aNil))) (eC (.int 65536))) [A, .own (dInts xs), K, .val (.int rest), .val d, S] = .go .nx [A, .own (dInts (xs ++ [rest % 65536])), K, .val (.int rest), .val d, S] := by
        rw [q_app (ds := dInts xs) (d := .int (rest % 65536)) rfl (by simp -implicitDefEqProofs only [q_run, q_seq, nx_nx, nx_rt, nx_bk, nx_ct, nx_er, nx_cond, bind_ok, bind_err, bind_cond, sB_ok, sB_err, sB_cond, cond_ok, cond_bool, cond_int, cond_and, cond_or, cond_nand, fin_rt, fin_nx, fin_er, fin_cond, q_nil, q_retN, q_set, q_setF, q_ret, q_retF, q_if, q_retX, q_do, pat_ok, q_pat, q_fz, q_nm, q_tp, q_gcons, q_gnil, q_var0, q_varS, q_own0, q_own1, q_ownS, q_c, q_L, asL_l, q_D, q_B, q_T, asB_b, q_No, q_An, q_Or, q_Ch, q_cN, q_c1, q_2, q_1, q_t2, q_If, q_anil, q_acons, q_tup, q_ap, q_apL, q_apI, q_sl, q_oNo, q_oSo, asO_i, q_ixS, q_m1, q_for, q_add, q_sub, q_neg, q_mul, q_mul', q_div, q_mod, q_p6, q_p9, q_p18, cond_t, cond_f, q_lt, q_le, q_gt, q_ge, q_eqI, q_neI, q_neB, q_eqB, q_neS, q_isN, q_notN, q_notB, q_isB, q_len, q_int, q_intB, q_max2, q_min2, q_R1, q_enum, enumD_F, q_abs, q_forN, q_forC, it_ok, lp_nx, lp_rt, List.map_cons, List.map_nil, List.cons_append, List.nil_append, List.length_cons, List.length_nil, List.replicate_succ, List.replicate_zero, List.set_cons_zero, List.set_cons_succ, Nat.reduceSub, Nat.reduceAdd, Nat.zero_add, Nat.sub_self, Nat.sub_zero, List.append_nil, Int.reduceLT, Int.reduceLE, Int.reduceNeg, Int.reducePow, Nat.reduceLT, Nat.reduceLeDiff, and_self, and_true, true_and, if_true, if_false, reduceIte, decide_true, decide_false, Bool.and_true, Bool.true_and, Bool.false_and, Bool.and_false, Bool.or_false, Bool.false_or, Bool.true_or, Bool.or_true, Bool.not_false, Bool.not_true, beq_self_eq_true]) (by rw [dInts_len]; unfold lim; omega), dInts_app]
        rfl
      rw [q_forC, q_nm, it_ok]
      simp -implicitDefEqProofs only [bl__law_draws_1, decide_eq_true q, ap, q_run, q_seq, nx_nx, nx_rt, nx_bk, nx_ct, nx_er, nx_cond, bind_ok, bind_err, bind_cond, sB_ok, sB_err, sB_cond, cond_ok, cond_bool, cond_int, cond_and, cond_or, cond_nand, fin_rt, fin_nx, fin_er, fin_cond, q_nil, q_retN, q_set, q_setF, q_ret, q_retF, q_if, q_retX, q_do, pat_ok, q_pat, q_fz, q_nm, q_tp, q_gcons, q_gnil, q_var0, q_varS, q_own0, q_own1, q_ownS, q_c, q_L, asL_l, q_D, q_B, q_T, asB_b, q_No, q_An, q_Or, q_Ch, q_cN, q_c1, q_2, q_1, q_t2, q_If, q_anil, q_acons, q_tup, q_ap, q_apL, q_apI, q_sl, q_oNo, q_oSo, asO_i, q_ixS, q_m1, q_for, q_add, q_sub, q_neg, q_mul, q_mul', q_div, q_mod, q_p6, q_p9, q_p18, cond_t, cond_f, q_lt, q_le, q_gt, q_ge, q_eqI, q_neI, q_neB, q_eqB, q_neS, q_isN, q_notN, q_notB, q_isB, q_len, q_int, q_intB, q_max2, q_min2, q_R1, q_enum, enumD_F, q_abs, q_forN, q_forC, it_ok, lp_nx, lp_rt, List.map_cons, List.map_nil, List.cons_append, List.nil_append, List.length_cons, List.length_nil, List.replicate_succ, List.replicate_zero, List.set_cons_zero, List.set_cons_succ, Nat.reduceSub, Nat.reduceAdd, Nat.zero_add, Nat.sub_self, Nat.sub_zero, List.append_nil, Int.reduceLT, Int.reduceLE, Int.reduceNeg, Int.reducePow, Nat.reduceLT, Nat.reduceLeDiff, and_self, and_true, true_and, if_true, if_false, reduceIte, decide_true, decide_false, Bool.and_true, Bool.true_and, Bool.false_and, Bool.and_false, Bool.or_false, Bool.false_or, Bool.true_or, Bool.or_true, Bool.not_false, Bool.not_true, beq_self_eq_true]
      exact e
    · obtain ⟨ys, rest', s4', e, h1, h2⟩ := draw_inner A S K ds xs rest (.val d) h0 h (by omega)
      refine ⟨ys, rest', s4', ?_, h1, by rw [List.length_cons]; omega⟩
      rw [q_forC, q_nm, it_ok]
      simp -implicitDefEqProofs only [bl__law_draws_1, decide_eq_false q, q_run, q_seq, nx_nx, nx_rt, nx_bk, nx_ct, nx_er, nx_cond, bind_ok, bind_err, bind_cond, sB_ok, sB_err, sB_cond, cond_ok, cond_bool, cond_int, cond_and, cond_or, cond_nand, fin_rt, fin_nx, fin_er, fin_cond, q_nil, q_retN, q_set, q_setF, q_ret, q_retF, q_if, q_retX, q_do, pat_ok, q_pat, q_fz, q_nm, q_tp, q_gcons, q_gnil, q_var0, q_varS, q_own0, q_own1, q_ownS, q_c, q_L, asL_l, q_D, q_B, q_T, asB_b, q_No, q_An, q_Or, q_Ch, q_cN, q_c1, q_2, q_1, q_t2, q_If, q_anil, q_acons, q_tup, q_ap, q_apL, q_apI, q_sl, q_oNo, q_oSo, asO_i, q_ixS, q_m1, q_for, q_add, q_sub, q_neg, q_mul, q_mul', q_div, q_mod, q_p6, q_p9, q_p18, cond_t, cond_f, q_lt, q_le, q_gt, q_ge, q_eqI, q_neI, q_neB, q_eqB, q_neS, q_isN, q_notN, q_notB, q_isB, q_len, q_int, q_intB, q_max2, q_min2, q_R1, q_enum, enumD_F, q_abs, q_forN, q_forC, it_ok, lp_nx, lp_rt, List.map_cons, List.map_nil, List.cons_append, List.nil_append, List.length_cons, List.length_nil, List.replicate_succ, List.replicate_zero, List.set_cons_zero, List.set_cons_succ, Nat.reduceSub, Nat.reduceAdd, Nat.zero_add, Nat.sub_self, Nat.sub_zero, List.append_nil, Int.reduceLT, Int.reduceLE, Int.reduceNeg, Int.reducePow, Nat.reduceLT, Nat.reduceLeDiff, and_self, and_true, true_and, if_true, if_false, reduceIte, decide_true, decide_false, Bool.and_true, Bool.true_and, Bool.false_and, Bool.and_false, Bool.or_false, Bool.false_or, Bool.true_or, Bool.or_true, Bool.not_false, Bool.not_true, beq_self_eq_true]
      exact e
theorem draws_eq (ns : List Int) (hn : ns.length ≤ 63) : ∃ ds : List Int, f__law_draws [.list (dInts ns)] = .ok (.list (dInts ds)) ∧ ∀ d ∈ ds, rg d := by
  have r60 : rng1 (.int 60) = .ok (rngD 0 60) := rfl
  have nl : (dInts ns).length = ns.length := dInts_len
  have mn : (if (ns.length : Int) < 63 then (ns.length : Int) else 63) = ns.length := by split <;> omega
  have rn : rng1 (.int ns.length) = .ok (rngD 0 ns.length) := by
    have := q_rng1 (j := ns.length) (by unfold lim; omega)
    rwa [Int.toNat_natCast] at this
  obtain ⟨ρ', e, xs, x2, x3, x4, x5, rfl, ok, _⟩ := forE_ix (g := gNm 2) (body := bl__law_draws_3) (fun i ρ => ∃ xs s2 s3 s4 s5, ρ = [.val (.list (dInts ns)), .own (dInts xs), s2, s3, s4, s5] ∧ (∀ x ∈ xs, rg x) ∧ xs.length ≤ 60 * i) (rngD 0 ns.length) 0 [.val (.list (dInts ns)), .own [], .no, .no, .no, .no] ⟨[], _, _, _, _, rfl, fun x h => (nomatch h), Nat.le_refl _⟩ fun i x hx ρ hI => by
    obtain ⟨xs, s2, s3, s4, s5, rfl, ok, hl⟩ := hI
    obtain ⟨hi, rfl⟩ := get_rngD hx
    rw [Nat.zero_add] at hl ⊢
    obtain ⟨a, _, ea⟩ := dInts_ix (ns := ns) (z := 0 + (i : Int)) (by omega) (by omega)
    obtain ⟨rest, hrest⟩ : ∃ rest : Int, rest = if a < 0 then -a else a := ⟨_, rfl⟩
    have r0 : 0 ≤ rest := by
      rw [hrest]
      split <;> omega
    by_cases q : 1000000000000000000 ≤ rest
    · obtain ⟨ys, rest', s4', e, h1, h2⟩ := draw_inner (.val (.list (dInts ns))) s5 (.val (.int (0 + (i : Int)))) (rngD 0 60) xs rest s4 r0 ok (by rw [rng_len]; omega)
      rw [rng_len] at h2
      refine ⟨_, [.val (.list (dInts ns)), .own (dInts ys), .val (.int (0 + (i : Int))), .val (.int rest'), s4', s5], rfl, ?_, ys, _, _, _, _, rfl, h1, by omega⟩
      generalize dInts ns = N at *
      simp -implicitDefEqProofs only [bl__law_draws_3, ea, ← hrest, decide_eq_true q, r60, e, q_run, q_seq, nx_nx, nx_rt, nx_bk, nx_ct, nx_er, nx_cond, bind_ok, bind_err, bind_cond, sB_ok, sB_err, sB_cond, cond_ok, cond_bool, cond_int, cond_and, cond_or, cond_nand, fin_rt, fin_nx, fin_er, fin_cond, q_nil, q_retN, q_set, q_setF, q_ret, q_retF, q_if, q_retX, q_do, pat_ok, q_pat, q_fz, q_nm, q_tp, q_gcons, q_gnil, q_var0, q_varS, q_own0, q_own1, q_ownS, q_c, q_L, asL_l, q_D, q_B, q_T, asB_b, q_No, q_An, q_Or, q_Ch, q_cN, q_c1, q_2, q_1, q_t2, q_If, q_anil, q_acons, q_tup, q_ap, q_apL, q_apI, q_sl, q_oNo, q_oSo, asO_i, q_ixS, q_m1, q_for, q_add, q_sub, q_neg, q_mul, q_mul', q_div, q_mod, q_p6, q_p9, q_p18, cond_t, cond_f, q_lt, q_le, q_gt, q_ge, q_eqI, q_neI, q_neB, q_eqB, q_neS, q_isN, q_notN, q_notB, q_isB, q_len, q_int, q_intB, q_max2, q_min2, q_R1, q_enum, enumD_F, q_abs, q_forN, q_forC, it_ok, lp_nx, lp_rt, List.map_cons, List.map_nil, List.cons_append, List.nil_append, List.length_cons, List.length_nil, List.replicate_succ, List.replicate_zero, List.set_cons_zero, List.set_cons_succ, Nat.reduceSub, Nat.reduceAdd, Nat.zero_add, Nat.sub_self, Nat.sub_zero, List.append_nil, Int.reduceLT, Int.reduceLE, Int.reduceNeg, Int.reducePow, Nat.reduceLT, Nat.reduceLeDiff, and_self, and_true, true_and, if_true, if_false, reduceIte, decide_true, decide_false, Bool.and_true, Bool.true_and, Bool.false_and, Bool.and_false, Bool.or_false, Bool.false_or, Bool.true_or, Bool.or_true, Bool.not_false, Bool.not_true, beq_self_eq_true]
    · obtain ⟨m1, hm1⟩ : ∃ m1 : Int, m1 = (rest * 48271 + (0 + (i : Int) + 1) * 69621) % 2147483647 := ⟨_, rfl⟩
      obtain ⟨m2, hm2⟩ : ∃ m2 : Int, m2 = (m1 * 16807 + 11 * (0 + (i : Int)) + 5) % 2147483629 := ⟨_, rfl⟩
      have a1 : sApp 1 (e2 dMod (eAp gInt (aCons (eVar 5) (aNil))) (eC (.int 65536))) [.val (.list (dInts ns)), .own (dInts xs), .val (.int (0 + (i : Int))), .val (.int rest), s4, .val (.int m2)] = .go .nx [.val (.list (dInts ns)), .own (dInts (xs ++ [m2 % 65536])), .val (.int (0 + (i : Int))), .val (.int rest), s4, .val (.int m2)] := by
        rw [q_app (ds := dInts xs) (d := .int (m2 % 65536)) rfl (by simp -implicitDefEqProofs only [q_run, q_seq, nx_nx, nx_rt, nx_bk, nx_ct, nx_er, nx_cond, bind_ok, bind_err, bind_cond, sB_ok, sB_err, sB_cond, cond_ok, cond_bool, cond_int, cond_and, cond_or, cond_nand, fin_rt, fin_nx, fin_er, fin_cond, q_nil, q_retN, q_set, q_setF, q_ret, q_retF, q_if, q_retX, q_do, pat_ok, q_pat, q_fz, q_nm, q_tp, q_gcons, q_gnil, q_var0, q_varS, q_own0, q_own1, q_ownS, q_c, q_L, asL_l, q_D, q_B, q_T, asB_b, q_No, q_An, q_Or, q_Ch, q_cN, q_c1, q_2, q_1, q_t2, q_If, q_anil, q_acons, q_tup, q_ap, q_apL, q_apI, q_sl, q_oNo, q_oSo, asO_i, q_ixS, q_m1, q_for, q_add, q_sub, q_neg, q_mul, q_mul', q_div, q_mod, q_p6, q_p9, q_p18, cond_t, cond_f, q_lt, q_le, q_gt, q_ge, q_eqI, q_neI, q_neB, q_eqB, q_neS, q_isN, q_notN, q_notB, q_isB, q_len, q_int, q_intB, q_max2, q_min2, q_R1, q_enum, enumD_F, q_abs, q_forN, q_forC, it_ok, lp_nx, lp_rt, List.map_cons, List.map_nil, List.cons_append, List.nil_append, List.length_cons, List.length_nil, List.replicate_succ, List.replicate_zero, List.set_cons_zero, List.set_cons_succ, Nat.reduceSub, Nat.reduceAdd, Nat.zero_add, Nat.sub_self, Nat.sub_zero, List.append_nil, Int.reduceLT, Int.reduceLE, Int.reduceNeg, Int.reducePow, Nat.reduceLT, Nat.reduceLeDiff, and_self, and_true, true_and, if_true, if_false, reduceIte, decide_true, decide_false, Bool.and_true, Bool.true_and, Bool.false_and, Bool.and_false, Bool.or_false, Bool.false_or, Bool.true_or, Bool.or_true, Bool.not_false, Bool.not_true, beq_self_eq_true]) (by rw [dInts_len]; unfold lim; omega), dInts_app]
        rfl
      have a2 : sApp 1 (e2 dMod (eAp gInt (aCons (e2 dDiv (eVar 5) (eC (.int 65536))) (aNil))) (eC (.int 32768))) [.val (.list (dInts ns)), .own (dInts (xs ++ [m2 % 65536])), .val (.int (0 + (i : Int))), .val (.int rest), s4, .val (.int m2)] = .go .nx [.val (.list (dInts ns)), .own (dInts (xs ++ [m2 % 65536] ++ [m2 / 65536 % 32768])), .val (.int (0 + (i : Int))), .val (.int rest), s4, .val (.int m2)] := by
        rw [q_app (ds := dInts (xs ++ [m2 % 65536])) (d := .int (m2 / 65536 % 32768)) rfl (by simp -implicitDefEqProofs only [q_run, q_seq, nx_nx, nx_rt, nx_bk, nx_ct, nx_er, nx_cond, bind_ok, bind_err, bind_cond, sB_ok, sB_err, sB_cond, cond_ok, cond_bool, cond_int, cond_and, cond_or, cond_nand, fin_rt, fin_nx, fin_er, fin_cond, q_nil, q_retN, q_set, q_setF, q_ret, q_retF, q_if, q_retX, q_do, pat_ok, q_pat, q_fz, q_nm, q_tp, q_gcons, q_gnil, q_var0, q_varS, q_own0, q_own1, q_ownS, q_c, q_L, asL_l, q_D, q_B, q_T, asB_b, q_No, q_An, q_Or, q_Ch, q_cN, q_c1, q_2, q_1, q_t2, q_If, q_anil, q_acons, q_tup, q_ap, q_apL, q_apI, q_sl, q_oNo, q_oSo, asO_i, q_ixS, q_m1, q_for, q_add, q_sub, q_neg, q_mul, q_mul', q_div, q_mod, q_p6, q_p9, q_p18, cond_t, cond_f, q_lt, q_le, q_gt, q_ge, q_eqI, q_neI, q_neB, q_eqB, q_neS, q_isN, q_notN, q_notB, q_isB, q_len, q_int, q_intB, q_max2, q_min2, q_R1, q_enum, enumD_F, q_abs, q_forN, q_forC, it_ok, lp_nx, lp_rt, List.map_cons, List.map_nil, List.cons_append, List.nil_append, List.length_cons, List.length_nil, List.replicate_succ, List.replicate_zero, List.set_cons_zero, List.set_cons_succ, Nat.reduceSub, Nat.reduceAdd, Nat.zero_add, Nat.sub_self, Nat.sub_zero, List.append_nil, Int.reduceLT, Int.reduceLE, Int.reduceNeg, Int.reducePow, Nat.reduceLT, Nat.reduceLeDiff, and_self, and_true, true_and, if_true, if_false, reduceIte, decide_true, decide_false, Bool.and_true, Bool.true_and, Bool.false_and, Bool.and_false, Bool.or_false, Bool.false_or, Bool.true_or, Bool.or_true, Bool.not_false, Bool.not_true, beq_self_eq_true]) (by rw [dInts_len, List.length_append]; simp only [List.length_cons, List.length_nil]; unfold lim; omega), dInts_app]
        rfl
      have b0 := Int.emod_nonneg m2 (show (65536 : Int) ≠ 0 by decide)
      have b1 := Int.emod_lt_of_pos m2 (show (0 : Int) < 65536 by decide)
      have b2 := Int.emod_nonneg (m2 / 65536) (show (32768 : Int) ≠ 0 by decide)
      have b3 := Int.emod_lt_of_pos (m2 / 65536) (show (0 : Int) < 32768 by decide)
      refine ⟨_, [.val (.list (dInts ns)), .own (dInts (xs ++ [m2 % 65536] ++ [m2 / 65536 % 32768])), .val (.int (0 + (i : Int))), .val (.int rest), s4, .val (.int m2)], rfl, ?_, _, _, _, _, _, rfl, fun x hx => ?_, by rw [List.length_append, List.length_append]; simp only [List.length_cons, List.length_nil]; omega⟩
      · generalize dInts (xs ++ [m2 % 65536] ++ [m2 / 65536 % 32768]) = Y2 at *
        generalize dInts (xs ++ [m2 % 65536]) = Y1 at *
        generalize dInts xs = Y at *
        generalize dInts ns = N at *
        simp -implicitDefEqProofs only [bl__law_draws_3, bl__law_draws_2, ea, ← hrest, decide_eq_false q, ← hm1, ← hm2, a1, a2, q_run, q_seq, nx_nx, nx_rt, nx_bk, nx_ct, nx_er, nx_cond, bind_ok, bind_err, bind_cond, sB_ok, sB_err, sB_cond, cond_ok, cond_bool, cond_int, cond_and, cond_or, cond_nand, fin_rt, fin_nx, fin_er, fin_cond, q_nil, q_retN, q_set, q_setF, q_ret, q_retF, q_if, q_retX, q_do, pat_ok, q_pat, q_fz, q_nm, q_tp, q_gcons, q_gnil, q_var0, q_varS, q_own0, q_own1, q_ownS, q_c, q_L, asL_l, q_D, q_B, q_T, asB_b, q_No, q_An, q_Or, q_Ch, q_cN, q_c1, q_2, q_1, q_t2, q_If, q_anil, q_acons, q_tup, q_ap, q_apL, q_apI, q_sl, q_oNo, q_oSo, asO_i, q_ixS, q_m1, q_for, q_add, q_sub, q_neg, q_mul, q_mul', q_div, q_mod, q_p6, q_p9, q_p18, cond_t, cond_f, q_lt, q_le, q_gt, q_ge, q_eqI, q_neI, q_neB, q_eqB, q_neS, q_isN, q_notN, q_notB, q_isB, q_len, q_int, q_intB, q_max2, q_min2, q_R1, q_enum, enumD_F, q_abs, q_forN, q_forC, it_ok, lp_nx, lp_rt, List.map_cons, List.map_nil, List.cons_append, List.nil_append, List.length_cons, List.length_nil, List.replicate_succ, List.replicate_zero, List.set_cons_zero, List.set_cons_succ, Nat.reduceSub, Nat.reduceAdd, Nat.zero_add, Nat.sub_self, Nat.sub_zero, List.append_nil, Int.reduceLT, Int.reduceLE, Int.reduceNeg, Int.reducePow, Nat.reduceLT, Nat.reduceLeDiff, and_self, and_true, true_and, if_true, if_false, reduceIte, decide_true, decide_false, Bool.and_true, Bool.true_and, Bool.false_and, Bool.and_false, Bool.or_false, Bool.false_or, Bool.true_or, Bool.or_true, Bool.not_false, Bool.not_true, beq_self_eq_true]
      · rcases List.mem_append.mp hx with hx | hx
        · rcases List.mem_append.mp hx with hx | hx
          · exact ok x hx
          · rw [List.mem_singleton.mp hx]
            exact ⟨b0, b1⟩
        · rw [List.mem_singleton.mp hx]
          exact ⟨b2, by omega⟩
  refine ⟨xs, ?_, ok⟩
  generalize dInts ns = N at *
  generalize dInts xs = Y at *
  unfold f__law_draws v__law_draws
  rw [q_run]
  simp -implicitDefEqProofs only [nl, mn, rn, e, q_run, q_seq, nx_nx, nx_rt, nx_bk, nx_ct, nx_er, nx_cond, bind_ok, bind_err, bind_cond, sB_ok, sB_err, sB_cond, cond_ok, cond_bool, cond_int, cond_and, cond_or, cond_nand, fin_rt, fin_nx, fin_er, fin_cond, q_nil, q_retN, q_set, q_setF, q_ret, q_retF, q_if, q_retX, q_do, pat_ok, q_pat, q_fz, q_nm, q_tp, q_gcons, q_gnil, q_var0, q_varS, q_own0, q_own1, q_ownS, q_c, q_L, asL_l, q_D, q_B, q_T, asB_b, q_No, q_An, q_Or, q_Ch, q_cN, q_c1, q_2, q_1, q_t2, q_If, q_anil, q_acons, q_tup, q_ap, q_apL, q_apI, q_sl, q_oNo, q_oSo, asO_i, q_ixS, q_m1, q_for, q_add, q_sub, q_neg, q_mul, q_mul', q_div, q_mod, q_p6, q_p9, q_p18, cond_t, cond_f, q_lt, q_le, q_gt, q_ge, q_eqI, q_neI, q_neB, q_eqB, q_neS, q_isN, q_notN, q_notB, q_isB, q_len, q_int, q_intB, q_max2, q_min2, q_R1, q_enum, enumD_F, q_abs, q_forN, q_forC, it_ok, lp_nx, lp_rt, List.map_cons, List.map_nil, List.cons_append, List.nil_append, List.length_cons, List.length_nil, List.replicate_succ, List.replicate_zero, List.set_cons_zero, List.set_cons_succ, Nat.reduceSub, Nat.reduceAdd, Nat.zero_add, Nat.sub_self, Nat.sub_zero, List.append_nil, Int.reduceLT, Int.reduceLE, Int.reduceNeg, Int.reducePow, Nat.reduceLT, Nat.reduceLeDiff, and_self, and_true, true_and, if_true, if_false, reduceIte, decide_true, decide_false, Bool.and_true, Bool.true_and, Bool.false_and, Bool.and_false, Bool.or_false, Bool.false_or, Bool.true_or, Bool.or_true, Bool.not_false, Bool.not_true, beq_self_eq_true]
  rfl
theorem mix_eq {ds : List Int} (hd : ∀ d ∈ ds, rg d) (k : Int) {m : Int} (hm : 0 < m) : ∃ v, f__law_mix [.list (dInts ds), .int k, .int m] = .ok (.int v) ∧ 0 ≤ v ∧ v < m := by
  have nl : (dInts ds).length = ds.length := dInts_len
  have key : ∃ v, (sIf (t2 cLt (eVar 1) (eAp gLen (aCons (eVar 0) (aNil)))) (sSeq (sRet (e2 dMod (eAp gInt (aCons (eVar 3) (aNil))) (eVar 2))) (sNil)) (sNil)) = (sIf (t2 cLt (eVar 1) (eAp gLen (aCons (eVar 0) (aNil)))) (sSeq (sRet (e2 dMod (eAp gInt (aCons (eVar 3) (aNil))) (eVar 2))) (sNil)) (sNil)) ∧ v = (0 : Int) := ⟨0, rfl, rfl⟩
  by_cases h : (0 : Int) < ds.length
  · obtain ⟨z, _, ez⟩ := dInts_ix (ns := ds) (z := k % ds.length) (Int.emod_nonneg k (by omega)) (Int.emod_lt_of_pos k h)
    by_cases q : k < ds.length
    · refine ⟨z % m, ?_, Int.emod_nonneg z (by omega), Int.emod_lt_of_pos z hm⟩
      generalize dInts ds = N at *
      simp -implicitDefEqProofs only [f__law_mix, v__law_mix, nl, h, ez, q, hm, decide_eq_true h, decide_eq_true q, q_run, q_seq, nx_nx, nx_rt, nx_bk, nx_ct, nx_er, nx_cond, bind_ok, bind_err, bind_cond, sB_ok, sB_err, sB_cond, cond_ok, cond_bool, cond_int, cond_and, cond_or, cond_nand, fin_rt, fin_nx, fin_er, fin_cond, q_nil, q_retN, q_set, q_setF, q_ret, q_retF, q_if, q_retX, q_do, pat_ok, q_pat, q_fz, q_nm, q_tp, q_gcons, q_gnil, q_var0, q_varS, q_own0, q_own1, q_ownS, q_c, q_L, asL_l, q_D, q_B, q_T, asB_b, q_No, q_An, q_Or, q_Ch, q_cN, q_c1, q_2, q_1, q_t2, q_If, q_anil, q_acons, q_tup, q_ap, q_apL, q_apI, q_sl, q_oNo, q_oSo, asO_i, q_ixS, q_m1, q_for, q_add, q_sub, q_neg, q_mul, q_mul', q_div, q_mod, q_p6, q_p9, q_p18, cond_t, cond_f, q_lt, q_le, q_gt, q_ge, q_eqI, q_neI, q_neB, q_eqB, q_neS, q_isN, q_notN, q_notB, q_isB, q_len, q_int, q_intB, q_max2, q_min2, q_R1, q_enum, enumD_F, q_abs, q_forN, q_forC, it_ok, lp_nx, lp_rt, List.map_cons, List.map_nil, List.cons_append, List.nil_append, List.length_cons, List.length_nil, List.replicate_succ, List.replicate_zero, List.set_cons_zero, List.set_cons_succ, Nat.reduceSub, Nat.reduceAdd, Nat.zero_add, Nat.sub_self, Nat.sub_zero, List.append_nil, Int.reduceLT, Int.reduceLE, Int.reduceNeg, Int.reducePow, Nat.reduceLT, Nat.reduceLeDiff, and_self, and_true, true_and, if_true, if_false, reduceIte, decide_true, decide_false, Bool.and_true, Bool.true_and, Bool.false_and, Bool.and_false, Bool.or_false, Bool.false_or, Bool.true_or, Bool.or_true, Bool.not_false, Bool.not_true, beq_self_eq_true]
    · refine ⟨(z * 7919 + k * 104729) / 3 % m, ?_, Int.emod_nonneg _ (by omega), Int.emod_lt_of_pos _ hm⟩
      generalize dInts ds = N at *
      simp -implicitDefEqProofs only [f__law_mix, v__law_mix, nl, h, ez, hm, decide_eq_true h, decide_eq_false q, q_run, q_seq, nx_nx, nx_rt, nx_bk, nx_ct, nx_er, nx_cond, bind_ok, bind_err, bind_cond, sB_ok, sB_err, sB_cond, cond_ok, cond_bool, cond_int, cond_and, cond_or, cond_nand, fin_rt, fin_nx, fin_er, fin_cond, q_nil, q_retN, q_set, q_setF, q_ret, q_retF, q_if, q_retX, q_do, pat_ok, q_pat, q_fz, q_nm, q_tp, q_gcons, q_gnil, q_var0, q_varS, q_own0, q_own1, q_ownS, q_c, q_L, asL_l, q_D, q_B, q_T, asB_b, q_No, q_An, q_Or, q_Ch, q_cN, q_c1, q_2, q_1, q_t2, q_If, q_anil, q_acons, q_tup, q_ap, q_apL, q_apI, q_sl, q_oNo, q_oSo, asO_i, q_ixS, q_m1, q_for, q_add, q_sub, q_neg, q_mul, q_mul', q_div, q_mod, q_p6, q_p9, q_p18, cond_t, cond_f, q_lt, q_le, q_gt, q_ge, q_eqI, q_neI, q_neB, q_eqB, q_neS, q_isN, q_notN, q_notB, q_isB, q_len, q_int, q_intB, q_max2, q_min2, q_R1, q_enum, enumD_F, q_abs, q_forN, q_forC, it_ok, lp_nx, lp_rt, List.map_cons, List.map_nil, List.cons_append, List.nil_append, List.length_cons, List.length_nil, List.replicate_succ, List.replicate_zero, List.set_cons_zero, List.set_cons_succ, Nat.reduceSub, Nat.reduceAdd, Nat.zero_add, Nat.sub_self, Nat.sub_zero, List.append_nil, Int.reduceLT, Int.reduceLE, Int.reduceNeg, Int.reducePow, Nat.reduceLT, Nat.reduceLeDiff, and_self, and_true, true_and, if_true, if_false, reduceIte, decide_true, decide_false, Bool.and_true, Bool.true_and, Bool.false_and, Bool.and_false, Bool.or_false, Bool.false_or, Bool.true_or, Bool.or_true, Bool.not_false, Bool.not_true, beq_self_eq_true]
  · by_cases q : k < ds.length
    · refine ⟨0 % m, ?_, Int.emod_nonneg _ (by omega), Int.emod_lt_of_pos _ hm⟩
      generalize dInts ds = N at *
      simp -implicitDefEqProofs only [f__law_mix, v__law_mix, nl, hm, decide_eq_false h, decide_eq_true q, q_run, q_seq, nx_nx, nx_rt, nx_bk, nx_ct, nx_er, nx_cond, bind_ok, bind_err, bind_cond, sB_ok, sB_err, sB_cond, cond_ok, cond_bool, cond_int, cond_and, cond_or, cond_nand, fin_rt, fin_nx, fin_er, fin_cond, q_nil, q_retN, q_set, q_setF, q_ret, q_retF, q_if, q_retX, q_do, pat_ok, q_pat, q_fz, q_nm, q_tp, q_gcons, q_gnil, q_var0, q_varS, q_own0, q_own1, q_ownS, q_c, q_L, asL_l, q_D, q_B, q_T, asB_b, q_No, q_An, q_Or, q_Ch, q_cN, q_c1, q_2, q_1, q_t2, q_If, q_anil, q_acons, q_tup, q_ap, q_apL, q_apI, q_sl, q_oNo, q_oSo, asO_i, q_ixS, q_m1, q_for, q_add, q_sub, q_neg, q_mul, q_mul', q_div, q_mod, q_p6, q_p9, q_p18, cond_t, cond_f, q_lt, q_le, q_gt, q_ge, q_eqI, q_neI, q_neB, q_eqB, q_neS, q_isN, q_notN, q_notB, q_isB, q_len, q_int, q_intB, q_max2, q_min2, q_R1, q_enum, enumD_F, q_abs, q_forN, q_forC, it_ok, lp_nx, lp_rt, List.map_cons, List.map_nil, List.cons_append, List.nil_append, List.length_cons, List.length_nil, List.replicate_succ, List.replicate_zero, List.set_cons_zero, List.set_cons_succ, Nat.reduceSub, Nat.reduceAdd, Nat.zero_add, Nat.sub_self, Nat.sub_zero, List.append_nil, Int.reduceLT, Int.reduceLE, Int.reduceNeg, Int.reducePow, Nat.reduceLT, Nat.reduceLeDiff, and_self, and_true, true_and, if_true, if_false, reduceIte, decide_true, decide_false, Bool.and_true, Bool.true_and, Bool.false_and, Bool.and_false, Bool.or_false, Bool.false_or, Bool.true_or, Bool.or_true, Bool.not_false, Bool.not_true, beq_self_eq_true]
    · refine ⟨(0 * 7919 + k * 104729) / 3 % m, ?_, Int.emod_nonneg _ (by omega), Int.emod_lt_of_pos _ hm⟩
      generalize dInts ds = N at *
      simp -implicitDefEqProofs only [f__law_mix, v__law_mix, nl, hm, decide_eq_false h, decide_eq_false q, q_run, q_seq, nx_nx, nx_rt, nx_bk, nx_ct, nx_er, nx_cond, bind_ok, bind_err, bind_cond, sB_ok, sB_err, sB_cond, cond_ok, cond_bool, cond_int, cond_and, cond_or, cond_nand, fin_rt, fin_nx, fin_er, fin_cond, q_nil, q_retN, q_set, q_setF, q_ret, q_retF, q_if, q_retX, q_do, pat_ok, q_pat, q_fz, q_nm, q_tp, q_gcons, q_gnil, q_var0, q_varS, q_own0, q_own1, q_ownS, q_c, q_L, asL_l, q_D, q_B, q_T, asB_b, q_No, q_An, q_Or, q_Ch, q_cN, q_c1, q_2, q_1, q_t2, q_If, q_anil, q_acons, q_tup, q_ap, q_apL, q_apI, q_sl, q_oNo, q_oSo, asO_i, q_ixS, q_m1, q_for, q_add, q_sub, q_neg, q_mul, q_mul', q_div, q_mod, q_p6, q_p9, q_p18, cond_t, cond_f, q_lt, q_le, q_gt, q_ge, q_eqI, q_neI, q_neB, q_eqB, q_neS, q_isN, q_notN, q_notB, q_isB, q_len, q_int, q_intB, q_max2, q_min2, q_R1, q_enum, enumD_F, q_abs, q_forN, q_forC, it_ok, lp_nx, lp_rt, List.map_cons, List.map_nil, List.cons_append, List.nil_append, List.length_cons, List.length_nil, List.replicate_succ, List.replicate_zero, List.set_cons_zero, List.set_cons_succ, Nat.reduceSub, Nat.reduceAdd, Nat.zero_add, Nat.sub_self, Nat.sub_zero, List.append_nil, Int.reduceLT, Int.reduceLE, Int.reduceNeg, Int.reducePow, Nat.reduceLT, Nat.reduceLeDiff, and_self, and_true, true_and, if_true, if_false, reduceIte, decide_true, decide_false, Bool.and_true, Bool.true_and, Bool.false_and, Bool.and_false, Bool.or_false, Bool.false_or, Bool.true_or, Bool.or_true, Bool.not_false, Bool.not_true, beq_self_eq_true]
end K27
namespace K27
open PySem PySem.Spec PyProof.Rows L2 VL
/-! ### the same thing twice -/
mutual
def plain : Da → Bool
  | .none => true
  | .bool _ => true
  | .int _ => true
  | .str s => PyData.strOk s
  | .list ds => plains ds && decide (ds.length ≤ 100000)
  | .tuple ds => plains ds && decide (ds.length ≤ 100000)
  | _ => false
def plains : List Da → Bool
  | [] => true
  | d :: ds => plain d && plains ds
end
mutual
def deep : Da → Nat
  | .list ds => deeps ds + 1
  | .tuple ds => deeps ds + 1
  | _ => 0
def deeps : List Da → Nat
  | [] => 0
  | d :: ds => max (deep d) (deeps ds)
end
theorem plains_all : ∀ {ds : List Da}, plains ds = true → ∀ d ∈ ds, plain d = true
  | [], _, d, h => nomatch h
  | e :: ds, p, d, h => by
    have p' := Bool.and_eq_true_iff.mp (show (plain e && plains ds) = true from p)
    rcases List.mem_cons.mp h with h | h
    · rw [h]; exact p'.1
    · exact plains_all p'.2 d h
theorem deeps_all : ∀ {ds : List Da} {n : Nat}, deeps ds ≤ n → ∀ d ∈ ds, deep d ≤ n
  | [], _, _, d, h => nomatch h
  | e :: ds, n, p, d, h => by
    have p' : max (deep e) (deeps ds) ≤ n := p
    rcases List.mem_cons.mp h with h | h
    · rw [h]; omega
    · exact deeps_all (by omega) d h
theorem plains_map {α : Type} {D : α → Da} : ∀ {as : List α}, (∀ a ∈ as, plain (D a) = true) → plains (as.map D) = true
  | [], _ => rfl
  | a :: as, h => by
    show (plain (D a) && plains (as.map D)) = true
    rw [h a List.mem_cons_self, plains_map fun b hb => h b (List.mem_cons_of_mem _ hb)]
    rfl
theorem deeps_map {α : Type} {D : α → Da} {k : Nat} : ∀ {as : List α}, (∀ a ∈ as, deep (D a) ≤ k) → deeps (as.map D) ≤ k
  | [], _ => Nat.zero_le _
  | a :: as, h => by
    show max (deep (D a)) (deeps (as.map D)) ≤ k
    have h1 := h a List.mem_cons_self
    have h2 := deeps_map (as := as) fun b hb => h b (List.mem_cons_of_mem _ hb)
    omega
theorem plain_ints {xs : List Int} (h : xs.length ≤ 100000) : plain (.list (dInts xs)) = true := by
  show (plains (dInts xs) && decide ((dInts xs).length ≤ 100000)) = true
  rw [dInts_len, decide_eq_true h, show plains (dInts xs) = true from plains_map fun _ _ => rfl]
  rfl
theorem deep_ints {xs : List Int} : deep (.list (dInts xs)) ≤ 1 := by
  show deeps (dInts xs) + 1 ≤ 1
  have := deeps_map (D := PyData.int) (as := xs) (k := 0) fun _ _ => Nat.le_refl _
  have e : deeps (dInts xs) = deeps (xs.map PyData.int) := rfl
  omega
theorem same_loop {f : List Da → R Da} {ds : List Da} {D : Da} (hD : ∀ (i : Nat) d, ds[i]? = some d → dIx D (.int (i : Int)) = .ok d) (h : ∀ x ∈ ds, f [x, x] = .ok (.bool true)) : ∃ s2, forE (gNm 2) (bl__law_same_1 f) (rngD 0 ds.length) [.val D, .val D, .no] = .go .nx [.val D, .val D, s2] := by
  obtain ⟨ρ', e, s2, rfl⟩ := forE_ix (g := gNm 2) (body := bl__law_same_1 f) (fun _ ρ => ∃ s2, ρ = [.val D, .val D, s2]) (rngD 0 ds.length) 0 [.val D, .val D, .no] ⟨_, rfl⟩ fun i x hx ρ hI => by
    obtain ⟨s2, rfl⟩ := hI
    obtain ⟨hi, rfl⟩ := get_rngD hx
    rw [show (0 : Int) + (i : Int) = (i : Int) by omega]
    have e1 := hD i ds[i] (List.getElem?_eq_getElem hi)
    have e2 := h ds[i] (List.getElem_mem hi)
    generalize ds[i] = x at *
    exact ⟨_, [.val D, .val D, .val (.int (i : Int))], rfl, by simp -implicitDefEqProofs only [bl__law_same_1, List.set_cons_succ, List.set_cons_zero, e1, e2, q_run, q_seq, nx_nx, nx_rt, nx_bk, nx_ct, nx_er, nx_cond, bind_ok, bind_err, bind_cond, sB_ok, sB_err, sB_cond, cond_ok, cond_bool, cond_int, cond_and, cond_or, cond_nand, fin_rt, fin_nx, fin_er, fin_cond, q_nil, q_retN, q_set, q_setF, q_ret, q_retF, q_if, q_retX, q_do, pat_ok, q_pat, q_fz, q_nm, q_tp, q_gcons, q_gnil, q_var0, q_varS, q_own0, q_own1, q_ownS, q_c, q_L, asL_l, q_D, q_B, q_T, asB_b, q_No, q_An, q_Or, q_Ch, q_cN, q_c1, q_2, q_1, q_t2, q_If, q_anil, q_acons, q_tup, q_ap, q_apL, q_apI, q_sl, q_oNo, q_oSo, asO_i, q_ixS, q_m1, q_for, q_add, q_sub, q_neg, q_mul, q_mul', q_div, q_mod, q_p6, q_p9, q_p18, cond_t, cond_f, q_lt, q_le, q_gt, q_ge, q_eqI, q_neI, q_neB, q_eqB, q_neS, q_isN, q_notN, q_notB, q_isB, q_len, q_int, q_intB, q_R1, q_enum, enumD_F, q_abs, q_forN, q_forC, it_ok, lp_nx, lp_rt, q_zip, q_rev, q_rev2, q_R2, q_R3, q_It, asI_l, asI_t, q_vbV, q_vbO, q_vbS, fz_own, fz_val, fz_no, fz_S, q_mx2, q_mn2, q_mx3, q_raiseE, rs_int, lp_er, q_tryE, try_go, q_zip3, q_orT, q_Tr, tr_none, tr_bool, tr_list, List.map_cons, List.map_nil, List.cons_append, List.nil_append, List.length_cons, List.length_nil, List.replicate_succ, List.replicate_zero, List.set_cons_zero, List.set_cons_succ, Nat.reduceSub, Nat.reduceAdd, Nat.zero_add, Nat.sub_self, Nat.sub_zero, List.append_nil, Int.reduceLT, Int.reduceLE, Int.reduceNeg, Int.reducePow, Nat.reduceLT, Nat.reduceLeDiff, and_self, and_true, true_and, if_true, if_false, reduceIte, decide_true, decide_false, Bool.and_true, Bool.true_and, Bool.false_and, Bool.and_false, Bool.or_false, Bool.false_or, Bool.true_or, Bool.or_true, Bool.not_false, Bool.not_true, beq_self_eq_true], _, rfl⟩
  exact ⟨s2, e⟩
theorem isT_t {ds : List Da} : isTy "tuple" (.tuple ds) = .ok (.bool true) := rfl
theorem isT_l {ds : List Da} : isTy "tuple" (.list ds) = .ok (.bool false) := rfl
theorem isL_l {ds : List Da} : isTy "list" (.list ds) = .ok (.bool true) := rfl
theorem isL_t {ds : List Da} : isTy "list" (.tuple ds) = .ok (.bool false) := rfl
theorem isT_b {b : Bool} : isTy "tuple" (.bool b) = .ok (.bool false) := rfl
theorem isL_b {b : Bool} : isTy "list" (.bool b) = .ok (.bool false) := rfl
theorem isB_b {b : Bool} : isTy "bool" (.bool b) = .ok (.bool true) := rfl
theorem isI_b {b : Bool} : isTy "int" (.bool b) = .ok (.bool true) := rfl
theorem isS_b {b : Bool} : isTy "str" (.bool b) = .ok (.bool false) := rfl
theorem isT_i {b : Int} : isTy "tuple" (.int b) = .ok (.bool false) := rfl
theorem isL_i {b : Int} : isTy "list" (.int b) = .ok (.bool false) := rfl
theorem isB_i {b : Int} : isTy "bool" (.int b) = .ok (.bool false) := rfl
theorem isI_i {b : Int} : isTy "int" (.int b) = .ok (.bool true) := rfl
theorem isS_i {b : Int} : isTy "str" (.int b) = .ok (.bool false) := rfl
theorem isT_s {b : Str} : isTy "tuple" (.str b) = .ok (.bool false) := rfl
theorem isL_s {b : Str} : isTy "list" (.str b) = .ok (.bool false) := rfl
theorem isB_s {b : Str} : isTy "bool" (.str b) = .ok (.bool false) := rfl
theorem isI_s {b : Str} : isTy "int" (.str b) = .ok (.bool false) := rfl
theorem isS_s {b : Str} : isTy "str" (.str b) = .ok (.bool true) := rfl
theorem len_t {ds : List Da} : gLen [.tuple ds] = .ok (.int ds.length) := rfl
theorem eq_self_str {s : Str} (h : PyData.strOk s = true) : qEq (.str s) (.str s) = .ok true := by
  show R.ok (s == s) = _
  rw [beq_self_eq_true]
theorem same_step {f : List Da → R Da} {d : Da} (p : plain d = true) (h : ∀ ds, d = .list ds ∨ d = .tuple ds → ∀ x ∈ ds, f [x, x] = .ok (.bool true)) : runF false (v__law_same f) 3 [d, d] = .ok (.bool true) := by
  cases d with
  | none =>
    have nn : isNo PyData.none = true := rfl
    simp -implicitDefEqProofs only [v__law_same, nn, q_run, q_seq, nx_nx, nx_rt, nx_bk, nx_ct, nx_er, nx_cond, bind_ok, bind_err, bind_cond, sB_ok, sB_err, sB_cond, cond_ok, cond_bool, cond_int, cond_and, cond_or, cond_nand, fin_rt, fin_nx, fin_er, fin_cond, q_nil, q_retN, q_set, q_setF, q_ret, q_retF, q_if, q_retX, q_do, pat_ok, q_pat, q_fz, q_nm, q_tp, q_gcons, q_gnil, q_var0, q_varS, q_own0, q_own1, q_ownS, q_c, q_L, asL_l, q_D, q_B, q_T, asB_b, q_No, q_An, q_Or, q_Ch, q_cN, q_c1, q_2, q_1, q_t2, q_If, q_anil, q_acons, q_tup, q_ap, q_apL, q_apI, q_sl, q_oNo, q_oSo, asO_i, q_ixS, q_m1, q_for, q_add, q_sub, q_neg, q_mul, q_mul', q_div, q_mod, q_p6, q_p9, q_p18, cond_t, cond_f, q_lt, q_le, q_gt, q_ge, q_eqI, q_neI, q_neB, q_eqB, q_neS, q_isN, q_notN, q_notB, q_isB, q_len, q_int, q_intB, q_R1, q_enum, enumD_F, q_abs, q_forN, q_forC, it_ok, lp_nx, lp_rt, q_zip, q_rev, q_rev2, q_R2, q_R3, q_It, asI_l, asI_t, q_vbV, q_vbO, q_vbS, fz_own, fz_val, fz_no, fz_S, q_mx2, q_mn2, q_mx3, q_raiseE, rs_int, lp_er, q_tryE, try_go, q_zip3, q_orT, q_Tr, tr_none, tr_bool, tr_list, List.map_cons, List.map_nil, List.cons_append, List.nil_append, List.length_cons, List.length_nil, List.replicate_succ, List.replicate_zero, List.set_cons_zero, List.set_cons_succ, Nat.reduceSub, Nat.reduceAdd, Nat.zero_add, Nat.sub_self, Nat.sub_zero, List.append_nil, Int.reduceLT, Int.reduceLE, Int.reduceNeg, Int.reducePow, Nat.reduceLT, Nat.reduceLeDiff, and_self, and_true, true_and, if_true, if_false, reduceIte, decide_true, decide_false, Bool.and_true, Bool.true_and, Bool.false_and, Bool.and_false, Bool.or_false, Bool.false_or, Bool.true_or, Bool.or_true, Bool.not_false, Bool.not_true, beq_self_eq_true]
  | bool b =>
    have nn : isNo (PyData.bool b) = false := rfl
    simp -implicitDefEqProofs only [v__law_same, nn, isT_b, isL_b, isB_b, isI_b, isS_b, q_run, q_seq, nx_nx, nx_rt, nx_bk, nx_ct, nx_er, nx_cond, bind_ok, bind_err, bind_cond, sB_ok, sB_err, sB_cond, cond_ok, cond_bool, cond_int, cond_and, cond_or, cond_nand, fin_rt, fin_nx, fin_er, fin_cond, q_nil, q_retN, q_set, q_setF, q_ret, q_retF, q_if, q_retX, q_do, pat_ok, q_pat, q_fz, q_nm, q_tp, q_gcons, q_gnil, q_var0, q_varS, q_own0, q_own1, q_ownS, q_c, q_L, asL_l, q_D, q_B, q_T, asB_b, q_No, q_An, q_Or, q_Ch, q_cN, q_c1, q_2, q_1, q_t2, q_If, q_anil, q_acons, q_tup, q_ap, q_apL, q_apI, q_sl, q_oNo, q_oSo, asO_i, q_ixS, q_m1, q_for, q_add, q_sub, q_neg, q_mul, q_mul', q_div, q_mod, q_p6, q_p9, q_p18, cond_t, cond_f, q_lt, q_le, q_gt, q_ge, q_eqI, q_neI, q_neB, q_eqB, q_neS, q_isN, q_notN, q_notB, q_isB, q_len, q_int, q_intB, q_R1, q_enum, enumD_F, q_abs, q_forN, q_forC, it_ok, lp_nx, lp_rt, q_zip, q_rev, q_rev2, q_R2, q_R3, q_It, asI_l, asI_t, q_vbV, q_vbO, q_vbS, fz_own, fz_val, fz_no, fz_S, q_mx2, q_mn2, q_mx3, q_raiseE, rs_int, lp_er, q_tryE, try_go, q_zip3, q_orT, q_Tr, tr_none, tr_bool, tr_list, List.map_cons, List.map_nil, List.cons_append, List.nil_append, List.length_cons, List.length_nil, List.replicate_succ, List.replicate_zero, List.set_cons_zero, List.set_cons_succ, Nat.reduceSub, Nat.reduceAdd, Nat.zero_add, Nat.sub_self, Nat.sub_zero, List.append_nil, Int.reduceLT, Int.reduceLE, Int.reduceNeg, Int.reducePow, Nat.reduceLT, Nat.reduceLeDiff, and_self, and_true, true_and, if_true, if_false, reduceIte, decide_true, decide_false, Bool.and_true, Bool.true_and, Bool.false_and, Bool.and_false, Bool.or_false, Bool.false_or, Bool.true_or, Bool.or_true, Bool.not_false, Bool.not_true, beq_self_eq_true]
  | int i =>
    have nn : isNo (PyData.int i) = false := rfl
    simp -implicitDefEqProofs only [v__law_same, nn, isT_i, isL_i, isB_i, isI_i, isS_i, q_run, q_seq, nx_nx, nx_rt, nx_bk, nx_ct, nx_er, nx_cond, bind_ok, bind_err, bind_cond, sB_ok, sB_err, sB_cond, cond_ok, cond_bool, cond_int, cond_and, cond_or, cond_nand, fin_rt, fin_nx, fin_er, fin_cond, q_nil, q_retN, q_set, q_setF, q_ret, q_retF, q_if, q_retX, q_do, pat_ok, q_pat, q_fz, q_nm, q_tp, q_gcons, q_gnil, q_var0, q_varS, q_own0, q_own1, q_ownS, q_c, q_L, asL_l, q_D, q_B, q_T, asB_b, q_No, q_An, q_Or, q_Ch, q_cN, q_c1, q_2, q_1, q_t2, q_If, q_anil, q_acons, q_tup, q_ap, q_apL, q_apI, q_sl, q_oNo, q_oSo, asO_i, q_ixS, q_m1, q_for, q_add, q_sub, q_neg, q_mul, q_mul', q_div, q_mod, q_p6, q_p9, q_p18, cond_t, cond_f, q_lt, q_le, q_gt, q_ge, q_eqI, q_neI, q_neB, q_eqB, q_neS, q_isN, q_notN, q_notB, q_isB, q_len, q_int, q_intB, q_R1, q_enum, enumD_F, q_abs, q_forN, q_forC, it_ok, lp_nx, lp_rt, q_zip, q_rev, q_rev2, q_R2, q_R3, q_It, asI_l, asI_t, q_vbV, q_vbO, q_vbS, fz_own, fz_val, fz_no, fz_S, q_mx2, q_mn2, q_mx3, q_raiseE, rs_int, lp_er, q_tryE, try_go, q_zip3, q_orT, q_Tr, tr_none, tr_bool, tr_list, List.map_cons, List.map_nil, List.cons_append, List.nil_append, List.length_cons, List.length_nil, List.replicate_succ, List.replicate_zero, List.set_cons_zero, List.set_cons_succ, Nat.reduceSub, Nat.reduceAdd, Nat.zero_add, Nat.sub_self, Nat.sub_zero, List.append_nil, Int.reduceLT, Int.reduceLE, Int.reduceNeg, Int.reducePow, Nat.reduceLT, Nat.reduceLeDiff, and_self, and_true, true_and, if_true, if_false, reduceIte, decide_true, decide_false, Bool.and_true, Bool.true_and, Bool.false_and, Bool.and_false, Bool.or_false, Bool.false_or, Bool.true_or, Bool.or_true, Bool.not_false, Bool.not_true, beq_self_eq_true]
  | str s =>
    have nn : isNo (PyData.str s) = false := rfl
    have es := eq_self_str (s := s) p
    simp -implicitDefEqProofs only [v__law_same, nn, isT_s, isL_s, isB_s, isI_s, isS_s, es, q_run, q_seq, nx_nx, nx_rt, nx_bk, nx_ct, nx_er, nx_cond, bind_ok, bind_err, bind_cond, sB_ok, sB_err, sB_cond, cond_ok, cond_bool, cond_int, cond_and, cond_or, cond_nand, fin_rt, fin_nx, fin_er, fin_cond, q_nil, q_retN, q_set, q_setF, q_ret, q_retF, q_if, q_retX, q_do, pat_ok, q_pat, q_fz, q_nm, q_tp, q_gcons, q_gnil, q_var0, q_varS, q_own0, q_own1, q_ownS, q_c, q_L, asL_l, q_D, q_B, q_T, asB_b, q_No, q_An, q_Or, q_Ch, q_cN, q_c1, q_2, q_1, q_t2, q_If, q_anil, q_acons, q_tup, q_ap, q_apL, q_apI, q_sl, q_oNo, q_oSo, asO_i, q_ixS, q_m1, q_for, q_add, q_sub, q_neg, q_mul, q_mul', q_div, q_mod, q_p6, q_p9, q_p18, cond_t, cond_f, q_lt, q_le, q_gt, q_ge, q_eqI, q_neI, q_neB, q_eqB, q_neS, q_isN, q_notN, q_notB, q_isB, q_len, q_int, q_intB, q_R1, q_enum, enumD_F, q_abs, q_forN, q_forC, it_ok, lp_nx, lp_rt, q_zip, q_rev, q_rev2, q_R2, q_R3, q_It, asI_l, asI_t, q_vbV, q_vbO, q_vbS, fz_own, fz_val, fz_no, fz_S, q_mx2, q_mn2, q_mx3, q_raiseE, rs_int, lp_er, q_tryE, try_go, q_zip3, q_orT, q_Tr, tr_none, tr_bool, tr_list, List.map_cons, List.map_nil, List.cons_append, List.nil_append, List.length_cons, List.length_nil, List.replicate_succ, List.replicate_zero, List.set_cons_zero, List.set_cons_succ, Nat.reduceSub, Nat.reduceAdd, Nat.zero_add, Nat.sub_self, Nat.sub_zero, List.append_nil, Int.reduceLT, Int.reduceLE, Int.reduceNeg, Int.reducePow, Nat.reduceLT, Nat.reduceLeDiff, and_self, and_true, true_and, if_true, if_false, reduceIte, decide_true, decide_false, Bool.and_true, Bool.true_and, Bool.false_and, Bool.and_false, Bool.or_false, Bool.false_or, Bool.true_or, Bool.or_true, Bool.not_false, Bool.not_true, beq_self_eq_true]
  | list ds =>
    have nn : isNo (PyData.list ds) = false := rfl
    have p' := Bool.and_eq_true_iff.mp (show (plains ds && decide (ds.length ≤ 100000)) = true from p)
    have few : ds.length ≤ 100000 := of_decide_eq_true p'.2
    obtain ⟨s2, e⟩ := same_loop (f := f) (ds := ds) (D := .list ds) (fun i d hd => dIx_nat hd) (h ds (.inl rfl))
    have er : rng1 (.int (ds.length : Int)) = .ok (rngD 0 ds.length) := by
      have := q_rng1 (j := (ds.length : Int)) (by unfold lim; omega)
      rwa [Int.toNat_natCast] at this
    have en : ((ds.length : Int) == (ds.length : Int)) = true := beq_self_eq_true _
    simp -implicitDefEqProofs only [v__law_same, bl__law_same_2, nn, isT_l, isL_l, er, en, e, q_run, q_seq, nx_nx, nx_rt, nx_bk, nx_ct, nx_er, nx_cond, bind_ok, bind_err, bind_cond, sB_ok, sB_err, sB_cond, cond_ok, cond_bool, cond_int, cond_and, cond_or, cond_nand, fin_rt, fin_nx, fin_er, fin_cond, q_nil, q_retN, q_set, q_setF, q_ret, q_retF, q_if, q_retX, q_do, pat_ok, q_pat, q_fz, q_nm, q_tp, q_gcons, q_gnil, q_var0, q_varS, q_own0, q_own1, q_ownS, q_c, q_L, asL_l, q_D, q_B, q_T, asB_b, q_No, q_An, q_Or, q_Ch, q_cN, q_c1, q_2, q_1, q_t2, q_If, q_anil, q_acons, q_tup, q_ap, q_apL, q_apI, q_sl, q_oNo, q_oSo, asO_i, q_ixS, q_m1, q_for, q_add, q_sub, q_neg, q_mul, q_mul', q_div, q_mod, q_p6, q_p9, q_p18, cond_t, cond_f, q_lt, q_le, q_gt, q_ge, q_eqI, q_neI, q_neB, q_eqB, q_neS, q_isN, q_notN, q_notB, q_isB, q_len, q_int, q_intB, q_R1, q_enum, enumD_F, q_abs, q_forN, q_forC, it_ok, lp_nx, lp_rt, q_zip, q_rev, q_rev2, q_R2, q_R3, q_It, asI_l, asI_t, q_vbV, q_vbO, q_vbS, fz_own, fz_val, fz_no, fz_S, q_mx2, q_mn2, q_mx3, q_raiseE, rs_int, lp_er, q_tryE, try_go, q_zip3, q_orT, q_Tr, tr_none, tr_bool, tr_list, List.map_cons, List.map_nil, List.cons_append, List.nil_append, List.length_cons, List.length_nil, List.replicate_succ, List.replicate_zero, List.set_cons_zero, List.set_cons_succ, Nat.reduceSub, Nat.reduceAdd, Nat.zero_add, Nat.sub_self, Nat.sub_zero, List.append_nil, Int.reduceLT, Int.reduceLE, Int.reduceNeg, Int.reducePow, Nat.reduceLT, Nat.reduceLeDiff, and_self, and_true, true_and, if_true, if_false, reduceIte, decide_true, decide_false, Bool.and_true, Bool.true_and, Bool.false_and, Bool.and_false, Bool.or_false, Bool.false_or, Bool.true_or, Bool.or_true, Bool.not_false, Bool.not_true, beq_self_eq_true]
  | tuple ds =>
    have nn : isNo (PyData.tuple ds) = false := rfl
    have p' := Bool.and_eq_true_iff.mp (show (plains ds && decide (ds.length ≤ 100000)) = true from p)
    have few : ds.length ≤ 100000 := of_decide_eq_true p'.2
    obtain ⟨s2, e⟩ := same_loop (f := f) (ds := ds) (D := .tuple ds) (fun i d hd => dIx_nat hd) (h ds (.inr rfl))
    have er : rng1 (.int (ds.length : Int)) = .ok (rngD 0 ds.length) := by
      have := q_rng1 (j := (ds.length : Int)) (by unfold lim; omega)
      rwa [Int.toNat_natCast] at this
    have en : ((ds.length : Int) == (ds.length : Int)) = true := beq_self_eq_true _
    simp -implicitDefEqProofs only [v__law_same, bl__law_same_2, nn, isT_t, isL_t, len_t, er, en, e, q_run, q_seq, nx_nx, nx_rt, nx_bk, nx_ct, nx_er, nx_cond, bind_ok, bind_err, bind_cond, sB_ok, sB_err, sB_cond, cond_ok, cond_bool, cond_int, cond_and, cond_or, cond_nand, fin_rt, fin_nx, fin_er, fin_cond, q_nil, q_retN, q_set, q_setF, q_ret, q_retF, q_if, q_retX, q_do, pat_ok, q_pat, q_fz, q_nm, q_tp, q_gcons, q_gnil, q_var0, q_varS, q_own0, q_own1, q_ownS, q_c, q_L, asL_l, q_D, q_B, q_T, asB_b, q_No, q_An, q_Or, q_Ch, q_cN, q_c1, q_2, q_1, q_t2, q_If, q_anil, q_acons, q_tup, q_ap, q_apL, q_apI, q_sl, q_oNo, q_oSo, asO_i, q_ixS, q_m1, q_for, q_add, q_sub, q_neg, q_mul, q_mul', q_div, q_mod, q_p6, q_p9, q_p18, cond_t, cond_f, q_lt, q_le, q_gt, q_ge, q_eqI, q_neI, q_neB, q_eqB, q_neS, q_isN, q_notN, q_notB, q_isB, q_len, q_int, q_intB, q_R1, q_enum, enumD_F, q_abs, q_forN, q_forC, it_ok, lp_nx, lp_rt, q_zip, q_rev, q_rev2, q_R2, q_R3, q_It, asI_l, asI_t, q_vbV, q_vbO, q_vbS, fz_own, fz_val, fz_no, fz_S, q_mx2, q_mn2, q_mx3, q_raiseE, rs_int, lp_er, q_tryE, try_go, q_zip3, q_orT, q_Tr, tr_none, tr_bool, tr_list, List.map_cons, List.map_nil, List.cons_append, List.nil_append, List.length_cons, List.length_nil, List.replicate_succ, List.replicate_zero, List.set_cons_zero, List.set_cons_succ, Nat.reduceSub, Nat.reduceAdd, Nat.zero_add, Nat.sub_self, Nat.sub_zero, List.append_nil, Int.reduceLT, Int.reduceLE, Int.reduceNeg, Int.reducePow, Nat.reduceLT, Nat.reduceLeDiff, and_self, and_true, true_and, if_true, if_false, reduceIte, decide_true, decide_false, Bool.and_true, Bool.true_and, Bool.false_and, Bool.and_false, Bool.or_false, Bool.false_or, Bool.true_or, Bool.or_true, Bool.not_false, Bool.not_true, beq_self_eq_true]
  | _ => cases p
theorem same_self : ∀ (n : Nat) (d : Da), plain d = true → deep d < n → fl__law_same n [d, d] = .ok (.bool true)
  | 0, d, _, h => by omega
  | n + 1, d, p, h => same_step p fun ds hd x hx => by
    rcases hd with rfl | rfl
    · have p' := Bool.and_eq_true_iff.mp (show (plains ds && decide (ds.length ≤ 100000)) = true from p)
      have h' : deeps ds + 1 < n + 1 := h
      exact same_self n x (plains_all p'.1 x hx) (Nat.lt_of_le_of_lt (deeps_all (Nat.le_refl _) x hx) (by omega))
    · have p' := Bool.and_eq_true_iff.mp (show (plains ds && decide (ds.length ≤ 100000)) = true from p)
      have h' : deeps ds + 1 < n + 1 := h
      exact same_self n x (plains_all p'.1 x hx) (Nat.lt_of_le_of_lt (deeps_all (Nat.le_refl _) x hx) (by omega))
theorem same_eq {d : Da} (p : plain d = true) (h : deep d < 8) : f__law_same [d, d] = .ok (.bool true) := same_self 8 d p h
/-! ### numbers of riders -/
structure Tri where
  i : Int
  j : Int
  x : Int
def triD (t : Tri) : Da := .tuple [.int t.i, .int t.j, .int t.x]
def numD (S : List Int) (P : List Tri) : Da := .tuple [.list (dInts S), .list (P.map triD)]
def okX (x : Int) : Bool := decide (0 ≤ x) && decide (x ≤ 1000000000)
def okT (n : Nat) (t : Tri) : Bool := (decide (0 ≤ t.i) && (decide (t.i < t.j) && decide (t.j < (n : Int)))) && okX t.x
def leP (a b c d : Int) : Bool := decide (a < c ∨ (a = c ∧ b ≤ d))
def badAt {α : Type} (P : α → Bool) : Nat → List α → Option Nat
  | _, [] => none
  | k, a :: as => if P a then badAt P (k + 1) as else some k
def badP (n : Nat) : Int × Int → Nat → List Tri → Option Nat
  | _, _, [] => none
  | l, k, t :: ts => if okT n t && !leP t.i t.j l.1 l.2 then badP n (t.i, t.j) (k + 1) ts else some k
def erS (c : Str) (r : Option Nat) (ρ ρ' : En) : SRs := match r with
  | none => .go .nx ρ
  | some j => .er c (j : Int) ρ'
theorem leP_data {a b c d : Int} : cLeP (.tuple [.int a, .int b]) (.tuple [.int c, .int d]) = .ok (leP a b c d) := rfl
theorem singles_loop (A S2 P2 s5 s6 s7 s8 s9 : Slot) : ∀ (S : List Int) (k : Nat) (s3 s4 : Slot), ∃ s3' s4', forE (gTp 2 (gsCons (gNm 3) (gsCons (gNm 4) (gsNil)))) bl_check_numbers_1 (enumF k (dInts S)) [A, S2, P2, s3, s4, s5, s6, s7, s8, s9] = (match badAt okX k S with
    | none => .go .nx [A, S2, P2, s3', s4', s5, s6, s7, s8, s9]
    | some j => .er "BadNumbers" (j : Int) [A, S2, P2, s3', s4', s5, s6, s7, s8, s9])
  | [], k, s3, s4 => ⟨s3, s4, rfl⟩
  | x :: S, k, s3, s4 => by
    rw [show dInts (x :: S) = .int x :: dInts S from rfl, enumF_cons]
    unfold forE
    simp -implicitDefEqProofs only [q_run, q_seq, nx_nx, nx_rt, nx_bk, nx_ct, nx_er, nx_cond, bind_ok, bind_err, bind_cond, sB_ok, sB_err, sB_cond, cond_ok, cond_bool, cond_int, cond_and, cond_or, cond_nand, fin_rt, fin_nx, fin_er, fin_cond, q_nil, q_retN, q_set, q_setF, q_ret, q_retF, q_if, q_retX, q_do, pat_ok, q_pat, q_fz, q_nm, q_tp, q_gcons, q_gnil, q_var0, q_varS, q_own0, q_own1, q_ownS, q_c, q_L, asL_l, q_D, q_B, q_T, asB_b, q_No, q_An, q_Or, q_Ch, q_cN, q_c1, q_2, q_1, q_t2, q_If, q_anil, q_acons, q_tup, q_ap, q_apL, q_apI, q_sl, q_oNo, q_oSo, asO_i, q_ixS, q_m1, q_for, q_add, q_sub, q_neg, q_mul, q_mul', q_div, q_mod, q_p6, q_p9, q_p18, cond_t, cond_f, q_lt, q_le, q_gt, q_ge, q_eqI, q_neI, q_neB, q_eqB, q_neS, q_isN, q_notN, q_notB, q_isB, q_len, q_int, q_intB, q_R1, q_enum, enumD_F, q_abs, q_forN, q_forC, it_ok, lp_nx, lp_rt, q_zip, q_rev, q_rev2, q_R2, q_R3, q_It, asI_l, asI_t, q_vbV, q_vbO, q_vbS, fz_own, fz_val, fz_no, fz_S, q_mx2, q_mn2, q_mx3, q_raiseE, rs_int, lp_er, q_tryE, try_go, q_zip3, q_orT, q_Tr, tr_none, tr_bool, tr_list, List.map_cons, List.map_nil, List.cons_append, List.nil_append, List.length_cons, List.length_nil, List.replicate_succ, List.replicate_zero, List.set_cons_zero, List.set_cons_succ, Nat.reduceSub, Nat.reduceAdd, Nat.zero_add, Nat.sub_self, Nat.sub_zero, List.append_nil, Int.reduceLT, Int.reduceLE, Int.reduceNeg, Int.reducePow, Nat.reduceLT, Nat.reduceLeDiff, and_self, and_true, true_and, if_true, if_false, reduceIte, decide_true, decide_false, Bool.and_true, Bool.true_and, Bool.false_and, Bool.and_false, Bool.or_false, Bool.false_or, Bool.true_or, Bool.or_true, Bool.not_false, Bool.not_true, beq_self_eq_true]
    by_cases h : okX x = true
    · obtain ⟨y3, y4, ih⟩ := singles_loop A S2 P2 s5 s6 s7 s8 s9 S (k + 1) (.val (.int k)) (.val (.int x))
      refine ⟨y3, y4, ?_⟩
      have h' : (decide (0 ≤ x) && decide (x ≤ 1000000000)) = true := h
      simp -implicitDefEqProofs only [bl_check_numbers_1, st_check_numbers_1, h', h, badAt, q_run, q_seq, nx_nx, nx_rt, nx_bk, nx_ct, nx_er, nx_cond, bind_ok, bind_err, bind_cond, sB_ok, sB_err, sB_cond, cond_ok, cond_bool, cond_int, cond_and, cond_or, cond_nand, fin_rt, fin_nx, fin_er, fin_cond, q_nil, q_retN, q_set, q_setF, q_ret, q_retF, q_if, q_retX, q_do, pat_ok, q_pat, q_fz, q_nm, q_tp, q_gcons, q_gnil, q_var0, q_varS, q_own0, q_own1, q_ownS, q_c, q_L, asL_l, q_D, q_B, q_T, asB_b, q_No, q_An, q_Or, q_Ch, q_cN, q_c1, q_2, q_1, q_t2, q_If, q_anil, q_acons, q_tup, q_ap, q_apL, q_apI, q_sl, q_oNo, q_oSo, asO_i, q_ixS, q_m1, q_for, q_add, q_sub, q_neg, q_mul, q_mul', q_div, q_mod, q_p6, q_p9, q_p18, cond_t, cond_f, q_lt, q_le, q_gt, q_ge, q_eqI, q_neI, q_neB, q_eqB, q_neS, q_isN, q_notN, q_notB, q_isB, q_len, q_int, q_intB, q_R1, q_enum, enumD_F, q_abs, q_forN, q_forC, it_ok, lp_nx, lp_rt, q_zip, q_rev, q_rev2, q_R2, q_R3, q_It, asI_l, asI_t, q_vbV, q_vbO, q_vbS, fz_own, fz_val, fz_no, fz_S, q_mx2, q_mn2, q_mx3, q_raiseE, rs_int, lp_er, q_tryE, try_go, q_zip3, q_orT, q_Tr, tr_none, tr_bool, tr_list, List.map_cons, List.map_nil, List.cons_append, List.nil_append, List.length_cons, List.length_nil, List.replicate_succ, List.replicate_zero, List.set_cons_zero, List.set_cons_succ, Nat.reduceSub, Nat.reduceAdd, Nat.zero_add, Nat.sub_self, Nat.sub_zero, List.append_nil, Int.reduceLT, Int.reduceLE, Int.reduceNeg, Int.reducePow, Nat.reduceLT, Nat.reduceLeDiff, and_self, and_true, true_and, if_true, if_false, reduceIte, decide_true, decide_false, Bool.and_true, Bool.true_and, Bool.false_and, Bool.and_false, Bool.or_false, Bool.false_or, Bool.true_or, Bool.or_true, Bool.not_false, Bool.not_true, beq_self_eq_true]
      exact ih
    · have h0 : okX x = false := by simpa using h
      have h' : (decide (0 ≤ x) && decide (x ≤ 1000000000)) = false := h0
      refine ⟨.val (.int k), .val (.int x), ?_⟩
      simp -implicitDefEqProofs only [bl_check_numbers_1, st_check_numbers_1, h', h0, badAt, Bool.false_eq_true, q_run, q_seq, nx_nx, nx_rt, nx_bk, nx_ct, nx_er, nx_cond, bind_ok, bind_err, bind_cond, sB_ok, sB_err, sB_cond, cond_ok, cond_bool, cond_int, cond_and, cond_or, cond_nand, fin_rt, fin_nx, fin_er, fin_cond, q_nil, q_retN, q_set, q_setF, q_ret, q_retF, q_if, q_retX, q_do, pat_ok, q_pat, q_fz, q_nm, q_tp, q_gcons, q_gnil, q_var0, q_varS, q_own0, q_own1, q_ownS, q_c, q_L, asL_l, q_D, q_B, q_T, asB_b, q_No, q_An, q_Or, q_Ch, q_cN, q_c1, q_2, q_1, q_t2, q_If, q_anil, q_acons, q_tup, q_ap, q_apL, q_apI, q_sl, q_oNo, q_oSo, asO_i, q_ixS, q_m1, q_for, q_add, q_sub, q_neg, q_mul, q_mul', q_div, q_mod, q_p6, q_p9, q_p18, cond_t, cond_f, q_lt, q_le, q_gt, q_ge, q_eqI, q_neI, q_neB, q_eqB, q_neS, q_isN, q_notN, q_notB, q_isB, q_len, q_int, q_intB, q_R1, q_enum, enumD_F, q_abs, q_forN, q_forC, it_ok, lp_nx, lp_rt, q_zip, q_rev, q_rev2, q_R2, q_R3, q_It, asI_l, asI_t, q_vbV, q_vbO, q_vbS, fz_own, fz_val, fz_no, fz_S, q_mx2, q_mn2, q_mx3, q_raiseE, rs_int, lp_er, q_tryE, try_go, q_zip3, q_orT, q_Tr, tr_none, tr_bool, tr_list, List.map_cons, List.map_nil, List.cons_append, List.nil_append, List.length_cons, List.length_nil, List.replicate_succ, List.replicate_zero, List.set_cons_zero, List.set_cons_succ, Nat.reduceSub, Nat.reduceAdd, Nat.zero_add, Nat.sub_self, Nat.sub_zero, List.append_nil, Int.reduceLT, Int.reduceLE, Int.reduceNeg, Int.reducePow, Nat.reduceLT, Nat.reduceLeDiff, and_self, and_true, true_and, if_true, if_false, reduceIte, decide_true, decide_false, Bool.and_true, Bool.true_and, Bool.false_and, Bool.and_false, Bool.or_false, Bool.false_or, Bool.true_or, Bool.or_true, Bool.not_false, Bool.not_true, beq_self_eq_true]
theorem pairs_loop (A P2 s3 : Slot) (S : List Int) : ∀ (P : List Tri) (l : Int × Int) (k : Nat) (s4 s6 s7 s8 s9 : Slot), ∃ s4' s5' s6' s7' s8' s9', forE (gTp 2 (gsCons (gNm 6) (gsCons (gTp 3 (gsCons (gNm 7) (gsCons (gNm 8) (gsCons (gNm 4) (gsNil))))) (gsNil)))) bl_check_numbers_2 (enumF k (P.map triD)) [A, .val (.list (dInts S)), P2, s3, s4, .val (.tuple [.int l.1, .int l.2]), s6, s7, s8, s9] = (match badP S.length l k P with
    | none => .go .nx [A, .val (.list (dInts S)), P2, s3, s4', s5', s6', s7', s8', s9']
    | some j => .er "BadNumbers" ((S.length : Int) + (j : Int)) [A, .val (.list (dInts S)), P2, s3, s4', s5', s6', s7', s8', s9'])
  | [], l, k, s4, s6, s7, s8, s9 => ⟨s4, .val (.tuple [.int l.1, .int l.2]), s6, s7, s8, s9, rfl⟩
  | t :: P, l, k, s4, s6, s7, s8, s9 => by
    have hg : gTp 2 (gsCons (gNm 6) (gsCons (gTp 3 (gsCons (gNm 7) (gsCons (gNm 8) (gsCons (gNm 4) (gsNil))))) (gsNil))) (.tuple [.int (k : Int), triD t]) [A, .val (.list (dInts S)), P2, s3, s4, .val (.tuple [.int l.1, .int l.2]), s6, s7, s8, s9] = .ok [A, .val (.list (dInts S)), P2, s3, .val (.int t.x), .val (.tuple [.int l.1, .int l.2]), .val (.int k), .val (.int t.i), .val (.int t.j), s9] := rfl
    rw [List.map_cons, enumF_cons, q_forC, hg, it_ok]
    have ll : (dInts S).length = S.length := dInts_len
    have o1 : (decide (0 ≤ t.i) && (decide (t.i < t.j) && decide (t.j < (S.length : Int))) && (decide (0 ≤ t.x) && decide (t.x ≤ 1000000000))) = okT S.length t := rfl
    have le := @leP_data t.i t.j l.1 l.2
    unfold badP
    by_cases h : (okT S.length t && !leP t.i t.j l.1 l.2) = true
    · obtain ⟨y4, y5, y6, y7, y8, y9, ih⟩ := pairs_loop A P2 s3 S P (t.i, t.j) (k + 1) (.val (.int t.x)) (.val (.int k)) (.val (.int t.i)) (.val (.int t.j)) (.val (.bool true))
      refine ⟨y4, y5, y6, y7, y8, y9, ?_⟩
      rw [if_pos h]
      obtain ⟨h1, h2⟩ := Bool.and_eq_true_iff.mp h
      have h2' : leP t.i t.j l.1 l.2 = false := by simpa using h2
      have bd : bl_check_numbers_2 [A, .val (.list (dInts S)), P2, s3, .val (.int t.x), .val (.tuple [.int l.1, .int l.2]), .val (.int k), .val (.int t.i), .val (.int t.j), s9] = .go .nx [A, .val (.list (dInts S)), P2, s3, .val (.int t.x), .val (.tuple [.int t.i, .int t.j]), .val (.int k), .val (.int t.i), .val (.int t.j), .val (.bool true)] := by
        rw [h2'] at le
        rw [h1] at o1
        generalize dInts S = SS at *
        simp -implicitDefEqProofs only [bl_check_numbers_2, st_check_numbers_2, st_check_numbers_3, ll, o1, le, q_run, q_seq, nx_nx, nx_rt, nx_bk, nx_ct, nx_er, nx_cond, bind_ok, bind_err, bind_cond, sB_ok, sB_err, sB_cond, cond_ok, cond_bool, cond_int, cond_and, cond_or, cond_nand, fin_rt, fin_nx, fin_er, fin_cond, q_nil, q_retN, q_set, q_setF, q_ret, q_retF, q_if, q_retX, q_do, pat_ok, q_pat, q_fz, q_nm, q_tp, q_gcons, q_gnil, q_var0, q_varS, q_own0, q_own1, q_ownS, q_c, q_L, asL_l, q_D, q_B, q_T, asB_b, q_No, q_An, q_Or, q_Ch, q_cN, q_c1, q_2, q_1, q_t2, q_If, q_anil, q_acons, q_tup, q_ap, q_apL, q_apI, q_sl, q_oNo, q_oSo, asO_i, q_ixS, q_m1, q_for, q_add, q_sub, q_neg, q_mul, q_mul', q_div, q_mod, q_p6, q_p9, q_p18, cond_t, cond_f, q_lt, q_le, q_gt, q_ge, q_eqI, q_neI, q_neB, q_eqB, q_neS, q_isN, q_notN, q_notB, q_isB, q_len, q_int, q_intB, q_R1, q_enum, enumD_F, q_abs, q_forN, q_forC, it_ok, lp_nx, lp_rt, q_zip, q_rev, q_rev2, q_R2, q_R3, q_It, asI_l, asI_t, q_vbV, q_vbO, q_vbS, fz_own, fz_val, fz_no, fz_S, q_mx2, q_mn2, q_mx3, q_raiseE, rs_int, lp_er, q_tryE, try_go, q_zip3, q_orT, q_Tr, tr_none, tr_bool, tr_list, List.map_cons, List.map_nil, List.cons_append, List.nil_append, List.length_cons, List.length_nil, List.replicate_succ, List.replicate_zero, List.set_cons_zero, List.set_cons_succ, Nat.reduceSub, Nat.reduceAdd, Nat.zero_add, Nat.sub_self, Nat.sub_zero, List.append_nil, Int.reduceLT, Int.reduceLE, Int.reduceNeg, Int.reducePow, Nat.reduceLT, Nat.reduceLeDiff, and_self, and_true, true_and, if_true, if_false, reduceIte, decide_true, decide_false, Bool.and_true, Bool.true_and, Bool.false_and, Bool.and_false, Bool.or_false, Bool.false_or, Bool.true_or, Bool.or_true, Bool.not_false, Bool.not_true, beq_self_eq_true]
      rw [bd, lp_nx]
      exact ih
    · rw [if_neg h]
      refine ⟨.val (.int t.x), .val (.tuple [.int l.1, .int l.2]), .val (.int k), .val (.int t.i), .val (.int t.j), .val (.bool (okT S.length t)), ?_⟩
      have bd : bl_check_numbers_2 [A, .val (.list (dInts S)), P2, s3, .val (.int t.x), .val (.tuple [.int l.1, .int l.2]), .val (.int k), .val (.int t.i), .val (.int t.j), s9] = .er "BadNumbers" ((S.length : Int) + (k : Int)) [A, .val (.list (dInts S)), P2, s3, .val (.int t.x), .val (.tuple [.int l.1, .int l.2]), .val (.int k), .val (.int t.i), .val (.int t.j), .val (.bool (okT S.length t))] := by
        cases h1 : okT S.length t with
        | false =>
          rw [h1] at o1
          generalize dInts S = SS at *
          simp -implicitDefEqProofs only [bl_check_numbers_2, st_check_numbers_2, st_check_numbers_3, ll, o1, q_run, q_seq, nx_nx, nx_rt, nx_bk, nx_ct, nx_er, nx_cond, bind_ok, bind_err, bind_cond, sB_ok, sB_err, sB_cond, cond_ok, cond_bool, cond_int, cond_and, cond_or, cond_nand, fin_rt, fin_nx, fin_er, fin_cond, q_nil, q_retN, q_set, q_setF, q_ret, q_retF, q_if, q_retX, q_do, pat_ok, q_pat, q_fz, q_nm, q_tp, q_gcons, q_gnil, q_var0, q_varS, q_own0, q_own1, q_ownS, q_c, q_L, asL_l, q_D, q_B, q_T, asB_b, q_No, q_An, q_Or, q_Ch, q_cN, q_c1, q_2, q_1, q_t2, q_If, q_anil, q_acons, q_tup, q_ap, q_apL, q_apI, q_sl, q_oNo, q_oSo, asO_i, q_ixS, q_m1, q_for, q_add, q_sub, q_neg, q_mul, q_mul', q_div, q_mod, q_p6, q_p9, q_p18, cond_t, cond_f, q_lt, q_le, q_gt, q_ge, q_eqI, q_neI, q_neB, q_eqB, q_neS, q_isN, q_notN, q_notB, q_isB, q_len, q_int, q_intB, q_R1, q_enum, enumD_F, q_abs, q_forN, q_forC, it_ok, lp_nx, lp_rt, q_zip, q_rev, q_rev2, q_R2, q_R3, q_It, asI_l, asI_t, q_vbV, q_vbO, q_vbS, fz_own, fz_val, fz_no, fz_S, q_mx2, q_mn2, q_mx3, q_raiseE, rs_int, lp_er, q_tryE, try_go, q_zip3, q_orT, q_Tr, tr_none, tr_bool, tr_list, List.map_cons, List.map_nil, List.cons_append, List.nil_append, List.length_cons, List.length_nil, List.replicate_succ, List.replicate_zero, List.set_cons_zero, List.set_cons_succ, Nat.reduceSub, Nat.reduceAdd, Nat.zero_add, Nat.sub_self, Nat.sub_zero, List.append_nil, Int.reduceLT, Int.reduceLE, Int.reduceNeg, Int.reducePow, Nat.reduceLT, Nat.reduceLeDiff, and_self, and_true, true_and, if_true, if_false, reduceIte, decide_true, decide_false, Bool.and_true, Bool.true_and, Bool.false_and, Bool.and_false, Bool.or_false, Bool.false_or, Bool.true_or, Bool.or_true, Bool.not_false, Bool.not_true, beq_self_eq_true]
        | true =>
          have h2 : leP t.i t.j l.1 l.2 = true := by
            rw [h1] at h
            simpa using h
          rw [h2] at le
          rw [h1] at o1
          generalize dInts S = SS at *
          simp -implicitDefEqProofs only [bl_check_numbers_2, st_check_numbers_2, st_check_numbers_3, ll, o1, le, q_run, q_seq, nx_nx, nx_rt, nx_bk, nx_ct, nx_er, nx_cond, bind_ok, bind_err, bind_cond, sB_ok, sB_err, sB_cond, cond_ok, cond_bool, cond_int, cond_and, cond_or, cond_nand, fin_rt, fin_nx, fin_er, fin_cond, q_nil, q_retN, q_set, q_setF, q_ret, q_retF, q_if, q_retX, q_do, pat_ok, q_pat, q_fz, q_nm, q_tp, q_gcons, q_gnil, q_var0, q_varS, q_own0, q_own1, q_ownS, q_c, q_L, asL_l, q_D, q_B, q_T, asB_b, q_No, q_An, q_Or, q_Ch, q_cN, q_c1, q_2, q_1, q_t2, q_If, q_anil, q_acons, q_tup, q_ap, q_apL, q_apI, q_sl, q_oNo, q_oSo, asO_i, q_ixS, q_m1, q_for, q_add, q_sub, q_neg, q_mul, q_mul', q_div, q_mod, q_p6, q_p9, q_p18, cond_t, cond_f, q_lt, q_le, q_gt, q_ge, q_eqI, q_neI, q_neB, q_eqB, q_neS, q_isN, q_notN, q_notB, q_isB, q_len, q_int, q_intB, q_R1, q_enum, enumD_F, q_abs, q_forN, q_forC, it_ok, lp_nx, lp_rt, q_zip, q_rev, q_rev2, q_R2, q_R3, q_It, asI_l, asI_t, q_vbV, q_vbO, q_vbS, fz_own, fz_val, fz_no, fz_S, q_mx2, q_mn2, q_mx3, q_raiseE, rs_int, lp_er, q_tryE, try_go, q_zip3, q_orT, q_Tr, tr_none, tr_bool, tr_list, List.map_cons, List.map_nil, List.cons_append, List.nil_append, List.length_cons, List.length_nil, List.replicate_succ, List.replicate_zero, List.set_cons_zero, List.set_cons_succ, Nat.reduceSub, Nat.reduceAdd, Nat.zero_add, Nat.sub_self, Nat.sub_zero, List.append_nil, Int.reduceLT, Int.reduceLE, Int.reduceNeg, Int.reducePow, Nat.reduceLT, Nat.reduceLeDiff, and_self, and_true, true_and, if_true, if_false, reduceIte, decide_true, decide_false, Bool.and_true, Bool.true_and, Bool.false_and, Bool.and_false, Bool.or_false, Bool.false_or, Bool.true_or, Bool.or_true, Bool.not_false, Bool.not_true, beq_self_eq_true]
      rw [bd]
      rfl
def faultR (S : List Int) (P : List Tri) : R Da := if 40 < S.length then .err "TooMany" S.length else match badAt okX 0 S with
  | some j => .err "BadNumbers" j
  | none => match badP S.length (-1, -1) 0 P with
    | some j => .err "BadNumbers" ((S.length : Int) + (j : Int))
    | none => .ok .none
theorem check_numbers_eq (S : List Int) (P : List Tri) : f_check_numbers [numD S P] = faultR S P := by
  have ll : (dInts S).length = S.length := dInts_len
  have hp : gTp 2 (gsCons (gNm 1) (gsCons (gNm 2) (gsNil))) (numD S P) [.val (numD S P), .no, .no, .no, .no, .no, .no, .no, .no, .no] = .ok [.val (numD S P), .val (.list (dInts S)), .val (.list (P.map triD)), .no, .no, .no, .no, .no, .no, .no] := rfl
  unfold faultR
  have cm : f_check_many [.int (S.length : Int), .int 40] = if 40 < S.length then .err "TooMany" S.length else .ok .none := by
    by_cases c : 40 < S.length
    · rw [if_pos c]
      simp -implicitDefEqProofs only [f_check_many, v_check_many, decide_eq_true (show (40 : Int) < S.length by omega), q_run, q_seq, nx_nx, nx_rt, nx_bk, nx_ct, nx_er, nx_cond, bind_ok, bind_err, bind_cond, sB_ok, sB_err, sB_cond, cond_ok, cond_bool, cond_int, cond_and, cond_or, cond_nand, fin_rt, fin_nx, fin_er, fin_cond, q_nil, q_retN, q_set, q_setF, q_ret, q_retF, q_if, q_retX, q_do, pat_ok, q_pat, q_fz, q_nm, q_tp, q_gcons, q_gnil, q_var0, q_varS, q_own0, q_own1, q_ownS, q_c, q_L, asL_l, q_D, q_B, q_T, asB_b, q_No, q_An, q_Or, q_Ch, q_cN, q_c1, q_2, q_1, q_t2, q_If, q_anil, q_acons, q_tup, q_ap, q_apL, q_apI, q_sl, q_oNo, q_oSo, asO_i, q_ixS, q_m1, q_for, q_add, q_sub, q_neg, q_mul, q_mul', q_div, q_mod, q_p6, q_p9, q_p18, cond_t, cond_f, q_lt, q_le, q_gt, q_ge, q_eqI, q_neI, q_neB, q_eqB, q_neS, q_isN, q_notN, q_notB, q_isB, q_len, q_int, q_intB, q_R1, q_enum, enumD_F, q_abs, q_forN, q_forC, it_ok, lp_nx, lp_rt, q_zip, q_rev, q_rev2, q_R2, q_R3, q_It, asI_l, asI_t, q_vbV, q_vbO, q_vbS, fz_own, fz_val, fz_no, fz_S, q_mx2, q_mn2, q_mx3, q_raiseE, rs_int, lp_er, q_tryE, try_go, q_zip3, q_orT, q_Tr, tr_none, tr_bool, tr_list, List.map_cons, List.map_nil, List.cons_append, List.nil_append, List.length_cons, List.length_nil, List.replicate_succ, List.replicate_zero, List.set_cons_zero, List.set_cons_succ, Nat.reduceSub, Nat.reduceAdd, Nat.zero_add, Nat.sub_self, Nat.sub_zero, List.append_nil, Int.reduceLT, Int.reduceLE, Int.reduceNeg, Int.reducePow, Nat.reduceLT, Nat.reduceLeDiff, and_self, and_true, true_and, if_true, if_false, reduceIte, decide_true, decide_false, Bool.and_true, Bool.true_and, Bool.false_and, Bool.and_false, Bool.or_false, Bool.false_or, Bool.true_or, Bool.or_true, Bool.not_false, Bool.not_true, beq_self_eq_true]
    · rw [if_neg c]
      simp -implicitDefEqProofs only [f_check_many, v_check_many, decide_eq_false (show ¬ (40 : Int) < S.length by omega), q_run, q_seq, nx_nx, nx_rt, nx_bk, nx_ct, nx_er, nx_cond, bind_ok, bind_err, bind_cond, sB_ok, sB_err, sB_cond, cond_ok, cond_bool, cond_int, cond_and, cond_or, cond_nand, fin_rt, fin_nx, fin_er, fin_cond, q_nil, q_retN, q_set, q_setF, q_ret, q_retF, q_if, q_retX, q_do, pat_ok, q_pat, q_fz, q_nm, q_tp, q_gcons, q_gnil, q_var0, q_varS, q_own0, q_own1, q_ownS, q_c, q_L, asL_l, q_D, q_B, q_T, asB_b, q_No, q_An, q_Or, q_Ch, q_cN, q_c1, q_2, q_1, q_t2, q_If, q_anil, q_acons, q_tup, q_ap, q_apL, q_apI, q_sl, q_oNo, q_oSo, asO_i, q_ixS, q_m1, q_for, q_add, q_sub, q_neg, q_mul, q_mul', q_div, q_mod, q_p6, q_p9, q_p18, cond_t, cond_f, q_lt, q_le, q_gt, q_ge, q_eqI, q_neI, q_neB, q_eqB, q_neS, q_isN, q_notN, q_notB, q_isB, q_len, q_int, q_intB, q_R1, q_enum, enumD_F, q_abs, q_forN, q_forC, it_ok, lp_nx, lp_rt, q_zip, q_rev, q_rev2, q_R2, q_R3, q_It, asI_l, asI_t, q_vbV, q_vbO, q_vbS, fz_own, fz_val, fz_no, fz_S, q_mx2, q_mn2, q_mx3, q_raiseE, rs_int, lp_er, q_tryE, try_go, q_zip3, q_orT, q_Tr, tr_none, tr_bool, tr_list, List.map_cons, List.map_nil, List.cons_append, List.nil_append, List.length_cons, List.length_nil, List.replicate_succ, List.replicate_zero, List.set_cons_zero, List.set_cons_succ, Nat.reduceSub, Nat.reduceAdd, Nat.zero_add, Nat.sub_self, Nat.sub_zero, List.append_nil, Int.reduceLT, Int.reduceLE, Int.reduceNeg, Int.reducePow, Nat.reduceLT, Nat.reduceLeDiff, and_self, and_true, true_and, if_true, if_false, reduceIte, decide_true, decide_false, Bool.and_true, Bool.true_and, Bool.false_and, Bool.and_false, Bool.or_false, Bool.false_or, Bool.true_or, Bool.or_true, Bool.not_false, Bool.not_true, beq_self_eq_true]
  by_cases c : 40 < S.length
  · rw [if_pos c] at cm ⊢
    generalize numD S P = NN at *
    generalize P.map triD = PP at *
    generalize dInts S = SS at *
    simp -implicitDefEqProofs only [f_check_numbers, v_check_numbers, hp, st_check_numbers_4, ll, cm, q_run, q_seq, nx_nx, nx_rt, nx_bk, nx_ct, nx_er, nx_cond, bind_ok, bind_err, bind_cond, sB_ok, sB_err, sB_cond, cond_ok, cond_bool, cond_int, cond_and, cond_or, cond_nand, fin_rt, fin_nx, fin_er, fin_cond, q_nil, q_retN, q_set, q_setF, q_ret, q_retF, q_if, q_retX, q_do, pat_ok, q_pat, q_fz, q_nm, q_tp, q_gcons, q_gnil, q_var0, q_varS, q_own0, q_own1, q_ownS, q_c, q_L, asL_l, q_D, q_B, q_T, asB_b, q_No, q_An, q_Or, q_Ch, q_cN, q_c1, q_2, q_1, q_t2, q_If, q_anil, q_acons, q_tup, q_ap, q_apL, q_apI, q_sl, q_oNo, q_oSo, asO_i, q_ixS, q_m1, q_for, q_add, q_sub, q_neg, q_mul, q_mul', q_div, q_mod, q_p6, q_p9, q_p18, cond_t, cond_f, q_lt, q_le, q_gt, q_ge, q_eqI, q_neI, q_neB, q_eqB, q_neS, q_isN, q_notN, q_notB, q_isB, q_len, q_int, q_intB, q_R1, q_enum, enumD_F, q_abs, q_forN, q_forC, it_ok, lp_nx, lp_rt, q_zip, q_rev, q_rev2, q_R2, q_R3, q_It, asI_l, asI_t, q_vbV, q_vbO, q_vbS, fz_own, fz_val, fz_no, fz_S, q_mx2, q_mn2, q_mx3, q_raiseE, rs_int, lp_er, q_tryE, try_go, q_zip3, q_orT, q_Tr, tr_none, tr_bool, tr_list, List.map_cons, List.map_nil, List.cons_append, List.nil_append, List.length_cons, List.length_nil, List.replicate_succ, List.replicate_zero, List.set_cons_zero, List.set_cons_succ, Nat.reduceSub, Nat.reduceAdd, Nat.zero_add, Nat.sub_self, Nat.sub_zero, List.append_nil, Int.reduceLT, Int.reduceLE, Int.reduceNeg, Int.reducePow, Nat.reduceLT, Nat.reduceLeDiff, and_self, and_true, true_and, if_true, if_false, reduceIte, decide_true, decide_false, Bool.and_true, Bool.true_and, Bool.false_and, Bool.and_false, Bool.or_false, Bool.false_or, Bool.true_or, Bool.or_true, Bool.not_false, Bool.not_true, beq_self_eq_true]
  · rw [if_neg c] at cm ⊢
    obtain ⟨y3, y4, e1⟩ := singles_loop (.val (numD S P)) (.val (.list (dInts S))) (.val (.list (P.map triD))) .no .no .no .no .no S 0 .no .no
    have z0 : ∀ r : En, r = r := fun _ => rfl
    cases hb : badAt okX 0 S with
    | some j =>
      rw [hb] at e1
      dsimp only at e1 ⊢
      generalize numD S P = NN at *
      generalize P.map triD = PP at *
      generalize dInts S = SS at *
      simp -implicitDefEqProofs only [f_check_numbers, v_check_numbers, hp, st_check_numbers_4, st_check_numbers_5, ll, cm, q_enum, e1, enumD_F, q_run, q_seq, nx_nx, nx_rt, nx_bk, nx_ct, nx_er, nx_cond, bind_ok, bind_err, bind_cond, sB_ok, sB_err, sB_cond, cond_ok, cond_bool, cond_int, cond_and, cond_or, cond_nand, fin_rt, fin_nx, fin_er, fin_cond, q_nil, q_retN, q_set, q_setF, q_ret, q_retF, q_if, q_retX, q_do, pat_ok, q_pat, q_fz, q_nm, q_tp, q_gcons, q_gnil, q_var0, q_varS, q_own0, q_own1, q_ownS, q_c, q_L, asL_l, q_D, q_B, q_T, asB_b, q_No, q_An, q_Or, q_Ch, q_cN, q_c1, q_2, q_1, q_t2, q_If, q_anil, q_acons, q_tup, q_ap, q_apL, q_apI, q_sl, q_oNo, q_oSo, asO_i, q_ixS, q_m1, q_for, q_add, q_sub, q_neg, q_mul, q_mul', q_div, q_mod, q_p6, q_p9, q_p18, cond_t, cond_f, q_lt, q_le, q_gt, q_ge, q_eqI, q_neI, q_neB, q_eqB, q_neS, q_isN, q_notN, q_notB, q_isB, q_len, q_int, q_intB, q_R1, q_enum, enumD_F, q_abs, q_forN, q_forC, it_ok, lp_nx, lp_rt, q_zip, q_rev, q_rev2, q_R2, q_R3, q_It, asI_l, asI_t, q_vbV, q_vbO, q_vbS, fz_own, fz_val, fz_no, fz_S, q_mx2, q_mn2, q_mx3, q_raiseE, rs_int, lp_er, q_tryE, try_go, q_zip3, q_orT, q_Tr, tr_none, tr_bool, tr_list, List.map_cons, List.map_nil, List.cons_append, List.nil_append, List.length_cons, List.length_nil, List.replicate_succ, List.replicate_zero, List.set_cons_zero, List.set_cons_succ, Nat.reduceSub, Nat.reduceAdd, Nat.zero_add, Nat.sub_self, Nat.sub_zero, List.append_nil, Int.reduceLT, Int.reduceLE, Int.reduceNeg, Int.reducePow, Nat.reduceLT, Nat.reduceLeDiff, and_self, and_true, true_and, if_true, if_false, reduceIte, decide_true, decide_false, Bool.and_true, Bool.true_and, Bool.false_and, Bool.and_false, Bool.or_false, Bool.false_or, Bool.true_or, Bool.or_true, Bool.not_false, Bool.not_true, beq_self_eq_true]
    | none =>
      rw [hb] at e1
      obtain ⟨w4, w5, w6, w7, w8, w9, e2⟩ := pairs_loop (.val (numD S P)) (.val (.list (P.map triD))) y3 S P (-1, -1) 0 y4 .no .no .no .no
      dsimp only at e1 ⊢
      cases hq : badP S.length (-1, -1) 0 P with
      | some j =>
        rw [hq] at e2
        dsimp only at e2 ⊢
        generalize numD S P = NN at *
        generalize P.map triD = PP at *
        generalize dInts S = SS at *
        simp -implicitDefEqProofs only [f_check_numbers, v_check_numbers, hp, st_check_numbers_4, st_check_numbers_5, st_check_numbers_6, st_check_numbers_7, ll, cm, e1, e2, q_run, q_seq, nx_nx, nx_rt, nx_bk, nx_ct, nx_er, nx_cond, bind_ok, bind_err, bind_cond, sB_ok, sB_err, sB_cond, cond_ok, cond_bool, cond_int, cond_and, cond_or, cond_nand, fin_rt, fin_nx, fin_er, fin_cond, q_nil, q_retN, q_set, q_setF, q_ret, q_retF, q_if, q_retX, q_do, pat_ok, q_pat, q_fz, q_nm, q_tp, q_gcons, q_gnil, q_var0, q_varS, q_own0, q_own1, q_ownS, q_c, q_L, asL_l, q_D, q_B, q_T, asB_b, q_No, q_An, q_Or, q_Ch, q_cN, q_c1, q_2, q_1, q_t2, q_If, q_anil, q_acons, q_tup, q_ap, q_apL, q_apI, q_sl, q_oNo, q_oSo, asO_i, q_ixS, q_m1, q_for, q_add, q_sub, q_neg, q_mul, q_mul', q_div, q_mod, q_p6, q_p9, q_p18, cond_t, cond_f, q_lt, q_le, q_gt, q_ge, q_eqI, q_neI, q_neB, q_eqB, q_neS, q_isN, q_notN, q_notB, q_isB, q_len, q_int, q_intB, q_R1, q_enum, enumD_F, q_abs, q_forN, q_forC, it_ok, lp_nx, lp_rt, q_zip, q_rev, q_rev2, q_R2, q_R3, q_It, asI_l, asI_t, q_vbV, q_vbO, q_vbS, fz_own, fz_val, fz_no, fz_S, q_mx2, q_mn2, q_mx3, q_raiseE, rs_int, lp_er, q_tryE, try_go, q_zip3, q_orT, q_Tr, tr_none, tr_bool, tr_list, List.map_cons, List.map_nil, List.cons_append, List.nil_append, List.length_cons, List.length_nil, List.replicate_succ, List.replicate_zero, List.set_cons_zero, List.set_cons_succ, Nat.reduceSub, Nat.reduceAdd, Nat.zero_add, Nat.sub_self, Nat.sub_zero, List.append_nil, Int.reduceLT, Int.reduceLE, Int.reduceNeg, Int.reducePow, Nat.reduceLT, Nat.reduceLeDiff, and_self, and_true, true_and, if_true, if_false, reduceIte, decide_true, decide_false, Bool.and_true, Bool.true_and, Bool.false_and, Bool.and_false, Bool.or_false, Bool.false_or, Bool.true_or, Bool.or_true, Bool.not_false, Bool.not_true, beq_self_eq_true]
      | none =>
        rw [hq] at e2
        dsimp only at e2 ⊢
        generalize numD S P = NN at *
        generalize P.map triD = PP at *
        generalize dInts S = SS at *
        simp -implicitDefEqProofs only [f_check_numbers, v_check_numbers, hp, st_check_numbers_4, st_check_numbers_5, st_check_numbers_6, st_check_numbers_7, ll, cm, e1, e2, q_run, q_seq, nx_nx, nx_rt, nx_bk, nx_ct, nx_er, nx_cond, bind_ok, bind_err, bind_cond, sB_ok, sB_err, sB_cond, cond_ok, cond_bool, cond_int, cond_and, cond_or, cond_nand, fin_rt, fin_nx, fin_er, fin_cond, q_nil, q_retN, q_set, q_setF, q_ret, q_retF, q_if, q_retX, q_do, pat_ok, q_pat, q_fz, q_nm, q_tp, q_gcons, q_gnil, q_var0, q_varS, q_own0, q_own1, q_ownS, q_c, q_L, asL_l, q_D, q_B, q_T, asB_b, q_No, q_An, q_Or, q_Ch, q_cN, q_c1, q_2, q_1, q_t2, q_If, q_anil, q_acons, q_tup, q_ap, q_apL, q_apI, q_sl, q_oNo, q_oSo, asO_i, q_ixS, q_m1, q_for, q_add, q_sub, q_neg, q_mul, q_mul', q_div, q_mod, q_p6, q_p9, q_p18, cond_t, cond_f, q_lt, q_le, q_gt, q_ge, q_eqI, q_neI, q_neB, q_eqB, q_neS, q_isN, q_notN, q_notB, q_isB, q_len, q_int, q_intB, q_R1, q_enum, enumD_F, q_abs, q_forN, q_forC, it_ok, lp_nx, lp_rt, q_zip, q_rev, q_rev2, q_R2, q_R3, q_It, asI_l, asI_t, q_vbV, q_vbO, q_vbS, fz_own, fz_val, fz_no, fz_S, q_mx2, q_mn2, q_mx3, q_raiseE, rs_int, lp_er, q_tryE, try_go, q_zip3, q_orT, q_Tr, tr_none, tr_bool, tr_list, List.map_cons, List.map_nil, List.cons_append, List.nil_append, List.length_cons, List.length_nil, List.replicate_succ, List.replicate_zero, List.set_cons_zero, List.set_cons_succ, Nat.reduceSub, Nat.reduceAdd, Nat.zero_add, Nat.sub_self, Nat.sub_zero, List.append_nil, Int.reduceLT, Int.reduceLE, Int.reduceNeg, Int.reducePow, Nat.reduceLT, Nat.reduceLeDiff, and_self, and_true, true_and, if_true, if_false, reduceIte, decide_true, decide_false, Bool.and_true, Bool.true_and, Bool.false_and, Bool.and_false, Bool.or_false, Bool.false_or, Bool.true_or, Bool.or_true, Bool.not_false, Bool.not_true, beq_self_eq_true]
end K27
namespace K27
open PySem PySem.Spec PyProof.Rows L2 VL
theorem rng_cons {lo : Int} {n : Nat} : rngD lo (n + 1) = .int lo :: rngD (lo + 1) n := by
  unfold rngD
  rw [List.range_succ_eq_map, List.map_cons, List.map_map]
  congr 1
  · rw [show lo + ((0 : Nat) : Int) = lo by omega]
  · refine List.map_congr_left fun i _ => ?_
    show PyData.int (lo + ((i + 1 : Nat) : Int)) = .int (lo + 1 + (i : Int))
    congr 1
    omega
def errN (nm : Str) (n : Int) : Da := .tuple [.str "error", .str nm, .int n]
def dueD (S : List Int) (P : List Tri) : Da := if 40 < S.length then errN "many" S.length else match badAt okX 0 S with
  | some j => errN "numbers" j
  | none => match badP S.length (-1, -1) 0 P with
    | some j => errN "numbers" ((S.length : Int) + (j : Int))
    | none => .none
theorem drop_get {α : Type} {l suf : List α} {k : Nat} {x : α} (h : l.drop k = x :: suf) : l[k]? = some x ∧ l.drop (k + 1) = suf ∧ k < l.length := by
  have h1 := congrArg (fun z => z[0]?) h
  have h2 := congrArg List.tail h
  have h3 := congrArg List.length h
  rw [List.length_drop, List.length_cons] at h3
  exact ⟨by simpa using h1, by simpa using h2, by omega⟩
theorem fault_s (A P2 s4 s5 s6 s7 : Slot) (S : List Int) : ∀ (suf : List Int) (k : Nat) (s3 : Slot), S.drop k = suf → ∃ s3', forE (gNm 3) bl__law_fault_1 (rngD (k : Int) suf.length) [A, .val (.list (dInts S)), P2, s3, s4, s5, s6, s7] = (match badAt okX k suf with
    | none => .go .nx [A, .val (.list (dInts S)), P2, s3', s4, s5, s6, s7]
    | some j => .go (.rt (errN "numbers" (j : Int))) [A, .val (.list (dInts S)), P2, s3', s4, s5, s6, s7])
  | [], k, s3, _ => ⟨s3, rfl⟩
  | x :: suf, k, s3, hd => by
    obtain ⟨h1, h2, h3⟩ := drop_get hd
    have ix : dIx (.list (dInts S)) (.int (k : Int)) = .ok (.int x) := dIx_nat (by
      show (S.map PyData.int)[k]? = _
      rw [List.getElem?_map, h1]
      rfl)
    rw [List.length_cons, rng_cons, q_forC, q_nm, it_ok]
    by_cases h : okX x = true
    · obtain ⟨y3, ih⟩ := fault_s A P2 s4 s5 s6 s7 S suf (k + 1) (.val (.int (k : Int))) h2
      rw [show ((k + 1 : Nat) : Int) = (k : Int) + 1 by omega] at ih
      refine ⟨y3, ?_⟩
      have h' : 0 ≤ x ∧ x ≤ 1000000000 := by
        have := Bool.and_eq_true_iff.mp (show (decide (0 ≤ x) && decide (x ≤ 1000000000)) = true from h)
        exact ⟨of_decide_eq_true this.1, of_decide_eq_true this.2⟩
      unfold badAt
      rw [if_pos h]
      generalize dInts S = SS at *
      simp -implicitDefEqProofs only [bl__law_fault_1, st__law_fault_3, ix, decide_eq_false (show ¬ x < 0 by omega), decide_eq_false (show ¬ (1000000000 : Int) < x by omega), q_run, q_seq, nx_nx, nx_rt, nx_bk, nx_ct, nx_er, nx_cond, bind_ok, bind_err, bind_cond, sB_ok, sB_err, sB_cond, cond_ok, cond_bool, cond_int, cond_and, cond_or, cond_nand, fin_rt, fin_nx, fin_er, fin_cond, q_nil, q_retN, q_set, q_setF, q_ret, q_retF, q_if, q_retX, q_do, pat_ok, q_pat, q_fz, q_nm, q_tp, q_gcons, q_gnil, q_var0, q_varS, q_own0, q_own1, q_ownS, q_c, q_L, asL_l, q_D, q_B, q_T, asB_b, q_No, q_An, q_Or, q_Ch, q_cN, q_c1, q_2, q_1, q_t2, q_If, q_anil, q_acons, q_tup, q_ap, q_apL, q_apI, q_sl, q_oNo, q_oSo, asO_i, q_ixS, q_m1, q_for, q_add, q_sub, q_neg, q_mul, q_mul', q_div, q_mod, q_p6, q_p9, q_p18, cond_t, cond_f, q_lt, q_le, q_gt, q_ge, q_eqI, q_neI, q_neB, q_eqB, q_neS, q_isN, q_notN, q_notB, q_isB, q_len, q_int, q_intB, q_R1, q_enum, enumD_F, q_abs, q_forN, q_forC, it_ok, lp_nx, lp_rt, q_zip, q_rev, q_rev2, q_R2, q_R3, q_It, asI_l, asI_t, q_vbV, q_vbO, q_vbS, fz_own, fz_val, fz_no, fz_S, q_mx2, q_mn2, q_mx3, q_raiseE, rs_int, lp_er, q_tryE, try_go, q_zip3, q_orT, q_Tr, tr_none, tr_bool, tr_list, List.map_cons, List.map_nil, List.cons_append, List.nil_append, List.length_cons, List.length_nil, List.replicate_succ, List.replicate_zero, List.set_cons_zero, List.set_cons_succ, Nat.reduceSub, Nat.reduceAdd, Nat.zero_add, Nat.sub_self, Nat.sub_zero, List.append_nil, Int.reduceLT, Int.reduceLE, Int.reduceNeg, Int.reducePow, Nat.reduceLT, Nat.reduceLeDiff, and_self, and_true, true_and, if_true, if_false, reduceIte, decide_true, decide_false, Bool.and_true, Bool.true_and, Bool.false_and, Bool.and_false, Bool.or_false, Bool.false_or, Bool.true_or, Bool.or_true, Bool.not_false, Bool.not_true, beq_self_eq_true]
      exact ih
    · have h' : x < 0 ∨ 1000000000 < x := by
        have : okX x = false := by simpa using h
        have := this
        unfold okX at this
        rw [Bool.and_eq_false_iff, decide_eq_false_iff_not, decide_eq_false_iff_not] at this
        omega
      refine ⟨.val (.int (k : Int)), ?_⟩
      unfold badAt
      rw [if_neg h]
      unfold errN
      generalize dInts S = SS at *
      rcases h' with h' | h'
      · simp -implicitDefEqProofs only [bl__law_fault_1, st__law_fault_3, st__law_fault_2, ix, decide_eq_true h', q_run, q_seq, nx_nx, nx_rt, nx_bk, nx_ct, nx_er, nx_cond, bind_ok, bind_err, bind_cond, sB_ok, sB_err, sB_cond, cond_ok, cond_bool, cond_int, cond_and, cond_or, cond_nand, fin_rt, fin_nx, fin_er, fin_cond, q_nil, q_retN, q_set, q_setF, q_ret, q_retF, q_if, q_retX, q_do, pat_ok, q_pat, q_fz, q_nm, q_tp, q_gcons, q_gnil, q_var0, q_varS, q_own0, q_own1, q_ownS, q_c, q_L, asL_l, q_D, q_B, q_T, asB_b, q_No, q_An, q_Or, q_Ch, q_cN, q_c1, q_2, q_1, q_t2, q_If, q_anil, q_acons, q_tup, q_ap, q_apL, q_apI, q_sl, q_oNo, q_oSo, asO_i, q_ixS, q_m1, q_for, q_add, q_sub, q_neg, q_mul, q_mul', q_div, q_mod, q_p6, q_p9, q_p18, cond_t, cond_f, q_lt, q_le, q_gt, q_ge, q_eqI, q_neI, q_neB, q_eqB, q_neS, q_isN, q_notN, q_notB, q_isB, q_len, q_int, q_intB, q_R1, q_enum, enumD_F, q_abs, q_forN, q_forC, it_ok, lp_nx, lp_rt, q_zip, q_rev, q_rev2, q_R2, q_R3, q_It, asI_l, asI_t, q_vbV, q_vbO, q_vbS, fz_own, fz_val, fz_no, fz_S, q_mx2, q_mn2, q_mx3, q_raiseE, rs_int, lp_er, q_tryE, try_go, q_zip3, q_orT, q_Tr, tr_none, tr_bool, tr_list, List.map_cons, List.map_nil, List.cons_append, List.nil_append, List.length_cons, List.length_nil, List.replicate_succ, List.replicate_zero, List.set_cons_zero, List.set_cons_succ, Nat.reduceSub, Nat.reduceAdd, Nat.zero_add, Nat.sub_self, Nat.sub_zero, List.append_nil, Int.reduceLT, Int.reduceLE, Int.reduceNeg, Int.reducePow, Nat.reduceLT, Nat.reduceLeDiff, and_self, and_true, true_and, if_true, if_false, reduceIte, decide_true, decide_false, Bool.and_true, Bool.true_and, Bool.false_and, Bool.and_false, Bool.or_false, Bool.false_or, Bool.true_or, Bool.or_true, Bool.not_false, Bool.not_true, beq_self_eq_true]
      · simp -implicitDefEqProofs only [bl__law_fault_1, st__law_fault_3, st__law_fault_2, ix, decide_eq_true h', q_run, q_seq, nx_nx, nx_rt, nx_bk, nx_ct, nx_er, nx_cond, bind_ok, bind_err, bind_cond, sB_ok, sB_err, sB_cond, cond_ok, cond_bool, cond_int, cond_and, cond_or, cond_nand, fin_rt, fin_nx, fin_er, fin_cond, q_nil, q_retN, q_set, q_setF, q_ret, q_retF, q_if, q_retX, q_do, pat_ok, q_pat, q_fz, q_nm, q_tp, q_gcons, q_gnil, q_var0, q_varS, q_own0, q_own1, q_ownS, q_c, q_L, asL_l, q_D, q_B, q_T, asB_b, q_No, q_An, q_Or, q_Ch, q_cN, q_c1, q_2, q_1, q_t2, q_If, q_anil, q_acons, q_tup, q_ap, q_apL, q_apI, q_sl, q_oNo, q_oSo, asO_i, q_ixS, q_m1, q_for, q_add, q_sub, q_neg, q_mul, q_mul', q_div, q_mod, q_p6, q_p9, q_p18, cond_t, cond_f, q_lt, q_le, q_gt, q_ge, q_eqI, q_neI, q_neB, q_eqB, q_neS, q_isN, q_notN, q_notB, q_isB, q_len, q_int, q_intB, q_R1, q_enum, enumD_F, q_abs, q_forN, q_forC, it_ok, lp_nx, lp_rt, q_zip, q_rev, q_rev2, q_R2, q_R3, q_It, asI_l, asI_t, q_vbV, q_vbO, q_vbS, fz_own, fz_val, fz_no, fz_S, q_mx2, q_mn2, q_mx3, q_raiseE, rs_int, lp_er, q_tryE, try_go, q_zip3, q_orT, q_Tr, tr_none, tr_bool, tr_list, List.map_cons, List.map_nil, List.cons_append, List.nil_append, List.length_cons, List.length_nil, List.replicate_succ, List.replicate_zero, List.set_cons_zero, List.set_cons_succ, Nat.reduceSub, Nat.reduceAdd, Nat.zero_add, Nat.sub_self, Nat.sub_zero, List.append_nil, Int.reduceLT, Int.reduceLE, Int.reduceNeg, Int.reducePow, Nat.reduceLT, Nat.reduceLeDiff, and_self, and_true, true_and, if_true, if_false, reduceIte, decide_true, decide_false, Bool.and_true, Bool.true_and, Bool.false_and, Bool.and_false, Bool.or_false, Bool.false_or, Bool.true_or, Bool.or_true, Bool.not_false, Bool.not_true, beq_self_eq_true]
theorem wrong_eq {n : Nat} (t : Tri) : (decide (t.i < 0) || (decide ((n : Int) ≤ t.j) || (decide (t.j ≤ t.i) || (decide (t.x < 0) || decide (1000000000 < t.x))))) = !okT n t := by
  rw [Bool.eq_iff_iff]
  unfold okT okX
  simp
  omega
theorem fault_p (A s3z : Slot) (S : List Int) (P : List Tri) : ∀ (suf : List Tri) (k : Nat) (l : Int × Int) (s3 s4 s5 s6 s7 : Slot), P.drop k = suf → (k = 0 → l = (-1, -1)) → (∀ k', k = k' + 1 → ∃ t, P[k']? = some t ∧ l = (t.i, t.j)) → ∃ s3' s4' s5' s6' s7', forE (gNm 3) bl__law_fault_2 (rngD (k : Int) suf.length) [A, .val (.list (dInts S)), .val (.list (P.map triD)), s3, s4, s5, s6, s7] = (match badP S.length l k suf with
    | none => .go .nx [A, .val (.list (dInts S)), .val (.list (P.map triD)), s3', s4', s5', s6', s7']
    | some j => .go (.rt (errN "numbers" ((S.length : Int) + (j : Int)))) [A, .val (.list (dInts S)), .val (.list (P.map triD)), s3', s4', s5', s6', s7'])
  | [], k, l, s3, s4, s5, s6, s7, _, _, _ => ⟨s3, s4, s5, s6, s7, rfl⟩
  | t :: suf, k, l, s3, s4, s5, s6, s7, hd, l0, l1 => by
    obtain ⟨h1, h2, h3⟩ := drop_get hd
    have ix : dIx (.list (P.map triD)) (.int (k : Int)) = .ok (triD t) := dIx_nat (by rw [List.getElem?_map, h1]; rfl)
    have ll : (dInts S).length = S.length := dInts_len
    have pt : ∀ A1 A2 A3 A4 A5 A6 A7 A8 : Slot, gTp 3 (gsCons (gNm 4) (gsCons (gNm 5) (gsCons (gNm 6) (gsNil)))) (triD t) [A1, A2, A3, A4, A5, A6, A7, A8] = .ok [A1, A2, A3, A4, .val (.int t.i), .val (.int t.j), .val (.int t.x), A8] := fun _ _ _ _ _ _ _ _ => rfl
    have wr := wrong_eq (n := S.length) t
    have sec : tAn (t2 cGt (eVar 3) (eC (.int 0))) (t2 cLeP (eTup (aCons (eVar 4) (aCons (eVar 5) (aNil)))) (eSlT (VL.e2 dIx (eVar 2) (VL.e2 dSub (eVar 3) (eC (.int 1)))) (oNo) (oSo (eC (.int 2))))) [A, .val (.list (dInts S)), .val (.list (P.map triD)), .val (.int (k : Int)), .val (.int t.i), .val (.int t.j), .val (.int t.x), .val (.bool (!okT S.length t))] = .ok (decide (0 < k) && leP t.i t.j l.1 l.2) := by
      by_cases k0 : k = 0
      · subst k0
        rfl
      · obtain ⟨k', rfl⟩ : ∃ k', k = k' + 1 := ⟨k - 1, by omega⟩
        obtain ⟨u, hu, rfl⟩ := l1 k' rfl
        have ix' : dIx (.list (P.map triD)) (.int (((k' + 1 : Nat) : Int) - 1)) = .ok (triD u) := by
          rw [show ((k' + 1 : Nat) : Int) - 1 = (k' : Int) by omega]
          exact dIx_nat (by rw [List.getElem?_map, hu]; rfl)
        have sl : eSlT (VL.e2 dIx (eVar 2) (VL.e2 dSub (eVar 3) (eC (.int 1)))) (oNo) (oSo (eC (.int 2))) [A, .val (.list (dInts S)), .val (.list (P.map triD)), .val (.int ((k' + 1 : Nat) : Int)), .val (.int t.i), .val (.int t.j), .val (.int t.x), .val (.bool (!okT S.length t))] = .ok (.tuple [.int u.i, .int u.j]) := by
          rw [q_slT (ds := [.int u.i, .int u.j, .int u.x]) (i := none) (j := some 2) ?_ rfl rfl]
          · rfl
          · generalize P.map triD = PP at *
            simp -implicitDefEqProofs only [ix', q_run, q_seq, nx_nx, nx_rt, nx_bk, nx_ct, nx_er, nx_cond, bind_ok, bind_err, bind_cond, sB_ok, sB_err, sB_cond, cond_ok, cond_bool, cond_int, cond_and, cond_or, cond_nand, fin_rt, fin_nx, fin_er, fin_cond, q_nil, q_retN, q_set, q_setF, q_ret, q_retF, q_if, q_retX, q_do, pat_ok, q_pat, q_fz, q_nm, q_tp, q_gcons, q_gnil, q_var0, q_varS, q_own0, q_own1, q_ownS, q_c, q_L, asL_l, q_D, q_B, q_T, asB_b, q_No, q_An, q_Or, q_Ch, q_cN, q_c1, q_2, q_1, q_t2, q_If, q_anil, q_acons, q_tup, q_ap, q_apL, q_apI, q_sl, q_oNo, q_oSo, asO_i, q_ixS, q_m1, q_for, q_add, q_sub, q_neg, q_mul, q_mul', q_div, q_mod, q_p6, q_p9, q_p18, cond_t, cond_f, q_lt, q_le, q_gt, q_ge, q_eqI, q_neI, q_neB, q_eqB, q_neS, q_isN, q_notN, q_notB, q_isB, q_len, q_int, q_intB, q_R1, q_enum, enumD_F, q_abs, q_forN, q_forC, it_ok, lp_nx, lp_rt, q_zip, q_rev, q_rev2, q_R2, q_R3, q_It, asI_l, asI_t, q_vbV, q_vbO, q_vbS, fz_own, fz_val, fz_no, fz_S, q_mx2, q_mn2, q_mx3, q_raiseE, rs_int, lp_er, q_tryE, try_go, q_zip3, q_orT, q_Tr, tr_none, tr_bool, tr_list, List.map_cons, List.map_nil, List.cons_append, List.nil_append, List.length_cons, List.length_nil, List.replicate_succ, List.replicate_zero, List.set_cons_zero, List.set_cons_succ, Nat.reduceSub, Nat.reduceAdd, Nat.zero_add, Nat.sub_self, Nat.sub_zero, List.append_nil, Int.reduceLT, Int.reduceLE, Int.reduceNeg, Int.reducePow, Nat.reduceLT, Nat.reduceLeDiff, and_self, and_true, true_and, if_true, if_false, reduceIte, decide_true, decide_false, Bool.and_true, Bool.true_and, Bool.false_and, Bool.and_false, Bool.or_false, Bool.false_or, Bool.true_or, Bool.or_true, Bool.not_false, Bool.not_true, beq_self_eq_true]
            rfl
        have le := @leP_data t.i t.j u.i u.j
        generalize P.map triD = PP at *
        simp -implicitDefEqProofs only [sl, le, decide_eq_true (show (0 : Int) < ((k' + 1 : Nat) : Int) by omega), decide_eq_true (show 0 < k' + 1 by omega), q_run, q_seq, nx_nx, nx_rt, nx_bk, nx_ct, nx_er, nx_cond, bind_ok, bind_err, bind_cond, sB_ok, sB_err, sB_cond, cond_ok, cond_bool, cond_int, cond_and, cond_or, cond_nand, fin_rt, fin_nx, fin_er, fin_cond, q_nil, q_retN, q_set, q_setF, q_ret, q_retF, q_if, q_retX, q_do, pat_ok, q_pat, q_fz, q_nm, q_tp, q_gcons, q_gnil, q_var0, q_varS, q_own0, q_own1, q_ownS, q_c, q_L, asL_l, q_D, q_B, q_T, asB_b, q_No, q_An, q_Or, q_Ch, q_cN, q_c1, q_2, q_1, q_t2, q_If, q_anil, q_acons, q_tup, q_ap, q_apL, q_apI, q_sl, q_oNo, q_oSo, asO_i, q_ixS, q_m1, q_for, q_add, q_sub, q_neg, q_mul, q_mul', q_div, q_mod, q_p6, q_p9, q_p18, cond_t, cond_f, q_lt, q_le, q_gt, q_ge, q_eqI, q_neI, q_neB, q_eqB, q_neS, q_isN, q_notN, q_notB, q_isB, q_len, q_int, q_intB, q_R1, q_enum, enumD_F, q_abs, q_forN, q_forC, it_ok, lp_nx, lp_rt, q_zip, q_rev, q_rev2, q_R2, q_R3, q_It, asI_l, asI_t, q_vbV, q_vbO, q_vbS, fz_own, fz_val, fz_no, fz_S, q_mx2, q_mn2, q_mx3, q_raiseE, rs_int, lp_er, q_tryE, try_go, q_zip3, q_orT, q_Tr, tr_none, tr_bool, tr_list, List.map_cons, List.map_nil, List.cons_append, List.nil_append, List.length_cons, List.length_nil, List.replicate_succ, List.replicate_zero, List.set_cons_zero, List.set_cons_succ, Nat.reduceSub, Nat.reduceAdd, Nat.zero_add, Nat.sub_self, Nat.sub_zero, List.append_nil, Int.reduceLT, Int.reduceLE, Int.reduceNeg, Int.reducePow, Nat.reduceLT, Nat.reduceLeDiff, and_self, and_true, true_and, if_true, if_false, reduceIte, decide_true, decide_false, Bool.and_true, Bool.true_and, Bool.false_and, Bool.and_false, Bool.or_false, Bool.false_or, Bool.true_or, Bool.or_true, Bool.not_false, Bool.not_true, beq_self_eq_true]
    rw [List.length_cons, rng_cons, q_forC, q_nm, it_ok]
    have cond : (!okT S.length t || (decide (0 < k) && leP t.i t.j l.1 l.2)) = !(okT S.length t && !leP t.i t.j l.1 l.2) := by
      by_cases k0 : k = 0
      · subst k0
        rw [l0 rfl]
        cases ho : okT S.length t with
        | false => rfl
        | true =>
          have : leP t.i t.j (-1) (-1) = false := by
            unfold okT at ho
            simp at ho
            unfold leP
            exact decide_eq_false (by omega)
          show (false || (decide (0 < 0) && leP t.i t.j (-1) (-1))) = !(true && !leP t.i t.j (-1) (-1))
          rw [this]
          rfl
      · rw [decide_eq_true (show 0 < k by omega)]
        cases okT S.length t <;> cases leP t.i t.j l.1 l.2 <;> rfl
    have body : bl__law_fault_2 [A, .val (.list (dInts S)), .val (.list (P.map triD)), .val (.int (k : Int)), s4, s5, s6, s7] = (if (okT S.length t && !leP t.i t.j l.1 l.2) = true then .go .nx [A, .val (.list (dInts S)), .val (.list (P.map triD)), .val (.int (k : Int)), .val (.int t.i), .val (.int t.j), .val (.int t.x), .val (.bool (!okT S.length t))] else .go (.rt (errN "numbers" ((S.length : Int) + (k : Int)))) [A, .val (.list (dInts S)), .val (.list (P.map triD)), .val (.int (k : Int)), .val (.int t.i), .val (.int t.j), .val (.int t.x), .val (.bool (!okT S.length t))]) := by
      unfold bl__law_fault_2
      rw [seq_go (show st__law_fault_5 _ = .go .nx [A, .val (.list (dInts S)), .val (.list (P.map triD)), .val (.int (k : Int)), .val (.int t.i), .val (.int t.j), .val (.int t.x), s7] from by
        generalize P.map triD = PP at *
        simp -implicitDefEqProofs only [st__law_fault_5, ix, pt, q_run, q_seq, nx_nx, nx_rt, nx_bk, nx_ct, nx_er, nx_cond, bind_ok, bind_err, bind_cond, sB_ok, sB_err, sB_cond, cond_ok, cond_bool, cond_int, cond_and, cond_or, cond_nand, fin_rt, fin_nx, fin_er, fin_cond, q_nil, q_retN, q_set, q_setF, q_ret, q_retF, q_if, q_retX, q_do, pat_ok, q_pat, q_fz, q_nm, q_tp, q_gcons, q_gnil, q_var0, q_varS, q_own0, q_own1, q_ownS, q_c, q_L, asL_l, q_D, q_B, q_T, asB_b, q_No, q_An, q_Or, q_Ch, q_cN, q_c1, q_2, q_1, q_t2, q_If, q_anil, q_acons, q_tup, q_ap, q_apL, q_apI, q_sl, q_oNo, q_oSo, asO_i, q_ixS, q_m1, q_for, q_add, q_sub, q_neg, q_mul, q_mul', q_div, q_mod, q_p6, q_p9, q_p18, cond_t, cond_f, q_lt, q_le, q_gt, q_ge, q_eqI, q_neI, q_neB, q_eqB, q_neS, q_isN, q_notN, q_notB, q_isB, q_len, q_int, q_intB, q_R1, q_enum, enumD_F, q_abs, q_forN, q_forC, it_ok, lp_nx, lp_rt, q_zip, q_rev, q_rev2, q_R2, q_R3, q_It, asI_l, asI_t, q_vbV, q_vbO, q_vbS, fz_own, fz_val, fz_no, fz_S, q_mx2, q_mn2, q_mx3, q_raiseE, rs_int, lp_er, q_tryE, try_go, q_zip3, q_orT, q_Tr, tr_none, tr_bool, tr_list, List.map_cons, List.map_nil, List.cons_append, List.nil_append, List.length_cons, List.length_nil, List.replicate_succ, List.replicate_zero, List.set_cons_zero, List.set_cons_succ, Nat.reduceSub, Nat.reduceAdd, Nat.zero_add, Nat.sub_self, Nat.sub_zero, List.append_nil, Int.reduceLT, Int.reduceLE, Int.reduceNeg, Int.reducePow, Nat.reduceLT, Nat.reduceLeDiff, and_self, and_true, true_and, if_true, if_false, reduceIte, decide_true, decide_false, Bool.and_true, Bool.true_and, Bool.false_and, Bool.and_false, Bool.or_false, Bool.false_or, Bool.true_or, Bool.or_true, Bool.not_false, Bool.not_true, beq_self_eq_true])]
      rw [seq_go (show st__law_fault_6 _ = .go .nx [A, .val (.list (dInts S)), .val (.list (P.map triD)), .val (.int (k : Int)), .val (.int t.i), .val (.int t.j), .val (.int t.x), .val (.bool (!okT S.length t))] from by
        generalize dInts S = SS at *
        simp -implicitDefEqProofs only [st__law_fault_6, ll, wr, q_run, q_seq, nx_nx, nx_rt, nx_bk, nx_ct, nx_er, nx_cond, bind_ok, bind_err, bind_cond, sB_ok, sB_err, sB_cond, cond_ok, cond_bool, cond_int, cond_and, cond_or, cond_nand, fin_rt, fin_nx, fin_er, fin_cond, q_nil, q_retN, q_set, q_setF, q_ret, q_retF, q_if, q_retX, q_do, pat_ok, q_pat, q_fz, q_nm, q_tp, q_gcons, q_gnil, q_var0, q_varS, q_own0, q_own1, q_ownS, q_c, q_L, asL_l, q_D, q_B, q_T, asB_b, q_No, q_An, q_Or, q_Ch, q_cN, q_c1, q_2, q_1, q_t2, q_If, q_anil, q_acons, q_tup, q_ap, q_apL, q_apI, q_sl, q_oNo, q_oSo, asO_i, q_ixS, q_m1, q_for, q_add, q_sub, q_neg, q_mul, q_mul', q_div, q_mod, q_p6, q_p9, q_p18, cond_t, cond_f, q_lt, q_le, q_gt, q_ge, q_eqI, q_neI, q_neB, q_eqB, q_neS, q_isN, q_notN, q_notB, q_isB, q_len, q_int, q_intB, q_R1, q_enum, enumD_F, q_abs, q_forN, q_forC, it_ok, lp_nx, lp_rt, q_zip, q_rev, q_rev2, q_R2, q_R3, q_It, asI_l, asI_t, q_vbV, q_vbO, q_vbS, fz_own, fz_val, fz_no, fz_S, q_mx2, q_mn2, q_mx3, q_raiseE, rs_int, lp_er, q_tryE, try_go, q_zip3, q_orT, q_Tr, tr_none, tr_bool, tr_list, List.map_cons, List.map_nil, List.cons_append, List.nil_append, List.length_cons, List.length_nil, List.replicate_succ, List.replicate_zero, List.set_cons_zero, List.set_cons_succ, Nat.reduceSub, Nat.reduceAdd, Nat.zero_add, Nat.sub_self, Nat.sub_zero, List.append_nil, Int.reduceLT, Int.reduceLE, Int.reduceNeg, Int.reducePow, Nat.reduceLT, Nat.reduceLeDiff, and_self, and_true, true_and, if_true, if_false, reduceIte, decide_true, decide_false, Bool.and_true, Bool.true_and, Bool.false_and, Bool.and_false, Bool.or_false, Bool.false_or, Bool.true_or, Bool.or_true, Bool.not_false, Bool.not_true, beq_self_eq_true])]
      have nb : ((!okT S.length t) || (decide (0 < k) && leP t.i t.j l.1 l.2)) = !(okT S.length t && !leP t.i t.j l.1 l.2) := cond
      generalize okT S.length t = ok at *
      generalize leP t.i t.j l.1 l.2 = le at *
      unfold errN
      generalize hd0 : decide (0 < k) = d0 at *
      generalize dInts S = SS at *
      generalize P.map triD = PP at *
      by_cases hz : (ok && !le) = true
      · rw [if_pos hz]
        rw [hz] at nb
        simp -implicitDefEqProofs only [st__law_fault_7, q_Or, sec, nb, q_run, q_seq, nx_nx, nx_rt, nx_bk, nx_ct, nx_er, nx_cond, bind_ok, bind_err, bind_cond, sB_ok, sB_err, sB_cond, cond_ok, cond_bool, cond_int, cond_and, cond_or, cond_nand, fin_rt, fin_nx, fin_er, fin_cond, q_nil, q_retN, q_set, q_setF, q_ret, q_retF, q_if, q_retX, q_do, pat_ok, q_pat, q_fz, q_nm, q_tp, q_gcons, q_gnil, q_var0, q_varS, q_own0, q_own1, q_ownS, q_c, q_L, asL_l, q_D, q_B, q_T, asB_b, q_No, q_An, q_Or, q_Ch, q_cN, q_c1, q_2, q_1, q_t2, q_If, q_anil, q_acons, q_tup, q_ap, q_apL, q_apI, q_sl, q_oNo, q_oSo, asO_i, q_ixS, q_m1, q_for, q_add, q_sub, q_neg, q_mul, q_mul', q_div, q_mod, q_p6, q_p9, q_p18, cond_t, cond_f, q_lt, q_le, q_gt, q_ge, q_eqI, q_neI, q_neB, q_eqB, q_neS, q_isN, q_notN, q_notB, q_isB, q_len, q_int, q_intB, q_R1, q_enum, enumD_F, q_abs, q_forN, q_forC, it_ok, lp_nx, lp_rt, q_zip, q_rev, q_rev2, q_R2, q_R3, q_It, asI_l, asI_t, q_vbV, q_vbO, q_vbS, fz_own, fz_val, fz_no, fz_S, q_mx2, q_mn2, q_mx3, q_raiseE, rs_int, lp_er, q_tryE, try_go, q_zip3, q_orT, q_Tr, tr_none, tr_bool, tr_list, List.map_cons, List.map_nil, List.cons_append, List.nil_append, List.length_cons, List.length_nil, List.replicate_succ, List.replicate_zero, List.set_cons_zero, List.set_cons_succ, Nat.reduceSub, Nat.reduceAdd, Nat.zero_add, Nat.sub_self, Nat.sub_zero, List.append_nil, Int.reduceLT, Int.reduceLE, Int.reduceNeg, Int.reducePow, Nat.reduceLT, Nat.reduceLeDiff, and_self, and_true, true_and, if_true, if_false, reduceIte, decide_true, decide_false, Bool.and_true, Bool.true_and, Bool.false_and, Bool.and_false, Bool.or_false, Bool.false_or, Bool.true_or, Bool.or_true, Bool.not_false, Bool.not_true, beq_self_eq_true]
      · rw [if_neg hz]
        have hz' : (ok && !le) = false := by simpa using hz
        rw [hz'] at nb
        simp -implicitDefEqProofs only [st__law_fault_7, st__law_fault_4, q_Or, sec, nb, ll, q_run, q_seq, nx_nx, nx_rt, nx_bk, nx_ct, nx_er, nx_cond, bind_ok, bind_err, bind_cond, sB_ok, sB_err, sB_cond, cond_ok, cond_bool, cond_int, cond_and, cond_or, cond_nand, fin_rt, fin_nx, fin_er, fin_cond, q_nil, q_retN, q_set, q_setF, q_ret, q_retF, q_if, q_retX, q_do, pat_ok, q_pat, q_fz, q_nm, q_tp, q_gcons, q_gnil, q_var0, q_varS, q_own0, q_own1, q_ownS, q_c, q_L, asL_l, q_D, q_B, q_T, asB_b, q_No, q_An, q_Or, q_Ch, q_cN, q_c1, q_2, q_1, q_t2, q_If, q_anil, q_acons, q_tup, q_ap, q_apL, q_apI, q_sl, q_oNo, q_oSo, asO_i, q_ixS, q_m1, q_for, q_add, q_sub, q_neg, q_mul, q_mul', q_div, q_mod, q_p6, q_p9, q_p18, cond_t, cond_f, q_lt, q_le, q_gt, q_ge, q_eqI, q_neI, q_neB, q_eqB, q_neS, q_isN, q_notN, q_notB, q_isB, q_len, q_int, q_intB, q_R1, q_enum, enumD_F, q_abs, q_forN, q_forC, it_ok, lp_nx, lp_rt, q_zip, q_rev, q_rev2, q_R2, q_R3, q_It, asI_l, asI_t, q_vbV, q_vbO, q_vbS, fz_own, fz_val, fz_no, fz_S, q_mx2, q_mn2, q_mx3, q_raiseE, rs_int, lp_er, q_tryE, try_go, q_zip3, q_orT, q_Tr, tr_none, tr_bool, tr_list, List.map_cons, List.map_nil, List.cons_append, List.nil_append, List.length_cons, List.length_nil, List.replicate_succ, List.replicate_zero, List.set_cons_zero, List.set_cons_succ, Nat.reduceSub, Nat.reduceAdd, Nat.zero_add, Nat.sub_self, Nat.sub_zero, List.append_nil, Int.reduceLT, Int.reduceLE, Int.reduceNeg, Int.reducePow, Nat.reduceLT, Nat.reduceLeDiff, and_self, and_true, true_and, if_true, if_false, reduceIte, decide_true, decide_false, Bool.and_true, Bool.true_and, Bool.false_and, Bool.and_false, Bool.or_false, Bool.false_or, Bool.true_or, Bool.or_true, Bool.not_false, Bool.not_true, beq_self_eq_true]
    unfold badP
    by_cases h : (okT S.length t && !leP t.i t.j l.1 l.2) = true
    · rw [if_pos h] at body ⊢
      obtain ⟨y3, y4, y5, y6, y7, ih⟩ := fault_p A s3z S P suf (k + 1) (t.i, t.j) (.val (.int (k : Int))) (.val (.int t.i)) (.val (.int t.j)) (.val (.int t.x)) (.val (.bool (!okT S.length t))) h2 (fun z => by omega) (fun k' hk => ⟨t, by rw [← show k = k' by omega]; exact h1, rfl⟩)
      rw [show ((k + 1 : Nat) : Int) = (k : Int) + 1 by omega] at ih
      refine ⟨y3, y4, y5, y6, y7, ?_⟩
      rw [show ([A, .val (.list (dInts S)), .val (.list (P.map triD)), s3, s4, s5, s6, s7] : En).set 3 (.val (.int (k : Int))) = [A, .val (.list (dInts S)), .val (.list (P.map triD)), .val (.int (k : Int)), s4, s5, s6, s7] from rfl, body, lp_nx]
      exact ih
    · rw [if_neg h] at body ⊢
      refine ⟨.val (.int (k : Int)), .val (.int t.i), .val (.int t.j), .val (.int t.x), .val (.bool (!okT S.length t)), ?_⟩
      rw [show ([A, .val (.list (dInts S)), .val (.list (P.map triD)), s3, s4, s5, s6, s7] : En).set 3 (.val (.int (k : Int))) = [A, .val (.list (dInts S)), .val (.list (P.map triD)), .val (.int (k : Int)), s4, s5, s6, s7] from rfl, body]
      rfl
end K27
namespace K27
open PySem PySem.Spec PyProof.Rows L2 VL
theorem fault_eq (S : List Int) (P : List Tri) (few : P.length ≤ 10000) (few2 : S.length ≤ 10000) : f__law_fault [numD S P] = .ok (dueD S P) := by
  have ll : (dInts S).length = S.length := dInts_len
  have lp : (P.map triD).length = P.length := List.length_map _
  have hp : gTp 2 (gsCons (gNm 1) (gsCons (gNm 2) (gsNil))) (numD S P) [.val (numD S P), .no, .no, .no, .no, .no, .no, .no] = .ok [.val (numD S P), .val (.list (dInts S)), .val (.list (P.map triD)), .no, .no, .no, .no, .no] := rfl
  obtain ⟨y3, e1⟩ := fault_s (.val (numD S P)) (.val (.list (P.map triD))) .no .no .no .no S S 0 .no rfl
  obtain ⟨w3, w4, w5, w6, w7, e2⟩ := fault_p (.val (numD S P)) .no S P P 0 (-1, -1) y3 .no .no .no .no rfl (fun _ => rfl) (fun k' hk => by omega)
  rw [show ((0 : Nat) : Int) = 0 from rfl] at e1 e2
  have r1 : rng1 (.int (S.length : Int)) = .ok (rngD 0 S.length) := by
    have := q_rng1 (j := (S.length : Int)) (by unfold lim; omega)
    rwa [Int.toNat_natCast] at this
  have r2 : rng1 (.int (P.length : Int)) = .ok (rngD 0 P.length) := by
    have := q_rng1 (j := (P.length : Int)) (by unfold lim; omega)
    rwa [Int.toNat_natCast] at this
  unfold dueD
  by_cases c : 40 < S.length
  · rw [if_pos c]
    unfold errN
    generalize numD S P = NN at *
    generalize P.map triD = PP at *
    generalize dInts S = SS at *
    simp -implicitDefEqProofs only [f__law_fault, v__law_fault, hp, st__law_fault_8, st__law_fault_1, ll, decide_eq_true (show (40 : Int) < S.length by omega), q_run, q_seq, nx_nx, nx_rt, nx_bk, nx_ct, nx_er, nx_cond, bind_ok, bind_err, bind_cond, sB_ok, sB_err, sB_cond, cond_ok, cond_bool, cond_int, cond_and, cond_or, cond_nand, fin_rt, fin_nx, fin_er, fin_cond, q_nil, q_retN, q_set, q_setF, q_ret, q_retF, q_if, q_retX, q_do, pat_ok, q_pat, q_fz, q_nm, q_tp, q_gcons, q_gnil, q_var0, q_varS, q_own0, q_own1, q_ownS, q_c, q_L, asL_l, q_D, q_B, q_T, asB_b, q_No, q_An, q_Or, q_Ch, q_cN, q_c1, q_2, q_1, q_t2, q_If, q_anil, q_acons, q_tup, q_ap, q_apL, q_apI, q_sl, q_oNo, q_oSo, asO_i, q_ixS, q_m1, q_for, q_add, q_sub, q_neg, q_mul, q_mul', q_div, q_mod, q_p6, q_p9, q_p18, cond_t, cond_f, q_lt, q_le, q_gt, q_ge, q_eqI, q_neI, q_neB, q_eqB, q_neS, q_isN, q_notN, q_notB, q_isB, q_len, q_int, q_intB, q_R1, q_enum, enumD_F, q_abs, q_forN, q_forC, it_ok, lp_nx, lp_rt, q_zip, q_rev, q_rev2, q_R2, q_R3, q_It, asI_l, asI_t, q_vbV, q_vbO, q_vbS, fz_own, fz_val, fz_no, fz_S, q_mx2, q_mn2, q_mx3, q_raiseE, rs_int, lp_er, q_tryE, try_go, q_zip3, q_orT, q_Tr, tr_none, tr_bool, tr_list, List.map_cons, List.map_nil, List.cons_append, List.nil_append, List.length_cons, List.length_nil, List.replicate_succ, List.replicate_zero, List.set_cons_zero, List.set_cons_succ, Nat.reduceSub, Nat.reduceAdd, Nat.zero_add, Nat.sub_self, Nat.sub_zero, List.append_nil, Int.reduceLT, Int.reduceLE, Int.reduceNeg, Int.reducePow, Nat.reduceLT, Nat.reduceLeDiff, and_self, and_true, true_and, if_true, if_false, reduceIte, decide_true, decide_false, Bool.and_true, Bool.true_and, Bool.false_and, Bool.and_false, Bool.or_false, Bool.false_or, Bool.true_or, Bool.or_true, Bool.not_false, Bool.not_true, beq_self_eq_true]
  · rw [if_neg c]
    have c' := decide_eq_false (show ¬ (40 : Int) < S.length by omega)
    cases hb : badAt okX 0 S with
    | some j =>
      rw [hb] at e1
      dsimp only at e1 ⊢
      generalize errN "numbers" (j : Int) = ER at *
      generalize numD S P = NN at *
      generalize P.map triD = PP at *
      generalize dInts S = SS at *
      simp -implicitDefEqProofs only [f__law_fault, v__law_fault, hp, st__law_fault_8, ll, c', r1, e1, q_run, q_seq, nx_nx, nx_rt, nx_bk, nx_ct, nx_er, nx_cond, bind_ok, bind_err, bind_cond, sB_ok, sB_err, sB_cond, cond_ok, cond_bool, cond_int, cond_and, cond_or, cond_nand, fin_rt, fin_nx, fin_er, fin_cond, q_nil, q_retN, q_set, q_setF, q_ret, q_retF, q_if, q_retX, q_do, pat_ok, q_pat, q_fz, q_nm, q_tp, q_gcons, q_gnil, q_var0, q_varS, q_own0, q_own1, q_ownS, q_c, q_L, asL_l, q_D, q_B, q_T, asB_b, q_No, q_An, q_Or, q_Ch, q_cN, q_c1, q_2, q_1, q_t2, q_If, q_anil, q_acons, q_tup, q_ap, q_apL, q_apI, q_sl, q_oNo, q_oSo, asO_i, q_ixS, q_m1, q_for, q_add, q_sub, q_neg, q_mul, q_mul', q_div, q_mod, q_p6, q_p9, q_p18, cond_t, cond_f, q_lt, q_le, q_gt, q_ge, q_eqI, q_neI, q_neB, q_eqB, q_neS, q_isN, q_notN, q_notB, q_isB, q_len, q_int, q_intB, q_R1, q_enum, enumD_F, q_abs, q_forN, q_forC, it_ok, lp_nx, lp_rt, q_zip, q_rev, q_rev2, q_R2, q_R3, q_It, asI_l, asI_t, q_vbV, q_vbO, q_vbS, fz_own, fz_val, fz_no, fz_S, q_mx2, q_mn2, q_mx3, q_raiseE, rs_int, lp_er, q_tryE, try_go, q_zip3, q_orT, q_Tr, tr_none, tr_bool, tr_list, List.map_cons, List.map_nil, List.cons_append, List.nil_append, List.length_cons, List.length_nil, List.replicate_succ, List.replicate_zero, List.set_cons_zero, List.set_cons_succ, Nat.reduceSub, Nat.reduceAdd, Nat.zero_add, Nat.sub_self, Nat.sub_zero, List.append_nil, Int.reduceLT, Int.reduceLE, Int.reduceNeg, Int.reducePow, Nat.reduceLT, Nat.reduceLeDiff, and_self, and_true, true_and, if_true, if_false, reduceIte, decide_true, decide_false, Bool.and_true, Bool.true_and, Bool.false_and, Bool.and_false, Bool.or_false, Bool.false_or, Bool.true_or, Bool.or_true, Bool.not_false, Bool.not_true, beq_self_eq_true]
    | none =>
      rw [hb] at e1
      dsimp only at e1 ⊢
      cases hq : badP S.length (-1, -1) 0 P with
      | some j =>
        rw [hq] at e2
        dsimp only at e2 ⊢
        generalize errN "numbers" ((S.length : Int) + (j : Int)) = ER at *
        generalize numD S P = NN at *
        generalize P.map triD = PP at *
        generalize dInts S = SS at *
        simp -implicitDefEqProofs only [f__law_fault, v__law_fault, hp, st__law_fault_8, ll, lp, c', r1, r2, e1, e2, q_run, q_seq, nx_nx, nx_rt, nx_bk, nx_ct, nx_er, nx_cond, bind_ok, bind_err, bind_cond, sB_ok, sB_err, sB_cond, cond_ok, cond_bool, cond_int, cond_and, cond_or, cond_nand, fin_rt, fin_nx, fin_er, fin_cond, q_nil, q_retN, q_set, q_setF, q_ret, q_retF, q_if, q_retX, q_do, pat_ok, q_pat, q_fz, q_nm, q_tp, q_gcons, q_gnil, q_var0, q_varS, q_own0, q_own1, q_ownS, q_c, q_L, asL_l, q_D, q_B, q_T, asB_b, q_No, q_An, q_Or, q_Ch, q_cN, q_c1, q_2, q_1, q_t2, q_If, q_anil, q_acons, q_tup, q_ap, q_apL, q_apI, q_sl, q_oNo, q_oSo, asO_i, q_ixS, q_m1, q_for, q_add, q_sub, q_neg, q_mul, q_mul', q_div, q_mod, q_p6, q_p9, q_p18, cond_t, cond_f, q_lt, q_le, q_gt, q_ge, q_eqI, q_neI, q_neB, q_eqB, q_neS, q_isN, q_notN, q_notB, q_isB, q_len, q_int, q_intB, q_R1, q_enum, enumD_F, q_abs, q_forN, q_forC, it_ok, lp_nx, lp_rt, q_zip, q_rev, q_rev2, q_R2, q_R3, q_It, asI_l, asI_t, q_vbV, q_vbO, q_vbS, fz_own, fz_val, fz_no, fz_S, q_mx2, q_mn2, q_mx3, q_raiseE, rs_int, lp_er, q_tryE, try_go, q_zip3, q_orT, q_Tr, tr_none, tr_bool, tr_list, List.map_cons, List.map_nil, List.cons_append, List.nil_append, List.length_cons, List.length_nil, List.replicate_succ, List.replicate_zero, List.set_cons_zero, List.set_cons_succ, Nat.reduceSub, Nat.reduceAdd, Nat.zero_add, Nat.sub_self, Nat.sub_zero, List.append_nil, Int.reduceLT, Int.reduceLE, Int.reduceNeg, Int.reducePow, Nat.reduceLT, Nat.reduceLeDiff, and_self, and_true, true_and, if_true, if_false, reduceIte, decide_true, decide_false, Bool.and_true, Bool.true_and, Bool.false_and, Bool.and_false, Bool.or_false, Bool.false_or, Bool.true_or, Bool.or_true, Bool.not_false, Bool.not_true, beq_self_eq_true]
      | none =>
        rw [hq] at e2
        dsimp only at e2 ⊢
        generalize numD S P = NN at *
        generalize P.map triD = PP at *
        generalize dInts S = SS at *
        simp -implicitDefEqProofs only [f__law_fault, v__law_fault, hp, st__law_fault_8, ll, lp, c', r1, r2, e1, e2, q_run, q_seq, nx_nx, nx_rt, nx_bk, nx_ct, nx_er, nx_cond, bind_ok, bind_err, bind_cond, sB_ok, sB_err, sB_cond, cond_ok, cond_bool, cond_int, cond_and, cond_or, cond_nand, fin_rt, fin_nx, fin_er, fin_cond, q_nil, q_retN, q_set, q_setF, q_ret, q_retF, q_if, q_retX, q_do, pat_ok, q_pat, q_fz, q_nm, q_tp, q_gcons, q_gnil, q_var0, q_varS, q_own0, q_own1, q_ownS, q_c, q_L, asL_l, q_D, q_B, q_T, asB_b, q_No, q_An, q_Or, q_Ch, q_cN, q_c1, q_2, q_1, q_t2, q_If, q_anil, q_acons, q_tup, q_ap, q_apL, q_apI, q_sl, q_oNo, q_oSo, asO_i, q_ixS, q_m1, q_for, q_add, q_sub, q_neg, q_mul, q_mul', q_div, q_mod, q_p6, q_p9, q_p18, cond_t, cond_f, q_lt, q_le, q_gt, q_ge, q_eqI, q_neI, q_neB, q_eqB, q_neS, q_isN, q_notN, q_notB, q_isB, q_len, q_int, q_intB, q_R1, q_enum, enumD_F, q_abs, q_forN, q_forC, it_ok, lp_nx, lp_rt, q_zip, q_rev, q_rev2, q_R2, q_R3, q_It, asI_l, asI_t, q_vbV, q_vbO, q_vbS, fz_own, fz_val, fz_no, fz_S, q_mx2, q_mn2, q_mx3, q_raiseE, rs_int, lp_er, q_tryE, try_go, q_zip3, q_orT, q_Tr, tr_none, tr_bool, tr_list, List.map_cons, List.map_nil, List.cons_append, List.nil_append, List.length_cons, List.length_nil, List.replicate_succ, List.replicate_zero, List.set_cons_zero, List.set_cons_succ, Nat.reduceSub, Nat.reduceAdd, Nat.zero_add, Nat.sub_self, Nat.sub_zero, List.append_nil, Int.reduceLT, Int.reduceLE, Int.reduceNeg, Int.reducePow, Nat.reduceLT, Nat.reduceLeDiff, and_self, and_true, true_and, if_true, if_false, reduceIte, decide_true, decide_false, Bool.and_true, Bool.true_and, Bool.false_and, Bool.and_false, Bool.or_false, Bool.false_or, Bool.true_or, Bool.or_true, Bool.not_false, Bool.not_true, beq_self_eq_true]
/-! ### asked -/
def nameOf (c : Str) : Str := if c = "TooMany" then "many" else "numbers"
theorem error_eq {c : Str} {n : Int} (hc : c = "TooMany" ∨ c = "BadNumbers") : fe__law_error c n = .ok (errN (nameOf c) n) := by
  rcases hc with rfl | rfl
  · rfl
  · rfl
def tryR (i : Nat) (suite : En → SRs) : SRs → SRs
  | .er c n ρ' => if tb.contains c = true ∧ noExc ρ' = true then (match suite (ρ'.set i (.exc c n)) with
    | .go fl ρ'' => if noExc (ρ''.set i .no) = true then .go fl (ρ''.set i .no) else .bad
    | _ => .bad) else .bad
  | r => r
theorem q_try {i : Nat} {f g : En → SRs} {ρ : En} : sTry tb i f g ρ = tryR i g (f ρ) := by
  unfold sTry tryR
  rfl
theorem caught {D W : Slot} {c : Str} {n : Int} (hc : c = "TooMany" ∨ c = "BadNumbers") (hx : noExc [W, D, .no] = true) : tryR 2 bl__law_asked_2 (.er c n [W, D, .no]) = .go (.rt (errN (nameOf c) n)) [W, D, .no] := by
  have e := error_eq (n := n) hc
  have ht : tb.contains c = true := by rcases hc with rfl | rfl <;> decide +kernel
  unfold tryR
  dsimp only
  rw [if_pos ⟨ht, hx⟩]
  have es : bl__law_asked_2 (([W, D, .no] : En).set 2 (.exc c n)) = .go (.rt (errN (nameOf c) n)) [W, D, .exc c n] := by
    show SRs.nx (sRetX (eCallE fe__law_error 2) [W, D, .exc c n]) sNil = _
    rw [q_retX, show eCallE fe__law_error 2 [W, D, .exc c n] = .ok (errN (nameOf c) n) from by
      show (match fe__law_error c n with | .ok d => R.ok d | _ => .bad) = _
      rw [e]]
    rfl
  rw [es]
  show (if noExc [W, D, .no] = true then _ else _) = _
  rw [if_pos hx]
  rfl
section
variable {D : Da} {c : Str} {n : Int}
theorem a1 (h : f_check_numbers [D] = .err c n) : f_pairing [D] = .err c n := by simp -implicitDefEqProofs only [f_pairing, v_pairing, h, q_run, q_seq, nx_nx, nx_rt, nx_bk, nx_ct, nx_er, nx_cond, bind_ok, bind_err, bind_cond, sB_ok, sB_err, sB_cond, cond_ok, cond_bool, cond_int, cond_and, cond_or, cond_nand, fin_rt, fin_nx, fin_er, fin_cond, q_nil, q_retN, q_set, q_setF, q_ret, q_retF, q_if, q_retX, q_do, pat_ok, q_pat, q_fz, q_nm, q_tp, q_gcons, q_gnil, q_var0, q_varS, q_own0, q_own1, q_ownS, q_c, q_L, asL_l, q_D, q_B, q_T, asB_b, q_No, q_An, q_Or, q_Ch, q_cN, q_c1, q_2, q_1, q_t2, q_If, q_anil, q_acons, q_tup, q_ap, q_apL, q_apI, q_sl, q_oNo, q_oSo, asO_i, q_ixS, q_m1, q_for, q_add, q_sub, q_neg, q_mul, q_mul', q_div, q_mod, q_p6, q_p9, q_p18, cond_t, cond_f, q_lt, q_le, q_gt, q_ge, q_eqI, q_neI, q_neB, q_eqB, q_neS, q_isN, q_notN, q_notB, q_isB, q_len, q_int, q_intB, q_R1, q_enum, enumD_F, q_abs, q_forN, q_forC, it_ok, lp_nx, lp_rt, q_zip, q_rev, q_rev2, q_R2, q_R3, q_It, asI_l, asI_t, q_vbV, q_vbO, q_vbS, fz_own, fz_val, fz_no, fz_S, q_mx2, q_mn2, q_mx3, q_raiseE, rs_int, lp_er, q_tryE, try_go, q_zip3, q_orT, q_Tr, tr_none, tr_bool, tr_list, List.map_cons, List.map_nil, List.cons_append, List.nil_append, List.length_cons, List.length_nil, List.replicate_succ, List.replicate_zero, List.set_cons_zero, List.set_cons_succ, Nat.reduceSub, Nat.reduceAdd, Nat.zero_add, Nat.sub_self, Nat.sub_zero, List.append_nil, Int.reduceLT, Int.reduceLE, Int.reduceNeg, Int.reducePow, Nat.reduceLT, Nat.reduceLeDiff, and_self, and_true, true_and, if_true, if_false, reduceIte, decide_true, decide_false, Bool.and_true, Bool.true_and, Bool.false_and, Bool.and_false, Bool.or_false, Bool.false_or, Bool.true_or, Bool.or_true, Bool.not_false, Bool.not_true, beq_self_eq_true]
theorem a2 (h : f_check_numbers [D] = .err c n) : f_greatest_sum [D] = .err c n := by simp -implicitDefEqProofs only [f_greatest_sum, v_greatest_sum, h, q_run, q_seq, nx_nx, nx_rt, nx_bk, nx_ct, nx_er, nx_cond, bind_ok, bind_err, bind_cond, sB_ok, sB_err, sB_cond, cond_ok, cond_bool, cond_int, cond_and, cond_or, cond_nand, fin_rt, fin_nx, fin_er, fin_cond, q_nil, q_retN, q_set, q_setF, q_ret, q_retF, q_if, q_retX, q_do, pat_ok, q_pat, q_fz, q_nm, q_tp, q_gcons, q_gnil, q_var0, q_varS, q_own0, q_own1, q_ownS, q_c, q_L, asL_l, q_D, q_B, q_T, asB_b, q_No, q_An, q_Or, q_Ch, q_cN, q_c1, q_2, q_1, q_t2, q_If, q_anil, q_acons, q_tup, q_ap, q_apL, q_apI, q_sl, q_oNo, q_oSo, asO_i, q_ixS, q_m1, q_for, q_add, q_sub, q_neg, q_mul, q_mul', q_div, q_mod, q_p6, q_p9, q_p18, cond_t, cond_f, q_lt, q_le, q_gt, q_ge, q_eqI, q_neI, q_neB, q_eqB, q_neS, q_isN, q_notN, q_notB, q_isB, q_len, q_int, q_intB, q_R1, q_enum, enumD_F, q_abs, q_forN, q_forC, it_ok, lp_nx, lp_rt, q_zip, q_rev, q_rev2, q_R2, q_R3, q_It, asI_l, asI_t, q_vbV, q_vbO, q_vbS, fz_own, fz_val, fz_no, fz_S, q_mx2, q_mn2, q_mx3, q_raiseE, rs_int, lp_er, q_tryE, try_go, q_zip3, q_orT, q_Tr, tr_none, tr_bool, tr_list, List.map_cons, List.map_nil, List.cons_append, List.nil_append, List.length_cons, List.length_nil, List.replicate_succ, List.replicate_zero, List.set_cons_zero, List.set_cons_succ, Nat.reduceSub, Nat.reduceAdd, Nat.zero_add, Nat.sub_self, Nat.sub_zero, List.append_nil, Int.reduceLT, Int.reduceLE, Int.reduceNeg, Int.reducePow, Nat.reduceLT, Nat.reduceLeDiff, and_self, and_true, true_and, if_true, if_false, reduceIte, decide_true, decide_false, Bool.and_true, Bool.true_and, Bool.false_and, Bool.and_false, Bool.or_false, Bool.false_or, Bool.true_or, Bool.or_true, Bool.not_false, Bool.not_true, beq_self_eq_true]
theorem a3 (h : f_check_numbers [D] = .err c n) (x : Da) : f_pairing_sum [D, x] = .err c n := by simp -implicitDefEqProofs only [f_pairing_sum, v_pairing_sum, h, q_run, q_seq, nx_nx, nx_rt, nx_bk, nx_ct, nx_er, nx_cond, bind_ok, bind_err, bind_cond, sB_ok, sB_err, sB_cond, cond_ok, cond_bool, cond_int, cond_and, cond_or, cond_nand, fin_rt, fin_nx, fin_er, fin_cond, q_nil, q_retN, q_set, q_setF, q_ret, q_retF, q_if, q_retX, q_do, pat_ok, q_pat, q_fz, q_nm, q_tp, q_gcons, q_gnil, q_var0, q_varS, q_own0, q_own1, q_ownS, q_c, q_L, asL_l, q_D, q_B, q_T, asB_b, q_No, q_An, q_Or, q_Ch, q_cN, q_c1, q_2, q_1, q_t2, q_If, q_anil, q_acons, q_tup, q_ap, q_apL, q_apI, q_sl, q_oNo, q_oSo, asO_i, q_ixS, q_m1, q_for, q_add, q_sub, q_neg, q_mul, q_mul', q_div, q_mod, q_p6, q_p9, q_p18, cond_t, cond_f, q_lt, q_le, q_gt, q_ge, q_eqI, q_neI, q_neB, q_eqB, q_neS, q_isN, q_notN, q_notB, q_isB, q_len, q_int, q_intB, q_R1, q_enum, enumD_F, q_abs, q_forN, q_forC, it_ok, lp_nx, lp_rt, q_zip, q_rev, q_rev2, q_R2, q_R3, q_It, asI_l, asI_t, q_vbV, q_vbO, q_vbS, fz_own, fz_val, fz_no, fz_S, q_mx2, q_mn2, q_mx3, q_raiseE, rs_int, lp_er, q_tryE, try_go, q_zip3, q_orT, q_Tr, tr_none, tr_bool, tr_list, List.map_cons, List.map_nil, List.cons_append, List.nil_append, List.length_cons, List.length_nil, List.replicate_succ, List.replicate_zero, List.set_cons_zero, List.set_cons_succ, Nat.reduceSub, Nat.reduceAdd, Nat.zero_add, Nat.sub_self, Nat.sub_zero, List.append_nil, Int.reduceLT, Int.reduceLE, Int.reduceNeg, Int.reducePow, Nat.reduceLT, Nat.reduceLeDiff, and_self, and_true, true_and, if_true, if_false, reduceIte, decide_true, decide_false, Bool.and_true, Bool.true_and, Bool.false_and, Bool.and_false, Bool.or_false, Bool.false_or, Bool.true_or, Bool.or_true, Bool.not_false, Bool.not_true, beq_self_eq_true]
theorem a4 (h : f_check_numbers [D] = .err c n) : f_pairing_paper [D] = .err c n := by simp -implicitDefEqProofs only [f_pairing_paper, v_pairing_paper, h, q_run, q_seq, nx_nx, nx_rt, nx_bk, nx_ct, nx_er, nx_cond, bind_ok, bind_err, bind_cond, sB_ok, sB_err, sB_cond, cond_ok, cond_bool, cond_int, cond_and, cond_or, cond_nand, fin_rt, fin_nx, fin_er, fin_cond, q_nil, q_retN, q_set, q_setF, q_ret, q_retF, q_if, q_retX, q_do, pat_ok, q_pat, q_fz, q_nm, q_tp, q_gcons, q_gnil, q_var0, q_varS, q_own0, q_own1, q_ownS, q_c, q_L, asL_l, q_D, q_B, q_T, asB_b, q_No, q_An, q_Or, q_Ch, q_cN, q_c1, q_2, q_1, q_t2, q_If, q_anil, q_acons, q_tup, q_ap, q_apL, q_apI, q_sl, q_oNo, q_oSo, asO_i, q_ixS, q_m1, q_for, q_add, q_sub, q_neg, q_mul, q_mul', q_div, q_mod, q_p6, q_p9, q_p18, cond_t, cond_f, q_lt, q_le, q_gt, q_ge, q_eqI, q_neI, q_neB, q_eqB, q_neS, q_isN, q_notN, q_notB, q_isB, q_len, q_int, q_intB, q_R1, q_enum, enumD_F, q_abs, q_forN, q_forC, it_ok, lp_nx, lp_rt, q_zip, q_rev, q_rev2, q_R2, q_R3, q_It, asI_l, asI_t, q_vbV, q_vbO, q_vbS, fz_own, fz_val, fz_no, fz_S, q_mx2, q_mn2, q_mx3, q_raiseE, rs_int, lp_er, q_tryE, try_go, q_zip3, q_orT, q_Tr, tr_none, tr_bool, tr_list, List.map_cons, List.map_nil, List.cons_append, List.nil_append, List.length_cons, List.length_nil, List.replicate_succ, List.replicate_zero, List.set_cons_zero, List.set_cons_succ, Nat.reduceSub, Nat.reduceAdd, Nat.zero_add, Nat.sub_self, Nat.sub_zero, List.append_nil, Int.reduceLT, Int.reduceLE, Int.reduceNeg, Int.reducePow, Nat.reduceLT, Nat.reduceLeDiff, and_self, and_true, true_and, if_true, if_false, reduceIte, decide_true, decide_false, Bool.and_true, Bool.true_and, Bool.false_and, Bool.and_false, Bool.or_false, Bool.false_or, Bool.true_or, Bool.or_true, Bool.not_false, Bool.not_true, beq_self_eq_true]
theorem a5 (h : f_check_numbers [D] = .err c n) (x y : Da) : f_check_pairing [D, x, y] = .err c n := by simp -implicitDefEqProofs only [f_check_pairing, v_check_pairing, h, q_run, q_seq, nx_nx, nx_rt, nx_bk, nx_ct, nx_er, nx_cond, bind_ok, bind_err, bind_cond, sB_ok, sB_err, sB_cond, cond_ok, cond_bool, cond_int, cond_and, cond_or, cond_nand, fin_rt, fin_nx, fin_er, fin_cond, q_nil, q_retN, q_set, q_setF, q_ret, q_retF, q_if, q_retX, q_do, pat_ok, q_pat, q_fz, q_nm, q_tp, q_gcons, q_gnil, q_var0, q_varS, q_own0, q_own1, q_ownS, q_c, q_L, asL_l, q_D, q_B, q_T, asB_b, q_No, q_An, q_Or, q_Ch, q_cN, q_c1, q_2, q_1, q_t2, q_If, q_anil, q_acons, q_tup, q_ap, q_apL, q_apI, q_sl, q_oNo, q_oSo, asO_i, q_ixS, q_m1, q_for, q_add, q_sub, q_neg, q_mul, q_mul', q_div, q_mod, q_p6, q_p9, q_p18, cond_t, cond_f, q_lt, q_le, q_gt, q_ge, q_eqI, q_neI, q_neB, q_eqB, q_neS, q_isN, q_notN, q_notB, q_isB, q_len, q_int, q_intB, q_R1, q_enum, enumD_F, q_abs, q_forN, q_forC, it_ok, lp_nx, lp_rt, q_zip, q_rev, q_rev2, q_R2, q_R3, q_It, asI_l, asI_t, q_vbV, q_vbO, q_vbS, fz_own, fz_val, fz_no, fz_S, q_mx2, q_mn2, q_mx3, q_raiseE, rs_int, lp_er, q_tryE, try_go, q_zip3, q_orT, q_Tr, tr_none, tr_bool, tr_list, List.map_cons, List.map_nil, List.cons_append, List.nil_append, List.length_cons, List.length_nil, List.replicate_succ, List.replicate_zero, List.set_cons_zero, List.set_cons_succ, Nat.reduceSub, Nat.reduceAdd, Nat.zero_add, Nat.sub_self, Nat.sub_zero, List.append_nil, Int.reduceLT, Int.reduceLE, Int.reduceNeg, Int.reducePow, Nat.reduceLT, Nat.reduceLeDiff, and_self, and_true, true_and, if_true, if_false, reduceIte, decide_true, decide_false, Bool.and_true, Bool.true_and, Bool.false_and, Bool.and_false, Bool.or_false, Bool.false_or, Bool.true_or, Bool.or_true, Bool.not_false, Bool.not_true, beq_self_eq_true]
theorem a6 (h : f_check_numbers [D] = .err c n) : f_adds [D] = .err c n := by simp -implicitDefEqProofs only [f_adds, v_adds, a2 h, q_run, q_seq, nx_nx, nx_rt, nx_bk, nx_ct, nx_er, nx_cond, bind_ok, bind_err, bind_cond, sB_ok, sB_err, sB_cond, cond_ok, cond_bool, cond_int, cond_and, cond_or, cond_nand, fin_rt, fin_nx, fin_er, fin_cond, q_nil, q_retN, q_set, q_setF, q_ret, q_retF, q_if, q_retX, q_do, pat_ok, q_pat, q_fz, q_nm, q_tp, q_gcons, q_gnil, q_var0, q_varS, q_own0, q_own1, q_ownS, q_c, q_L, asL_l, q_D, q_B, q_T, asB_b, q_No, q_An, q_Or, q_Ch, q_cN, q_c1, q_2, q_1, q_t2, q_If, q_anil, q_acons, q_tup, q_ap, q_apL, q_apI, q_sl, q_oNo, q_oSo, asO_i, q_ixS, q_m1, q_for, q_add, q_sub, q_neg, q_mul, q_mul', q_div, q_mod, q_p6, q_p9, q_p18, cond_t, cond_f, q_lt, q_le, q_gt, q_ge, q_eqI, q_neI, q_neB, q_eqB, q_neS, q_isN, q_notN, q_notB, q_isB, q_len, q_int, q_intB, q_R1, q_enum, enumD_F, q_abs, q_forN, q_forC, it_ok, lp_nx, lp_rt, q_zip, q_rev, q_rev2, q_R2, q_R3, q_It, asI_l, asI_t, q_vbV, q_vbO, q_vbS, fz_own, fz_val, fz_no, fz_S, q_mx2, q_mn2, q_mx3, q_raiseE, rs_int, lp_er, q_tryE, try_go, q_zip3, q_orT, q_Tr, tr_none, tr_bool, tr_list, List.map_cons, List.map_nil, List.cons_append, List.nil_append, List.length_cons, List.length_nil, List.replicate_succ, List.replicate_zero, List.set_cons_zero, List.set_cons_succ, Nat.reduceSub, Nat.reduceAdd, Nat.zero_add, Nat.sub_self, Nat.sub_zero, List.append_nil, Int.reduceLT, Int.reduceLE, Int.reduceNeg, Int.reducePow, Nat.reduceLT, Nat.reduceLeDiff, and_self, and_true, true_and, if_true, if_false, reduceIte, decide_true, decide_false, Bool.and_true, Bool.true_and, Bool.false_and, Bool.and_false, Bool.or_false, Bool.false_or, Bool.true_or, Bool.or_true, Bool.not_false, Bool.not_true, beq_self_eq_true]
theorem a7 (h : f_check_numbers [D] = .err c n) : f_half_plan [D] = .err c n := by simp -implicitDefEqProofs only [f_half_plan, v_half_plan, h, q_run, q_seq, nx_nx, nx_rt, nx_bk, nx_ct, nx_er, nx_cond, bind_ok, bind_err, bind_cond, sB_ok, sB_err, sB_cond, cond_ok, cond_bool, cond_int, cond_and, cond_or, cond_nand, fin_rt, fin_nx, fin_er, fin_cond, q_nil, q_retN, q_set, q_setF, q_ret, q_retF, q_if, q_retX, q_do, pat_ok, q_pat, q_fz, q_nm, q_tp, q_gcons, q_gnil, q_var0, q_varS, q_own0, q_own1, q_ownS, q_c, q_L, asL_l, q_D, q_B, q_T, asB_b, q_No, q_An, q_Or, q_Ch, q_cN, q_c1, q_2, q_1, q_t2, q_If, q_anil, q_acons, q_tup, q_ap, q_apL, q_apI, q_sl, q_oNo, q_oSo, asO_i, q_ixS, q_m1, q_for, q_add, q_sub, q_neg, q_mul, q_mul', q_div, q_mod, q_p6, q_p9, q_p18, cond_t, cond_f, q_lt, q_le, q_gt, q_ge, q_eqI, q_neI, q_neB, q_eqB, q_neS, q_isN, q_notN, q_notB, q_isB, q_len, q_int, q_intB, q_R1, q_enum, enumD_F, q_abs, q_forN, q_forC, it_ok, lp_nx, lp_rt, q_zip, q_rev, q_rev2, q_R2, q_R3, q_It, asI_l, asI_t, q_vbV, q_vbO, q_vbS, fz_own, fz_val, fz_no, fz_S, q_mx2, q_mn2, q_mx3, q_raiseE, rs_int, lp_er, q_tryE, try_go, q_zip3, q_orT, q_Tr, tr_none, tr_bool, tr_list, List.map_cons, List.map_nil, List.cons_append, List.nil_append, List.length_cons, List.length_nil, List.replicate_succ, List.replicate_zero, List.set_cons_zero, List.set_cons_succ, Nat.reduceSub, Nat.reduceAdd, Nat.zero_add, Nat.sub_self, Nat.sub_zero, List.append_nil, Int.reduceLT, Int.reduceLE, Int.reduceNeg, Int.reducePow, Nat.reduceLT, Nat.reduceLeDiff, and_self, and_true, true_and, if_true, if_false, reduceIte, decide_true, decide_false, Bool.and_true, Bool.true_and, Bool.false_and, Bool.and_false, Bool.or_false, Bool.false_or, Bool.true_or, Bool.or_true, Bool.not_false, Bool.not_true, beq_self_eq_true]
theorem a8 (h : f_check_numbers [D] = .err c n) : f_half_prices [D] = .err c n := by simp -implicitDefEqProofs only [f_half_prices, v_half_prices, h, q_run, q_seq, nx_nx, nx_rt, nx_bk, nx_ct, nx_er, nx_cond, bind_ok, bind_err, bind_cond, sB_ok, sB_err, sB_cond, cond_ok, cond_bool, cond_int, cond_and, cond_or, cond_nand, fin_rt, fin_nx, fin_er, fin_cond, q_nil, q_retN, q_set, q_setF, q_ret, q_retF, q_if, q_retX, q_do, pat_ok, q_pat, q_fz, q_nm, q_tp, q_gcons, q_gnil, q_var0, q_varS, q_own0, q_own1, q_ownS, q_c, q_L, asL_l, q_D, q_B, q_T, asB_b, q_No, q_An, q_Or, q_Ch, q_cN, q_c1, q_2, q_1, q_t2, q_If, q_anil, q_acons, q_tup, q_ap, q_apL, q_apI, q_sl, q_oNo, q_oSo, asO_i, q_ixS, q_m1, q_for, q_add, q_sub, q_neg, q_mul, q_mul', q_div, q_mod, q_p6, q_p9, q_p18, cond_t, cond_f, q_lt, q_le, q_gt, q_ge, q_eqI, q_neI, q_neB, q_eqB, q_neS, q_isN, q_notN, q_notB, q_isB, q_len, q_int, q_intB, q_R1, q_enum, enumD_F, q_abs, q_forN, q_forC, it_ok, lp_nx, lp_rt, q_zip, q_rev, q_rev2, q_R2, q_R3, q_It, asI_l, asI_t, q_vbV, q_vbO, q_vbS, fz_own, fz_val, fz_no, fz_S, q_mx2, q_mn2, q_mx3, q_raiseE, rs_int, lp_er, q_tryE, try_go, q_zip3, q_orT, q_Tr, tr_none, tr_bool, tr_list, List.map_cons, List.map_nil, List.cons_append, List.nil_append, List.length_cons, List.length_nil, List.replicate_succ, List.replicate_zero, List.set_cons_zero, List.set_cons_succ, Nat.reduceSub, Nat.reduceAdd, Nat.zero_add, Nat.sub_self, Nat.sub_zero, List.append_nil, Int.reduceLT, Int.reduceLE, Int.reduceNeg, Int.reducePow, Nat.reduceLT, Nat.reduceLeDiff, and_self, and_true, true_and, if_true, if_false, reduceIte, decide_true, decide_false, Bool.and_true, Bool.true_and, Bool.false_and, Bool.and_false, Bool.or_false, Bool.false_or, Bool.true_or, Bool.or_true, Bool.not_false, Bool.not_true, beq_self_eq_true]
theorem ih (h : f_check_numbers [D] = .err c n) (x : Da) : f_is_half_plan [D, x] = .err c n := by simp -implicitDefEqProofs only [f_is_half_plan, v_is_half_plan, h, q_run, q_seq, nx_nx, nx_rt, nx_bk, nx_ct, nx_er, nx_cond, bind_ok, bind_err, bind_cond, sB_ok, sB_err, sB_cond, cond_ok, cond_bool, cond_int, cond_and, cond_or, cond_nand, fin_rt, fin_nx, fin_er, fin_cond, q_nil, q_retN, q_set, q_setF, q_ret, q_retF, q_if, q_retX, q_do, pat_ok, q_pat, q_fz, q_nm, q_tp, q_gcons, q_gnil, q_var0, q_varS, q_own0, q_own1, q_ownS, q_c, q_L, asL_l, q_D, q_B, q_T, asB_b, q_No, q_An, q_Or, q_Ch, q_cN, q_c1, q_2, q_1, q_t2, q_If, q_anil, q_acons, q_tup, q_ap, q_apL, q_apI, q_sl, q_oNo, q_oSo, asO_i, q_ixS, q_m1, q_for, q_add, q_sub, q_neg, q_mul, q_mul', q_div, q_mod, q_p6, q_p9, q_p18, cond_t, cond_f, q_lt, q_le, q_gt, q_ge, q_eqI, q_neI, q_neB, q_eqB, q_neS, q_isN, q_notN, q_notB, q_isB, q_len, q_int, q_intB, q_R1, q_enum, enumD_F, q_abs, q_forN, q_forC, it_ok, lp_nx, lp_rt, q_zip, q_rev, q_rev2, q_R2, q_R3, q_It, asI_l, asI_t, q_vbV, q_vbO, q_vbS, fz_own, fz_val, fz_no, fz_S, q_mx2, q_mn2, q_mx3, q_raiseE, rs_int, lp_er, q_tryE, try_go, q_zip3, q_orT, q_Tr, tr_none, tr_bool, tr_list, List.map_cons, List.map_nil, List.cons_append, List.nil_append, List.length_cons, List.length_nil, List.replicate_succ, List.replicate_zero, List.set_cons_zero, List.set_cons_succ, Nat.reduceSub, Nat.reduceAdd, Nat.zero_add, Nat.sub_self, Nat.sub_zero, List.append_nil, Int.reduceLT, Int.reduceLE, Int.reduceNeg, Int.reducePow, Nat.reduceLT, Nat.reduceLeDiff, and_self, and_true, true_and, if_true, if_false, reduceIte, decide_true, decide_false, Bool.and_true, Bool.true_and, Bool.false_and, Bool.and_false, Bool.or_false, Bool.false_or, Bool.true_or, Bool.or_true, Bool.not_false, Bool.not_true, beq_self_eq_true]
theorem a9 (h : f_check_numbers [D] = .err c n) (x : Da) : f_half_sum [D, x] = .err c n := by simp -implicitDefEqProofs only [f_half_sum, v_half_sum, ih h, q_run, q_seq, nx_nx, nx_rt, nx_bk, nx_ct, nx_er, nx_cond, bind_ok, bind_err, bind_cond, sB_ok, sB_err, sB_cond, cond_ok, cond_bool, cond_int, cond_and, cond_or, cond_nand, fin_rt, fin_nx, fin_er, fin_cond, q_nil, q_retN, q_set, q_setF, q_ret, q_retF, q_if, q_retX, q_do, pat_ok, q_pat, q_fz, q_nm, q_tp, q_gcons, q_gnil, q_var0, q_varS, q_own0, q_own1, q_ownS, q_c, q_L, asL_l, q_D, q_B, q_T, asB_b, q_No, q_An, q_Or, q_Ch, q_cN, q_c1, q_2, q_1, q_t2, q_If, q_anil, q_acons, q_tup, q_ap, q_apL, q_apI, q_sl, q_oNo, q_oSo, asO_i, q_ixS, q_m1, q_for, q_add, q_sub, q_neg, q_mul, q_mul', q_div, q_mod, q_p6, q_p9, q_p18, cond_t, cond_f, q_lt, q_le, q_gt, q_ge, q_eqI, q_neI, q_neB, q_eqB, q_neS, q_isN, q_notN, q_notB, q_isB, q_len, q_int, q_intB, q_R1, q_enum, enumD_F, q_abs, q_forN, q_forC, it_ok, lp_nx, lp_rt, q_zip, q_rev, q_rev2, q_R2, q_R3, q_It, asI_l, asI_t, q_vbV, q_vbO, q_vbS, fz_own, fz_val, fz_no, fz_S, q_mx2, q_mn2, q_mx3, q_raiseE, rs_int, lp_er, q_tryE, try_go, q_zip3, q_orT, q_Tr, tr_none, tr_bool, tr_list, List.map_cons, List.map_nil, List.cons_append, List.nil_append, List.length_cons, List.length_nil, List.replicate_succ, List.replicate_zero, List.set_cons_zero, List.set_cons_succ, Nat.reduceSub, Nat.reduceAdd, Nat.zero_add, Nat.sub_self, Nat.sub_zero, List.append_nil, Int.reduceLT, Int.reduceLE, Int.reduceNeg, Int.reducePow, Nat.reduceLT, Nat.reduceLeDiff, and_self, and_true, true_and, if_true, if_false, reduceIte, decide_true, decide_false, Bool.and_true, Bool.true_and, Bool.false_and, Bool.and_false, Bool.or_false, Bool.false_or, Bool.true_or, Bool.or_true, Bool.not_false, Bool.not_true, beq_self_eq_true]
theorem a10 (h : f_check_numbers [D] = .err c n) (x : Da) : f_bears [D, x] = .err c n := by simp -implicitDefEqProofs only [f_bears, v_bears, h, q_run, q_seq, nx_nx, nx_rt, nx_bk, nx_ct, nx_er, nx_cond, bind_ok, bind_err, bind_cond, sB_ok, sB_err, sB_cond, cond_ok, cond_bool, cond_int, cond_and, cond_or, cond_nand, fin_rt, fin_nx, fin_er, fin_cond, q_nil, q_retN, q_set, q_setF, q_ret, q_retF, q_if, q_retX, q_do, pat_ok, q_pat, q_fz, q_nm, q_tp, q_gcons, q_gnil, q_var0, q_varS, q_own0, q_own1, q_ownS, q_c, q_L, asL_l, q_D, q_B, q_T, asB_b, q_No, q_An, q_Or, q_Ch, q_cN, q_c1, q_2, q_1, q_t2, q_If, q_anil, q_acons, q_tup, q_ap, q_apL, q_apI, q_sl, q_oNo, q_oSo, asO_i, q_ixS, q_m1, q_for, q_add, q_sub, q_neg, q_mul, q_mul', q_div, q_mod, q_p6, q_p9, q_p18, cond_t, cond_f, q_lt, q_le, q_gt, q_ge, q_eqI, q_neI, q_neB, q_eqB, q_neS, q_isN, q_notN, q_notB, q_isB, q_len, q_int, q_intB, q_R1, q_enum, enumD_F, q_abs, q_forN, q_forC, it_ok, lp_nx, lp_rt, q_zip, q_rev, q_rev2, q_R2, q_R3, q_It, asI_l, asI_t, q_vbV, q_vbO, q_vbS, fz_own, fz_val, fz_no, fz_S, q_mx2, q_mn2, q_mx3, q_raiseE, rs_int, lp_er, q_tryE, try_go, q_zip3, q_orT, q_Tr, tr_none, tr_bool, tr_list, List.map_cons, List.map_nil, List.cons_append, List.nil_append, List.length_cons, List.length_nil, List.replicate_succ, List.replicate_zero, List.set_cons_zero, List.set_cons_succ, Nat.reduceSub, Nat.reduceAdd, Nat.zero_add, Nat.sub_self, Nat.sub_zero, List.append_nil, Int.reduceLT, Int.reduceLE, Int.reduceNeg, Int.reducePow, Nat.reduceLT, Nat.reduceLeDiff, and_self, and_true, true_and, if_true, if_false, reduceIte, decide_true, decide_false, Bool.and_true, Bool.true_and, Bool.false_and, Bool.and_false, Bool.or_false, Bool.false_or, Bool.true_or, Bool.or_true, Bool.not_false, Bool.not_true, beq_self_eq_true]
theorem a11 (h : f_check_numbers [D] = .err c n) (x y : Da) : f_check_half [D, x, y] = .err c n := by simp -implicitDefEqProofs only [f_check_half, v_check_half, a9 h, q_run, q_seq, nx_nx, nx_rt, nx_bk, nx_ct, nx_er, nx_cond, bind_ok, bind_err, bind_cond, sB_ok, sB_err, sB_cond, cond_ok, cond_bool, cond_int, cond_and, cond_or, cond_nand, fin_rt, fin_nx, fin_er, fin_cond, q_nil, q_retN, q_set, q_setF, q_ret, q_retF, q_if, q_retX, q_do, pat_ok, q_pat, q_fz, q_nm, q_tp, q_gcons, q_gnil, q_var0, q_varS, q_own0, q_own1, q_ownS, q_c, q_L, asL_l, q_D, q_B, q_T, asB_b, q_No, q_An, q_Or, q_Ch, q_cN, q_c1, q_2, q_1, q_t2, q_If, q_anil, q_acons, q_tup, q_ap, q_apL, q_apI, q_sl, q_oNo, q_oSo, asO_i, q_ixS, q_m1, q_for, q_add, q_sub, q_neg, q_mul, q_mul', q_div, q_mod, q_p6, q_p9, q_p18, cond_t, cond_f, q_lt, q_le, q_gt, q_ge, q_eqI, q_neI, q_neB, q_eqB, q_neS, q_isN, q_notN, q_notB, q_isB, q_len, q_int, q_intB, q_R1, q_enum, enumD_F, q_abs, q_forN, q_forC, it_ok, lp_nx, lp_rt, q_zip, q_rev, q_rev2, q_R2, q_R3, q_It, asI_l, asI_t, q_vbV, q_vbO, q_vbS, fz_own, fz_val, fz_no, fz_S, q_mx2, q_mn2, q_mx3, q_raiseE, rs_int, lp_er, q_tryE, try_go, q_zip3, q_orT, q_Tr, tr_none, tr_bool, tr_list, List.map_cons, List.map_nil, List.cons_append, List.nil_append, List.length_cons, List.length_nil, List.replicate_succ, List.replicate_zero, List.set_cons_zero, List.set_cons_succ, Nat.reduceSub, Nat.reduceAdd, Nat.zero_add, Nat.sub_self, Nat.sub_zero, List.append_nil, Int.reduceLT, Int.reduceLE, Int.reduceNeg, Int.reducePow, Nat.reduceLT, Nat.reduceLeDiff, and_self, and_true, true_and, if_true, if_false, reduceIte, decide_true, decide_false, Bool.and_true, Bool.true_and, Bool.false_and, Bool.and_false, Bool.or_false, Bool.false_or, Bool.true_or, Bool.or_true, Bool.not_false, Bool.not_true, beq_self_eq_true]
theorem a12 (h : f_check_numbers [D] = .err c n) : f_stable_prices [D] = .err c n := by simp -implicitDefEqProofs only [f_stable_prices, v_stable_prices, a8 h, q_apL, q_run, q_seq, nx_nx, nx_rt, nx_bk, nx_ct, nx_er, nx_cond, bind_ok, bind_err, bind_cond, sB_ok, sB_err, sB_cond, cond_ok, cond_bool, cond_int, cond_and, cond_or, cond_nand, fin_rt, fin_nx, fin_er, fin_cond, q_nil, q_retN, q_set, q_setF, q_ret, q_retF, q_if, q_retX, q_do, pat_ok, q_pat, q_fz, q_nm, q_tp, q_gcons, q_gnil, q_var0, q_varS, q_own0, q_own1, q_ownS, q_c, q_L, asL_l, q_D, q_B, q_T, asB_b, q_No, q_An, q_Or, q_Ch, q_cN, q_c1, q_2, q_1, q_t2, q_If, q_anil, q_acons, q_tup, q_ap, q_apL, q_apI, q_sl, q_oNo, q_oSo, asO_i, q_ixS, q_m1, q_for, q_add, q_sub, q_neg, q_mul, q_mul', q_div, q_mod, q_p6, q_p9, q_p18, cond_t, cond_f, q_lt, q_le, q_gt, q_ge, q_eqI, q_neI, q_neB, q_eqB, q_neS, q_isN, q_notN, q_notB, q_isB, q_len, q_int, q_intB, q_R1, q_enum, enumD_F, q_abs, q_forN, q_forC, it_ok, lp_nx, lp_rt, q_zip, q_rev, q_rev2, q_R2, q_R3, q_It, asI_l, asI_t, q_vbV, q_vbO, q_vbS, fz_own, fz_val, fz_no, fz_S, q_mx2, q_mn2, q_mx3, q_raiseE, rs_int, lp_er, q_tryE, try_go, q_zip3, q_orT, q_Tr, tr_none, tr_bool, tr_list, List.map_cons, List.map_nil, List.cons_append, List.nil_append, List.length_cons, List.length_nil, List.replicate_succ, List.replicate_zero, List.set_cons_zero, List.set_cons_succ, Nat.reduceSub, Nat.reduceAdd, Nat.zero_add, Nat.sub_self, Nat.sub_zero, List.append_nil, Int.reduceLT, Int.reduceLE, Int.reduceNeg, Int.reducePow, Nat.reduceLT, Nat.reduceLeDiff, and_self, and_true, true_and, if_true, if_false, reduceIte, decide_true, decide_false, Bool.and_true, Bool.true_and, Bool.false_and, Bool.and_false, Bool.or_false, Bool.false_or, Bool.true_or, Bool.or_true, Bool.not_false, Bool.not_true, beq_self_eq_true]
theorem a13 (h : f_check_numbers [D] = .err c n) : f_paid_in [D] = .err c n := by simp -implicitDefEqProofs only [f_paid_in, v_paid_in, a8 h, q_apL, q_run, q_seq, nx_nx, nx_rt, nx_bk, nx_ct, nx_er, nx_cond, bind_ok, bind_err, bind_cond, sB_ok, sB_err, sB_cond, cond_ok, cond_bool, cond_int, cond_and, cond_or, cond_nand, fin_rt, fin_nx, fin_er, fin_cond, q_nil, q_retN, q_set, q_setF, q_ret, q_retF, q_if, q_retX, q_do, pat_ok, q_pat, q_fz, q_nm, q_tp, q_gcons, q_gnil, q_var0, q_varS, q_own0, q_own1, q_ownS, q_c, q_L, asL_l, q_D, q_B, q_T, asB_b, q_No, q_An, q_Or, q_Ch, q_cN, q_c1, q_2, q_1, q_t2, q_If, q_anil, q_acons, q_tup, q_ap, q_apL, q_apI, q_sl, q_oNo, q_oSo, asO_i, q_ixS, q_m1, q_for, q_add, q_sub, q_neg, q_mul, q_mul', q_div, q_mod, q_p6, q_p9, q_p18, cond_t, cond_f, q_lt, q_le, q_gt, q_ge, q_eqI, q_neI, q_neB, q_eqB, q_neS, q_isN, q_notN, q_notB, q_isB, q_len, q_int, q_intB, q_R1, q_enum, enumD_F, q_abs, q_forN, q_forC, it_ok, lp_nx, lp_rt, q_zip, q_rev, q_rev2, q_R2, q_R3, q_It, asI_l, asI_t, q_vbV, q_vbO, q_vbS, fz_own, fz_val, fz_no, fz_S, q_mx2, q_mn2, q_mx3, q_raiseE, rs_int, lp_er, q_tryE, try_go, q_zip3, q_orT, q_Tr, tr_none, tr_bool, tr_list, List.map_cons, List.map_nil, List.cons_append, List.nil_append, List.length_cons, List.length_nil, List.replicate_succ, List.replicate_zero, List.set_cons_zero, List.set_cons_succ, Nat.reduceSub, Nat.reduceAdd, Nat.zero_add, Nat.sub_self, Nat.sub_zero, List.append_nil, Int.reduceLT, Int.reduceLE, Int.reduceNeg, Int.reducePow, Nat.reduceLT, Nat.reduceLeDiff, and_self, and_true, true_and, if_true, if_false, reduceIte, decide_true, decide_false, Bool.and_true, Bool.true_and, Bool.false_and, Bool.and_false, Bool.or_false, Bool.false_or, Bool.true_or, Bool.or_true, Bool.not_false, Bool.not_true, beq_self_eq_true]
theorem a14 (h : f_check_numbers [D] = .err c n) : f_bars [D] = .err c n := by simp -implicitDefEqProofs only [f_bars, v_bars, a7 h, q_run, q_seq, nx_nx, nx_rt, nx_bk, nx_ct, nx_er, nx_cond, bind_ok, bind_err, bind_cond, sB_ok, sB_err, sB_cond, cond_ok, cond_bool, cond_int, cond_and, cond_or, cond_nand, fin_rt, fin_nx, fin_er, fin_cond, q_nil, q_retN, q_set, q_setF, q_ret, q_retF, q_if, q_retX, q_do, pat_ok, q_pat, q_fz, q_nm, q_tp, q_gcons, q_gnil, q_var0, q_varS, q_own0, q_own1, q_ownS, q_c, q_L, asL_l, q_D, q_B, q_T, asB_b, q_No, q_An, q_Or, q_Ch, q_cN, q_c1, q_2, q_1, q_t2, q_If, q_anil, q_acons, q_tup, q_ap, q_apL, q_apI, q_sl, q_oNo, q_oSo, asO_i, q_ixS, q_m1, q_for, q_add, q_sub, q_neg, q_mul, q_mul', q_div, q_mod, q_p6, q_p9, q_p18, cond_t, cond_f, q_lt, q_le, q_gt, q_ge, q_eqI, q_neI, q_neB, q_eqB, q_neS, q_isN, q_notN, q_notB, q_isB, q_len, q_int, q_intB, q_R1, q_enum, enumD_F, q_abs, q_forN, q_forC, it_ok, lp_nx, lp_rt, q_zip, q_rev, q_rev2, q_R2, q_R3, q_It, asI_l, asI_t, q_vbV, q_vbO, q_vbS, fz_own, fz_val, fz_no, fz_S, q_mx2, q_mn2, q_mx3, q_raiseE, rs_int, lp_er, q_tryE, try_go, q_zip3, q_orT, q_Tr, tr_none, tr_bool, tr_list, List.map_cons, List.map_nil, List.cons_append, List.nil_append, List.length_cons, List.length_nil, List.replicate_succ, List.replicate_zero, List.set_cons_zero, List.set_cons_succ, Nat.reduceSub, Nat.reduceAdd, Nat.zero_add, Nat.sub_self, Nat.sub_zero, List.append_nil, Int.reduceLT, Int.reduceLE, Int.reduceNeg, Int.reducePow, Nat.reduceLT, Nat.reduceLeDiff, and_self, and_true, true_and, if_true, if_false, reduceIte, decide_true, decide_false, Bool.and_true, Bool.true_and, Bool.false_and, Bool.and_false, Bool.or_false, Bool.false_or, Bool.true_or, Bool.or_true, Bool.not_false, Bool.not_true, beq_self_eq_true]
theorem a15 (h : f_check_numbers [D] = .err c n) (x y : Da) : f_check_stable [D, x, y] = .err c n := by simp -implicitDefEqProofs only [f_check_stable, v_check_stable, a10 h, q_run, q_seq, nx_nx, nx_rt, nx_bk, nx_ct, nx_er, nx_cond, bind_ok, bind_err, bind_cond, sB_ok, sB_err, sB_cond, cond_ok, cond_bool, cond_int, cond_and, cond_or, cond_nand, fin_rt, fin_nx, fin_er, fin_cond, q_nil, q_retN, q_set, q_setF, q_ret, q_retF, q_if, q_retX, q_do, pat_ok, q_pat, q_fz, q_nm, q_tp, q_gcons, q_gnil, q_var0, q_varS, q_own0, q_own1, q_ownS, q_c, q_L, asL_l, q_D, q_B, q_T, asB_b, q_No, q_An, q_Or, q_Ch, q_cN, q_c1, q_2, q_1, q_t2, q_If, q_anil, q_acons, q_tup, q_ap, q_apL, q_apI, q_sl, q_oNo, q_oSo, asO_i, q_ixS, q_m1, q_for, q_add, q_sub, q_neg, q_mul, q_mul', q_div, q_mod, q_p6, q_p9, q_p18, cond_t, cond_f, q_lt, q_le, q_gt, q_ge, q_eqI, q_neI, q_neB, q_eqB, q_neS, q_isN, q_notN, q_notB, q_isB, q_len, q_int, q_intB, q_R1, q_enum, enumD_F, q_abs, q_forN, q_forC, it_ok, lp_nx, lp_rt, q_zip, q_rev, q_rev2, q_R2, q_R3, q_It, asI_l, asI_t, q_vbV, q_vbO, q_vbS, fz_own, fz_val, fz_no, fz_S, q_mx2, q_mn2, q_mx3, q_raiseE, rs_int, lp_er, q_tryE, try_go, q_zip3, q_orT, q_Tr, tr_none, tr_bool, tr_list, List.map_cons, List.map_nil, List.cons_append, List.nil_append, List.length_cons, List.length_nil, List.replicate_succ, List.replicate_zero, List.set_cons_zero, List.set_cons_succ, Nat.reduceSub, Nat.reduceAdd, Nat.zero_add, Nat.sub_self, Nat.sub_zero, List.append_nil, Int.reduceLT, Int.reduceLE, Int.reduceNeg, Int.reducePow, Nat.reduceLT, Nat.reduceLeDiff, and_self, and_true, true_and, if_true, if_false, reduceIte, decide_true, decide_false, Bool.and_true, Bool.true_and, Bool.false_and, Bool.and_false, Bool.or_false, Bool.false_or, Bool.true_or, Bool.or_true, Bool.not_false, Bool.not_true, beq_self_eq_true]
theorem a16 (h : f_check_numbers [D] = .err c n) (x y z : Da) : f_check_barred [D, x, y, z] = .err c n := by simp -implicitDefEqProofs only [f_check_barred, v_check_barred, a9 h, q_run, q_seq, nx_nx, nx_rt, nx_bk, nx_ct, nx_er, nx_cond, bind_ok, bind_err, bind_cond, sB_ok, sB_err, sB_cond, cond_ok, cond_bool, cond_int, cond_and, cond_or, cond_nand, fin_rt, fin_nx, fin_er, fin_cond, q_nil, q_retN, q_set, q_setF, q_ret, q_retF, q_if, q_retX, q_do, pat_ok, q_pat, q_fz, q_nm, q_tp, q_gcons, q_gnil, q_var0, q_varS, q_own0, q_own1, q_ownS, q_c, q_L, asL_l, q_D, q_B, q_T, asB_b, q_No, q_An, q_Or, q_Ch, q_cN, q_c1, q_2, q_1, q_t2, q_If, q_anil, q_acons, q_tup, q_ap, q_apL, q_apI, q_sl, q_oNo, q_oSo, asO_i, q_ixS, q_m1, q_for, q_add, q_sub, q_neg, q_mul, q_mul', q_div, q_mod, q_p6, q_p9, q_p18, cond_t, cond_f, q_lt, q_le, q_gt, q_ge, q_eqI, q_neI, q_neB, q_eqB, q_neS, q_isN, q_notN, q_notB, q_isB, q_len, q_int, q_intB, q_R1, q_enum, enumD_F, q_abs, q_forN, q_forC, it_ok, lp_nx, lp_rt, q_zip, q_rev, q_rev2, q_R2, q_R3, q_It, asI_l, asI_t, q_vbV, q_vbO, q_vbS, fz_own, fz_val, fz_no, fz_S, q_mx2, q_mn2, q_mx3, q_raiseE, rs_int, lp_er, q_tryE, try_go, q_zip3, q_orT, q_Tr, tr_none, tr_bool, tr_list, List.map_cons, List.map_nil, List.cons_append, List.nil_append, List.length_cons, List.length_nil, List.replicate_succ, List.replicate_zero, List.set_cons_zero, List.set_cons_succ, Nat.reduceSub, Nat.reduceAdd, Nat.zero_add, Nat.sub_self, Nat.sub_zero, List.append_nil, Int.reduceLT, Int.reduceLE, Int.reduceNeg, Int.reducePow, Nat.reduceLT, Nat.reduceLeDiff, and_self, and_true, true_and, if_true, if_false, reduceIte, decide_true, decide_false, Bool.and_true, Bool.true_and, Bool.false_and, Bool.and_false, Bool.or_false, Bool.false_or, Bool.true_or, Bool.or_true, Bool.not_false, Bool.not_true, beq_self_eq_true]
theorem a17 (h : f_check_numbers [D] = .err c n) (x : Da) : f_leaves [D, x] = .err c n := by simp -implicitDefEqProofs only [f_leaves, v_leaves, h, q_run, q_seq, nx_nx, nx_rt, nx_bk, nx_ct, nx_er, nx_cond, bind_ok, bind_err, bind_cond, sB_ok, sB_err, sB_cond, cond_ok, cond_bool, cond_int, cond_and, cond_or, cond_nand, fin_rt, fin_nx, fin_er, fin_cond, q_nil, q_retN, q_set, q_setF, q_ret, q_retF, q_if, q_retX, q_do, pat_ok, q_pat, q_fz, q_nm, q_tp, q_gcons, q_gnil, q_var0, q_varS, q_own0, q_own1, q_ownS, q_c, q_L, asL_l, q_D, q_B, q_T, asB_b, q_No, q_An, q_Or, q_Ch, q_cN, q_c1, q_2, q_1, q_t2, q_If, q_anil, q_acons, q_tup, q_ap, q_apL, q_apI, q_sl, q_oNo, q_oSo, asO_i, q_ixS, q_m1, q_for, q_add, q_sub, q_neg, q_mul, q_mul', q_div, q_mod, q_p6, q_p9, q_p18, cond_t, cond_f, q_lt, q_le, q_gt, q_ge, q_eqI, q_neI, q_neB, q_eqB, q_neS, q_isN, q_notN, q_notB, q_isB, q_len, q_int, q_intB, q_R1, q_enum, enumD_F, q_abs, q_forN, q_forC, it_ok, lp_nx, lp_rt, q_zip, q_rev, q_rev2, q_R2, q_R3, q_It, asI_l, asI_t, q_vbV, q_vbO, q_vbS, fz_own, fz_val, fz_no, fz_S, q_mx2, q_mn2, q_mx3, q_raiseE, rs_int, lp_er, q_tryE, try_go, q_zip3, q_orT, q_Tr, tr_none, tr_bool, tr_list, List.map_cons, List.map_nil, List.cons_append, List.nil_append, List.length_cons, List.length_nil, List.replicate_succ, List.replicate_zero, List.set_cons_zero, List.set_cons_succ, Nat.reduceSub, Nat.reduceAdd, Nat.zero_add, Nat.sub_self, Nat.sub_zero, List.append_nil, Int.reduceLT, Int.reduceLE, Int.reduceNeg, Int.reducePow, Nat.reduceLT, Nat.reduceLeDiff, and_self, and_true, true_and, if_true, if_false, reduceIte, decide_true, decide_false, Bool.and_true, Bool.true_and, Bool.false_and, Bool.and_false, Bool.or_false, Bool.false_or, Bool.true_or, Bool.or_true, Bool.not_false, Bool.not_true, beq_self_eq_true]
theorem suite_er (h : f_check_numbers [D] = .err c n) {k : Int} (k0 : 0 ≤ k) (k1 : k < 18) : bl__law_asked_1 [.val (.int k), .val D, .no] = .er c n [.val (.int k), .val D, .no] := by
  have rp : eRep (aCons (eC (.int 1)) (aNil)) (eC (.int 99)) [.val (.int 17), .val D, .no] = .ok (repD 99 [.int 1]) := by
    unfold eRep
    rw [show aCons (eC (.int 1)) (aNil) [.val (.int 17), .val D, .no] = .ok [.int 1] from rfl, bind_ok, show (eC (.int 99)) [.val (.int 17), .val D, .no] = .ok (.int 99) from rfl, bind_ok]
    dsimp only
    rw [if_pos ⟨by decide, by decide, by simp only [List.length_cons, List.length_nil]; unfold lim; decide⟩]
    rfl
  have kk : k = 0 ∨ k = 1 ∨ k = 2 ∨ k = 3 ∨ k = 4 ∨ k = 5 ∨ k = 6 ∨ k = 7 ∨ k = 8 ∨ k = 9 ∨ k = 10 ∨ k = 11 ∨ k = 12 ∨ k = 13 ∨ k = 14 ∨ k = 15 ∨ k = 16 ∨ k = 17 := by omega
  rcases kk with rfl | rfl | rfl | rfl | rfl | rfl | rfl | rfl | rfl | rfl | rfl | rfl | rfl | rfl | rfl | rfl | rfl | rfl
  all_goals simp -implicitDefEqProofs only [bl__law_asked_1, st__law_asked_1, st__law_asked_2, st__law_asked_3, st__law_asked_4, st__law_asked_5, st__law_asked_6, st__law_asked_7, st__law_asked_8, st__law_asked_9, st__law_asked_10, st__law_asked_11, st__law_asked_12, st__law_asked_13, st__law_asked_14, st__law_asked_15, st__law_asked_16, st__law_asked_17, st__law_asked_18, Int.reduceBEq, rp, h, a1 h, a2 h, a3 h, a4 h, a5 h, a6 h, a7 h, a8 h, a9 h, a10 h, a11 h, a12 h, a13 h, a14 h, a15 h, a16 h, a17 h, q_apL, q_run, q_seq, nx_nx, nx_rt, nx_bk, nx_ct, nx_er, nx_cond, bind_ok, bind_err, bind_cond, sB_ok, sB_err, sB_cond, cond_ok, cond_bool, cond_int, cond_and, cond_or, cond_nand, fin_rt, fin_nx, fin_er, fin_cond, q_nil, q_retN, q_set, q_setF, q_ret, q_retF, q_if, q_retX, q_do, pat_ok, q_pat, q_fz, q_nm, q_tp, q_gcons, q_gnil, q_var0, q_varS, q_own0, q_own1, q_ownS, q_c, q_L, asL_l, q_D, q_B, q_T, asB_b, q_No, q_An, q_Or, q_Ch, q_cN, q_c1, q_2, q_1, q_t2, q_If, q_anil, q_acons, q_tup, q_ap, q_apL, q_apI, q_sl, q_oNo, q_oSo, asO_i, q_ixS, q_m1, q_for, q_add, q_sub, q_neg, q_mul, q_mul', q_div, q_mod, q_p6, q_p9, q_p18, cond_t, cond_f, q_lt, q_le, q_gt, q_ge, q_eqI, q_neI, q_neB, q_eqB, q_neS, q_isN, q_notN, q_notB, q_isB, q_len, q_int, q_intB, q_R1, q_enum, enumD_F, q_abs, q_forN, q_forC, it_ok, lp_nx, lp_rt, q_zip, q_rev, q_rev2, q_R2, q_R3, q_It, asI_l, asI_t, q_vbV, q_vbO, q_vbS, fz_own, fz_val, fz_no, fz_S, q_mx2, q_mn2, q_mx3, q_raiseE, rs_int, lp_er, q_tryE, try_go, q_zip3, q_orT, q_Tr, tr_none, tr_bool, tr_list, List.map_cons, List.map_nil, List.cons_append, List.nil_append, List.length_cons, List.length_nil, List.replicate_succ, List.replicate_zero, List.set_cons_zero, List.set_cons_succ, Nat.reduceSub, Nat.reduceAdd, Nat.zero_add, Nat.sub_self, Nat.sub_zero, List.append_nil, Int.reduceLT, Int.reduceLE, Int.reduceNeg, Int.reducePow, Nat.reduceLT, Nat.reduceLeDiff, and_self, and_true, true_and, if_true, if_false, reduceIte, decide_true, decide_false, Bool.and_true, Bool.true_and, Bool.false_and, Bool.and_false, Bool.or_false, Bool.false_or, Bool.true_or, Bool.or_true, Bool.not_false, Bool.not_true, beq_self_eq_true]
theorem asked_er (h : f_check_numbers [D] = .err c n) (hc : c = "TooMany" ∨ c = "BadNumbers") {k : Int} (k0 : 0 ≤ k) (k1 : k < 18) : f__law_asked [.int k, D] = .ok (errN (nameOf c) n) := by
  have e := suite_er h k0 k1
  have ct := caught (W := .val (.int k)) (D := .val D) (n := n) hc rfl
  show finR true (SRs.nx (sTry tb 2 bl__law_asked_1 bl__law_asked_2 [.val (.int k), .val D, .no]) sNil) = _
  rw [q_try, e, ct]
  rfl
theorem asked_ok (h : f_check_numbers [D] = .ok .none) : f__law_asked [.int 0, D] = .ok .none := by
  have nn : noL PyData.none = true := rfl
  simp -implicitDefEqProofs only [f__law_asked, v__law_asked, q_try, bl__law_asked_1, st__law_asked_7, Int.reduceBEq, h, nn, q_run, q_seq, nx_nx, nx_rt, nx_bk, nx_ct, nx_er, nx_cond, bind_ok, bind_err, bind_cond, sB_ok, sB_err, sB_cond, cond_ok, cond_bool, cond_int, cond_and, cond_or, cond_nand, fin_rt, fin_nx, fin_er, fin_cond, q_nil, q_retN, q_set, q_setF, q_ret, q_retF, q_if, q_retX, q_do, pat_ok, q_pat, q_fz, q_nm, q_tp, q_gcons, q_gnil, q_var0, q_varS, q_own0, q_own1, q_ownS, q_c, q_L, asL_l, q_D, q_B, q_T, asB_b, q_No, q_An, q_Or, q_Ch, q_cN, q_c1, q_2, q_1, q_t2, q_If, q_anil, q_acons, q_tup, q_ap, q_apL, q_apI, q_sl, q_oNo, q_oSo, asO_i, q_ixS, q_m1, q_for, q_add, q_sub, q_neg, q_mul, q_mul', q_div, q_mod, q_p6, q_p9, q_p18, cond_t, cond_f, q_lt, q_le, q_gt, q_ge, q_eqI, q_neI, q_neB, q_eqB, q_neS, q_isN, q_notN, q_notB, q_isB, q_len, q_int, q_intB, q_R1, q_enum, enumD_F, q_abs, q_forN, q_forC, it_ok, lp_nx, lp_rt, q_zip, q_rev, q_rev2, q_R2, q_R3, q_It, asI_l, asI_t, q_vbV, q_vbO, q_vbS, fz_own, fz_val, fz_no, fz_S, q_mx2, q_mn2, q_mx3, q_raiseE, rs_int, lp_er, q_tryE, try_go, q_zip3, q_orT, q_Tr, tr_none, tr_bool, tr_list, List.map_cons, List.map_nil, List.cons_append, List.nil_append, List.length_cons, List.length_nil, List.replicate_succ, List.replicate_zero, List.set_cons_zero, List.set_cons_succ, Nat.reduceSub, Nat.reduceAdd, Nat.zero_add, Nat.sub_self, Nat.sub_zero, List.append_nil, Int.reduceLT, Int.reduceLE, Int.reduceNeg, Int.reducePow, Nat.reduceLT, Nat.reduceLeDiff, and_self, and_true, true_and, if_true, if_false, reduceIte, decide_true, decide_false, Bool.and_true, Bool.true_and, Bool.false_and, Bool.and_false, Bool.or_false, Bool.false_or, Bool.true_or, Bool.or_true, Bool.not_false, Bool.not_true, beq_self_eq_true]
  try rfl
end
theorem compE_none {g : Da → En → R En} {t : En → R Bool} {el : En → R Da} {ρ : En} : ∀ (ds : List Da), (∀ x ∈ ds, ∃ ρ1, g x ρ = .ok ρ1 ∧ t ρ1 = .ok false) → compE g t el ρ ds = some []
  | [], _ => rfl
  | x :: xs, h => by
    obtain ⟨ρ1, h1, h2⟩ := h x List.mem_cons_self
    unfold compE
    rw [h1]
    dsimp only
    rw [h2]
    exact compE_none xs fun y hy => h y (List.mem_cons_of_mem _ hy)
theorem q_lcN {vs : List Nat} {fi : En → R (List Da)} {g : Da → En → R En} {t : En → R Bool} {el : En → R Da} {ρ : En} {ds out : List Da} (hf : fi ρ = .ok ds) (hw : vs.all (notOwn ρ) = true) (hc : compE g t el (wipeE ρ vs) ds = some out) : eLc vs fi g t el ρ = .ok out := by
  unfold eLc
  rw [hf, bind_ok, if_pos hw, hc]
  rfl
theorem same_errN {nm : Str} (h : PyData.strOk nm = true) (n : Int) : f__law_same [errN nm n, errN nm n] = .ok (.bool true) := by
  refine same_eq ?_ (by show max 0 (max 0 (max 0 0)) + 1 < 8; decide)
  show ((PyData.strOk "error" && (PyData.strOk nm && (true && true))) && decide (3 ≤ 100000)) = true
  rw [h, show PyData.strOk "error" = true from by decide +kernel]
  rfl
theorem strOk_name (c : Str) : PyData.strOk (nameOf c) = true := by
  unfold nameOf
  split <;> decide +kernel
theorem refuse_eq {D : Da} {c : Str} {n : Int} (h : f_check_numbers [D] = .err c n) (hc : c = "TooMany" ∨ c = "BadNumbers") : f__law_all_refuse [D, errN (nameOf c) n] = .ok (.bool true) := by
  have sm := same_errN (strOk_name c) n
  have lc : eLc [2] (eR1 (eC (.int 18))) (gNm 2) (tNo (eT (eAp f__law_same (aCons (eAp f__law_asked (aCons (eVar 2) (aCons (eVar 0) (aNil)))) (aCons (eVar 1) (aNil)))))) (eVar 2) [.val D, .val (errN (nameOf c) n), .no] = .ok [] := by
    refine q_lcN (ds := rngD 0 18) rfl rfl (compE_none _ fun x hx => ?_)
    obtain ⟨i, hi⟩ := List.getElem?_of_mem hx
    obtain ⟨hi, rfl⟩ := get_rngD hi
    have a := asked_er h hc (k := 0 + (i : Int)) (by omega) (by omega)
    refine ⟨[.val D, .val (errN (nameOf c) n), .val (.int (0 + (i : Int)))], rfl, ?_⟩
    generalize errN (nameOf c) n = EE at *
    simp -implicitDefEqProofs only [a, sm, q_run, q_seq, nx_nx, nx_rt, nx_bk, nx_ct, nx_er, nx_cond, bind_ok, bind_err, bind_cond, sB_ok, sB_err, sB_cond, cond_ok, cond_bool, cond_int, cond_and, cond_or, cond_nand, fin_rt, fin_nx, fin_er, fin_cond, q_nil, q_retN, q_set, q_setF, q_ret, q_retF, q_if, q_retX, q_do, pat_ok, q_pat, q_fz, q_nm, q_tp, q_gcons, q_gnil, q_var0, q_varS, q_own0, q_own1, q_ownS, q_c, q_L, asL_l, q_D, q_B, q_T, asB_b, q_No, q_An, q_Or, q_Ch, q_cN, q_c1, q_2, q_1, q_t2, q_If, q_anil, q_acons, q_tup, q_ap, q_apL, q_apI, q_sl, q_oNo, q_oSo, asO_i, q_ixS, q_m1, q_for, q_add, q_sub, q_neg, q_mul, q_mul', q_div, q_mod, q_p6, q_p9, q_p18, cond_t, cond_f, q_lt, q_le, q_gt, q_ge, q_eqI, q_neI, q_neB, q_eqB, q_neS, q_isN, q_notN, q_notB, q_isB, q_len, q_int, q_intB, q_R1, q_enum, enumD_F, q_abs, q_forN, q_forC, it_ok, lp_nx, lp_rt, q_zip, q_rev, q_rev2, q_R2, q_R3, q_It, asI_l, asI_t, q_vbV, q_vbO, q_vbS, fz_own, fz_val, fz_no, fz_S, q_mx2, q_mn2, q_mx3, q_raiseE, rs_int, lp_er, q_tryE, try_go, q_zip3, q_orT, q_Tr, tr_none, tr_bool, tr_list, List.map_cons, List.map_nil, List.cons_append, List.nil_append, List.length_cons, List.length_nil, List.replicate_succ, List.replicate_zero, List.set_cons_zero, List.set_cons_succ, Nat.reduceSub, Nat.reduceAdd, Nat.zero_add, Nat.sub_self, Nat.sub_zero, List.append_nil, Int.reduceLT, Int.reduceLE, Int.reduceNeg, Int.reducePow, Nat.reduceLT, Nat.reduceLeDiff, and_self, and_true, true_and, if_true, if_false, reduceIte, decide_true, decide_false, Bool.and_true, Bool.true_and, Bool.false_and, Bool.and_false, Bool.or_false, Bool.false_or, Bool.true_or, Bool.or_true, Bool.not_false, Bool.not_true, beq_self_eq_true]
  generalize errN (nameOf c) n = EE at *
  simp -implicitDefEqProofs only [f__law_all_refuse, v__law_all_refuse, lc, q_run, q_seq, nx_nx, nx_rt, nx_bk, nx_ct, nx_er, nx_cond, bind_ok, bind_err, bind_cond, sB_ok, sB_err, sB_cond, cond_ok, cond_bool, cond_int, cond_and, cond_or, cond_nand, fin_rt, fin_nx, fin_er, fin_cond, q_nil, q_retN, q_set, q_setF, q_ret, q_retF, q_if, q_retX, q_do, pat_ok, q_pat, q_fz, q_nm, q_tp, q_gcons, q_gnil, q_var0, q_varS, q_own0, q_own1, q_ownS, q_c, q_L, asL_l, q_D, q_B, q_T, asB_b, q_No, q_An, q_Or, q_Ch, q_cN, q_c1, q_2, q_1, q_t2, q_If, q_anil, q_acons, q_tup, q_ap, q_apL, q_apI, q_sl, q_oNo, q_oSo, asO_i, q_ixS, q_m1, q_for, q_add, q_sub, q_neg, q_mul, q_mul', q_div, q_mod, q_p6, q_p9, q_p18, cond_t, cond_f, q_lt, q_le, q_gt, q_ge, q_eqI, q_neI, q_neB, q_eqB, q_neS, q_isN, q_notN, q_notB, q_isB, q_len, q_int, q_intB, q_R1, q_enum, enumD_F, q_abs, q_forN, q_forC, it_ok, lp_nx, lp_rt, q_zip, q_rev, q_rev2, q_R2, q_R3, q_It, asI_l, asI_t, q_vbV, q_vbO, q_vbS, fz_own, fz_val, fz_no, fz_S, q_mx2, q_mn2, q_mx3, q_raiseE, rs_int, lp_er, q_tryE, try_go, q_zip3, q_orT, q_Tr, tr_none, tr_bool, tr_list, List.map_cons, List.map_nil, List.cons_append, List.nil_append, List.length_cons, List.length_nil, List.replicate_succ, List.replicate_zero, List.set_cons_zero, List.set_cons_succ, Nat.reduceSub, Nat.reduceAdd, Nat.zero_add, Nat.sub_self, Nat.sub_zero, List.append_nil, Int.reduceLT, Int.reduceLE, Int.reduceNeg, Int.reducePow, Nat.reduceLT, Nat.reduceLeDiff, and_self, and_true, true_and, if_true, if_false, reduceIte, decide_true, decide_false, Bool.and_true, Bool.true_and, Bool.false_and, Bool.and_false, Bool.or_false, Bool.false_or, Bool.true_or, Bool.or_true, Bool.not_false, Bool.not_true, beq_self_eq_true]
  rfl
end K27
namespace K27
open PySem PySem.Spec PyProof.Rows L2 VL
theorem q_parF {i j : Nat} {fl fm : En → R (List Da)} {ρ : En} : sParF i j fl fm ρ = sB (fl ρ) ρ fun xs => sB (fm ρ) ρ fun ys => .go .nx ((ρ.set i (.own xs)).set j (.own ys)) := rfl
theorem canLay_tris (P : List Tri) : PyData.canLayAll0 (P.map triD) = true := by
  induction P with
  | nil => rfl
  | cons t P ih =>
    rw [List.map_cons]
    simp only [PyData.canLayAll0, ih, Bool.and_true]
    simp [triD, PyData.canLay0, PyData.canLayAll0]
theorem shaped_tris (P : List Tri) : SeqAt.shaped (.list (P.map triD)) = true := by
  have d := depths_map (D := triD) (k := 1) (as := P) fun t _ => by simp [triD, PyData.depth, PyData.depthAll]
  unfold SeqAt.shaped
  rw [Bool.and_eq_true, decide_eq_true_eq]
  refine ⟨by simpa only [PyData.canLay0] using canLay_tris P, ?_⟩
  simp only [PyData.depth]
  omega
theorem shaped_nil : SeqAt.shaped (.list []) = true := by decide +kernel
theorem eq_nil {ds : List Da} (h : SeqAt.shaped (.list ds) = true) : qEq (.list ds) (.list []) = .ok ds.isEmpty := by
  unfold qEq eqOk
  rw [h, shaped_nil, if_pos (by simp)]
  cases ds <;> simp [PyData.eqv, PyData.eqvAll]
/-! ### spoilt -/
theorem cat_ok {xs ys : List Da} (h : xs.length + ys.length ≤ 100000) : (if xs.length + ys.length ≤ lim then R.ok (xs ++ ys) else .bad) = .ok (xs ++ ys) := if_pos (by unfold lim; omega)
theorem pos_len {α : Type} {l : List α} (h : l ≠ []) : 0 < l.length := by
  cases l with
  | nil => exact absurd rfl h
  | cons a l => simp
theorem q_catE {fl fm : En → R (List Da)} {ρ : En} {xs ys : List Da} (h1 : fl ρ = .ok xs) (h2 : fm ρ = .ok ys) (h : xs.length + ys.length ≤ 100000) : eCat fl fm ρ = .ok (xs ++ ys) := by
  show (fl ρ).bind (fun xs => (fm ρ).bind fun ys => if xs.length + ys.length ≤ lim then R.ok (xs ++ ys) else .bad) = _
  rw [h1, bind_ok, h2, bind_ok, if_pos (by unfold lim; omega)]
theorem fzz {A B C D E F G H I J : Slot} {xs ys : List Da} : fz 3 (fz 4 [A, B, C, .own xs, .own ys, D, E, F, G, H, I, J]) = [A, B, C, .val (.list xs), .val (.list ys), D, E, F, G, H, I, J] := rfl
theorem set_map {P : List Tri} {k : Nat} {t : Tri} : (P.map triD).set k (triD t) = (P.set k t).map triD := (List.map_set).symm
theorem spoilt_eq {ds : List Int} (hd : ∀ d ∈ ds, 0 ≤ d ∧ d < 65536) (at' : Int) (S : List Int) (P : List Tri) (s0 : S ≠ []) (s40 : S.length ≤ 100) (few : P.length ≤ 2000) : ∃ S' P', f__law_spoilt [.list (dInts ds), .int at', numD S P] = .ok (numD S' P') ∧ S'.length = S.length ∧ P'.length ≤ P.length + 1 := by
  have ll : (dInts S).length = S.length := dInts_len
  have lp : (P.map triD).length = P.length := List.length_map _
  have sp := pos_len s0
  have n0 : dIx (numD S P) (.int 0) = .ok (.list (dInts S)) := ix0
  have n1 : dIx (numD S P) (.int 1) = .ok (.list (P.map triD)) := ix1
  obtain ⟨kind, ek, k0, k1⟩ := mix_eq hd at' (m := 10) (by decide)
  have nl := eq_nil (shaped_tris P)
  have fi : ∀ z : Int, flat (PyData.int z) = true := fun z => by simp [flat]
  have ap : ∀ {g : List Da → R Da} {f : En → R (List Da)} {ρ : En}, eApF g f ρ = (f ρ).bind fun ds => (g ds).bind fun d => if flat d = true then .ok d else .bad := rfl
  have f8 : st__law_spoilt_8 [.val (.list (dInts ds)), .val (.int at'), .val (numD S P), .no, .no, .no, .no, .no, .no, .no, .no, .no] = .go .nx [.val (.list (dInts ds)), .val (.int at'), .val (numD S P), .own (dInts S), .own (P.map triD), .no, .no, .no, .no, .no, .no, .no] := by
    unfold st__law_spoilt_8
    rw [q_parF]
    generalize numD S P = NN at *
    generalize P.map triD = PP at *
    generalize dInts S = SS at *
    generalize dInts ds = DD at *
    simp -implicitDefEqProofs only [n0, n1, q_run, q_seq, nx_nx, nx_rt, nx_bk, nx_ct, nx_er, nx_cond, bind_ok, bind_err, bind_cond, sB_ok, sB_err, sB_cond, cond_ok, cond_bool, cond_int, cond_and, cond_or, cond_nand, fin_rt, fin_nx, fin_er, fin_cond, q_nil, q_retN, q_set, q_setF, q_ret, q_retF, q_if, q_retX, q_do, pat_ok, q_pat, q_fz, q_nm, q_tp, q_gcons, q_gnil, q_var0, q_varS, q_own0, q_own1, q_ownS, q_c, q_L, asL_l, q_D, q_B, q_T, asB_b, q_No, q_An, q_Or, q_Ch, q_cN, q_c1, q_2, q_1, q_t2, q_If, q_anil, q_acons, q_tup, q_ap, q_apL, q_apI, q_sl, q_oNo, q_oSo, asO_i, q_ixS, q_m1, q_for, q_add, q_sub, q_neg, q_mul, q_mul', q_div, q_mod, q_p6, q_p9, q_p18, cond_t, cond_f, q_lt, q_le, q_gt, q_ge, q_eqI, q_neI, q_neB, q_eqB, q_neS, q_isN, q_notN, q_notB, q_isB, q_len, q_int, q_intB, q_R1, q_enum, enumD_F, q_abs, q_forN, q_forC, it_ok, lp_nx, lp_rt, q_zip, q_rev, q_rev2, q_R2, q_R3, q_It, asI_l, asI_t, q_vbV, q_vbO, q_vbS, fz_own, fz_val, fz_no, fz_S, q_mx2, q_mn2, q_mx3, q_raiseE, rs_int, lp_er, q_tryE, try_go, q_zip3, q_orT, q_Tr, tr_none, tr_bool, tr_list, List.map_cons, List.map_nil, List.cons_append, List.nil_append, List.length_cons, List.length_nil, List.replicate_succ, List.replicate_zero, List.set_cons_zero, List.set_cons_succ, Nat.reduceSub, Nat.reduceAdd, Nat.zero_add, Nat.sub_self, Nat.sub_zero, List.append_nil, Int.reduceLT, Int.reduceLE, Int.reduceNeg, Int.reducePow, Nat.reduceLT, Nat.reduceLeDiff, and_self, and_true, true_and, if_true, if_false, reduceIte, decide_true, decide_false, Bool.and_true, Bool.true_and, Bool.false_and, Bool.and_false, Bool.or_false, Bool.false_or, Bool.true_or, Bool.or_true, Bool.not_false, Bool.not_true, beq_self_eq_true]
  have f9 : st__law_spoilt_9 [.val (.list (dInts ds)), .val (.int at'), .val (numD S P), .own (dInts S), .own (P.map triD), .no, .no, .no, .no, .no, .no, .no] = .go .nx [.val (.list (dInts ds)), .val (.int at'), .val (numD S P), .own (dInts S), .own (P.map triD), .val (.int kind), .no, .no, .no, .no, .no, .no] := by
    generalize numD S P = NN at *
    generalize P.map triD = PP at *
    generalize dInts S = SS at *
    generalize dInts ds = DD at *
    simp -implicitDefEqProofs only [st__law_spoilt_9, ek, q_run, q_seq, nx_nx, nx_rt, nx_bk, nx_ct, nx_er, nx_cond, bind_ok, bind_err, bind_cond, sB_ok, sB_err, sB_cond, cond_ok, cond_bool, cond_int, cond_and, cond_or, cond_nand, fin_rt, fin_nx, fin_er, fin_cond, q_nil, q_retN, q_set, q_setF, q_ret, q_retF, q_if, q_retX, q_do, pat_ok, q_pat, q_fz, q_nm, q_tp, q_gcons, q_gnil, q_var0, q_varS, q_own0, q_own1, q_ownS, q_c, q_L, asL_l, q_D, q_B, q_T, asB_b, q_No, q_An, q_Or, q_Ch, q_cN, q_c1, q_2, q_1, q_t2, q_If, q_anil, q_acons, q_tup, q_ap, q_apL, q_apI, q_sl, q_oNo, q_oSo, asO_i, q_ixS, q_m1, q_for, q_add, q_sub, q_neg, q_mul, q_mul', q_div, q_mod, q_p6, q_p9, q_p18, cond_t, cond_f, q_lt, q_le, q_gt, q_ge, q_eqI, q_neI, q_neB, q_eqB, q_neS, q_isN, q_notN, q_notB, q_isB, q_len, q_int, q_intB, q_R1, q_enum, enumD_F, q_abs, q_forN, q_forC, it_ok, lp_nx, lp_rt, q_zip, q_rev, q_rev2, q_R2, q_R3, q_It, asI_l, asI_t, q_vbV, q_vbO, q_vbS, fz_own, fz_val, fz_no, fz_S, q_mx2, q_mn2, q_mx3, q_raiseE, rs_int, lp_er, q_tryE, try_go, q_zip3, q_orT, q_Tr, tr_none, tr_bool, tr_list, List.map_cons, List.map_nil, List.cons_append, List.nil_append, List.length_cons, List.length_nil, List.replicate_succ, List.replicate_zero, List.set_cons_zero, List.set_cons_succ, Nat.reduceSub, Nat.reduceAdd, Nat.zero_add, Nat.sub_self, Nat.sub_zero, List.append_nil, Int.reduceLT, Int.reduceLE, Int.reduceNeg, Int.reducePow, Nat.reduceLT, Nat.reduceLeDiff, and_self, and_true, true_and, if_true, if_false, reduceIte, decide_true, decide_false, Bool.and_true, Bool.true_and, Bool.false_and, Bool.and_false, Bool.or_false, Bool.false_or, Bool.true_or, Bool.or_true, Bool.not_false, Bool.not_true, beq_self_eq_true]
  have test : tOr' (t2 cLt (eVar 5) (eC (.int 2))) (t2 qEq (eVarB 4) (eD (aNil))) [.val (.list (dInts ds)), .val (.int at'), .val (numD S P), .own (dInts S), .own (P.map triD), .val (.int kind), .no, .no, .no, .no, .no, .no] = .ok (decide (kind < 2) || (P.map triD).isEmpty) := by
    generalize numD S P = NN at *
    generalize P.map triD = PP at *
    generalize dInts S = SS at *
    generalize dInts ds = DD at *
    simp -implicitDefEqProofs only [nl, q_run, q_seq, nx_nx, nx_rt, nx_bk, nx_ct, nx_er, nx_cond, bind_ok, bind_err, bind_cond, sB_ok, sB_err, sB_cond, cond_ok, cond_bool, cond_int, cond_and, cond_or, cond_nand, fin_rt, fin_nx, fin_er, fin_cond, q_nil, q_retN, q_set, q_setF, q_ret, q_retF, q_if, q_retX, q_do, pat_ok, q_pat, q_fz, q_nm, q_tp, q_gcons, q_gnil, q_var0, q_varS, q_own0, q_own1, q_ownS, q_c, q_L, asL_l, q_D, q_B, q_T, asB_b, q_No, q_An, q_Or, q_Ch, q_cN, q_c1, q_2, q_1, q_t2, q_If, q_anil, q_acons, q_tup, q_ap, q_apL, q_apI, q_sl, q_oNo, q_oSo, asO_i, q_ixS, q_m1, q_for, q_add, q_sub, q_neg, q_mul, q_mul', q_div, q_mod, q_p6, q_p9, q_p18, cond_t, cond_f, q_lt, q_le, q_gt, q_ge, q_eqI, q_neI, q_neB, q_eqB, q_neS, q_isN, q_notN, q_notB, q_isB, q_len, q_int, q_intB, q_R1, q_enum, enumD_F, q_abs, q_forN, q_forC, it_ok, lp_nx, lp_rt, q_zip, q_rev, q_rev2, q_R2, q_R3, q_It, asI_l, asI_t, q_vbV, q_vbO, q_vbS, fz_own, fz_val, fz_no, fz_S, q_mx2, q_mn2, q_mx3, q_raiseE, rs_int, lp_er, q_tryE, try_go, q_zip3, q_orT, q_Tr, tr_none, tr_bool, tr_list, List.map_cons, List.map_nil, List.cons_append, List.nil_append, List.length_cons, List.length_nil, List.replicate_succ, List.replicate_zero, List.set_cons_zero, List.set_cons_succ, Nat.reduceSub, Nat.reduceAdd, Nat.zero_add, Nat.sub_self, Nat.sub_zero, List.append_nil, Int.reduceLT, Int.reduceLE, Int.reduceNeg, Int.reducePow, Nat.reduceLT, Nat.reduceLeDiff, and_self, and_true, true_and, if_true, if_false, reduceIte, decide_true, decide_false, Bool.and_true, Bool.true_and, Bool.false_and, Bool.and_false, Bool.or_false, Bool.false_or, Bool.true_or, Bool.or_true, Bool.not_false, Bool.not_true, beq_self_eq_true]
  by_cases c : (decide (kind < 2) || (P.map triD).isEmpty) = true
  · obtain ⟨k, ekk, kk0, kk1⟩ := mix_eq hd (at' + 1) (m := (S.length : Int)) (by omega)
    obtain ⟨v, ev, v0, v1⟩ := mix_eq hd (at' + 2) (m := 4) (by decide)
    obtain ⟨x, ex⟩ : ∃ x, dIx (.list [.int (-1), .int 1000000001, .int (-1000000001), .int 1000000000]) (.int v) = .ok (.int x) := by
      have : v = 0 ∨ v = 1 ∨ v = 2 ∨ v = 3 := by omega
      rcases this with rfl | rfl | rfl | rfl <;> exact ⟨_, rfl⟩
    refine ⟨S.set k.toNat x, P, ?_, List.length_set, by omega⟩
    have f1 : st__law_spoilt_1 [.val (.list (dInts ds)), .val (.int at'), .val (numD S P), .own (dInts S), .own (P.map triD), .val (.int kind), .no, .no, .no, .no, .no, .no] = .go .nx [.val (.list (dInts ds)), .val (.int at'), .val (numD S P), .own (dInts S), .own (P.map triD), .val (.int kind), .val (.int k), .no, .no, .no, .no, .no] := by
      generalize numD S P = NN at *
      generalize P.map triD = PP at *
      generalize dInts S = SS at *
      generalize dInts ds = DD at *
      simp -implicitDefEqProofs only [st__law_spoilt_1, ap, ll, ekk, fi, q_run, q_seq, nx_nx, nx_rt, nx_bk, nx_ct, nx_er, nx_cond, bind_ok, bind_err, bind_cond, sB_ok, sB_err, sB_cond, cond_ok, cond_bool, cond_int, cond_and, cond_or, cond_nand, fin_rt, fin_nx, fin_er, fin_cond, q_nil, q_retN, q_set, q_setF, q_ret, q_retF, q_if, q_retX, q_do, pat_ok, q_pat, q_fz, q_nm, q_tp, q_gcons, q_gnil, q_var0, q_varS, q_own0, q_own1, q_ownS, q_c, q_L, asL_l, q_D, q_B, q_T, asB_b, q_No, q_An, q_Or, q_Ch, q_cN, q_c1, q_2, q_1, q_t2, q_If, q_anil, q_acons, q_tup, q_ap, q_apL, q_apI, q_sl, q_oNo, q_oSo, asO_i, q_ixS, q_m1, q_for, q_add, q_sub, q_neg, q_mul, q_mul', q_div, q_mod, q_p6, q_p9, q_p18, cond_t, cond_f, q_lt, q_le, q_gt, q_ge, q_eqI, q_neI, q_neB, q_eqB, q_neS, q_isN, q_notN, q_notB, q_isB, q_len, q_int, q_intB, q_R1, q_enum, enumD_F, q_abs, q_forN, q_forC, it_ok, lp_nx, lp_rt, q_zip, q_rev, q_rev2, q_R2, q_R3, q_It, asI_l, asI_t, q_vbV, q_vbO, q_vbS, fz_own, fz_val, fz_no, fz_S, q_mx2, q_mn2, q_mx3, q_raiseE, rs_int, lp_er, q_tryE, try_go, q_zip3, q_orT, q_Tr, tr_none, tr_bool, tr_list, List.map_cons, List.map_nil, List.cons_append, List.nil_append, List.length_cons, List.length_nil, List.replicate_succ, List.replicate_zero, List.set_cons_zero, List.set_cons_succ, Nat.reduceSub, Nat.reduceAdd, Nat.zero_add, Nat.sub_self, Nat.sub_zero, List.append_nil, Int.reduceLT, Int.reduceLE, Int.reduceNeg, Int.reducePow, Nat.reduceLT, Nat.reduceLeDiff, and_self, and_true, true_and, if_true, if_false, reduceIte, decide_true, decide_false, Bool.and_true, Bool.true_and, Bool.false_and, Bool.and_false, Bool.or_false, Bool.false_or, Bool.true_or, Bool.or_true, Bool.not_false, Bool.not_true, beq_self_eq_true]
    have f2 : st__law_spoilt_2 [.val (.list (dInts ds)), .val (.int at'), .val (numD S P), .own (dInts S), .own (P.map triD), .val (.int kind), .val (.int k), .no, .no, .no, .no, .no] = .go .nx [.val (.list (dInts ds)), .val (.int at'), .val (numD S P), .own (dInts (S.set k.toNat x)), .own (P.map triD), .val (.int kind), .val (.int k), .no, .no, .no, .no, .no] := by
      unfold st__law_spoilt_2
      rw [q_setix (ds := dInts S) (d := .int x) (z := k) (j := k.toNat) (by
        generalize numD S P = NN at *
        generalize P.map triD = PP at *
        generalize dInts S = SS at *
        generalize dInts ds = DD at *
        simp -implicitDefEqProofs only [ev, ex, q_run, q_seq, nx_nx, nx_rt, nx_bk, nx_ct, nx_er, nx_cond, bind_ok, bind_err, bind_cond, sB_ok, sB_err, sB_cond, cond_ok, cond_bool, cond_int, cond_and, cond_or, cond_nand, fin_rt, fin_nx, fin_er, fin_cond, q_nil, q_retN, q_set, q_setF, q_ret, q_retF, q_if, q_retX, q_do, pat_ok, q_pat, q_fz, q_nm, q_tp, q_gcons, q_gnil, q_var0, q_varS, q_own0, q_own1, q_ownS, q_c, q_L, asL_l, q_D, q_B, q_T, asB_b, q_No, q_An, q_Or, q_Ch, q_cN, q_c1, q_2, q_1, q_t2, q_If, q_anil, q_acons, q_tup, q_ap, q_apL, q_apI, q_sl, q_oNo, q_oSo, asO_i, q_ixS, q_m1, q_for, q_add, q_sub, q_neg, q_mul, q_mul', q_div, q_mod, q_p6, q_p9, q_p18, cond_t, cond_f, q_lt, q_le, q_gt, q_ge, q_eqI, q_neI, q_neB, q_eqB, q_neS, q_isN, q_notN, q_notB, q_isB, q_len, q_int, q_intB, q_R1, q_enum, enumD_F, q_abs, q_forN, q_forC, it_ok, lp_nx, lp_rt, q_zip, q_rev, q_rev2, q_R2, q_R3, q_It, asI_l, asI_t, q_vbV, q_vbO, q_vbS, fz_own, fz_val, fz_no, fz_S, q_mx2, q_mn2, q_mx3, q_raiseE, rs_int, lp_er, q_tryE, try_go, q_zip3, q_orT, q_Tr, tr_none, tr_bool, tr_list, List.map_cons, List.map_nil, List.cons_append, List.nil_append, List.length_cons, List.length_nil, List.replicate_succ, List.replicate_zero, List.set_cons_zero, List.set_cons_succ, Nat.reduceSub, Nat.reduceAdd, Nat.zero_add, Nat.sub_self, Nat.sub_zero, List.append_nil, Int.reduceLT, Int.reduceLE, Int.reduceNeg, Int.reducePow, Nat.reduceLT, Nat.reduceLeDiff, and_self, and_true, true_and, if_true, if_false, reduceIte, decide_true, decide_false, Bool.and_true, Bool.true_and, Bool.false_and, Bool.and_false, Bool.or_false, Bool.false_or, Bool.true_or, Bool.or_true, Bool.not_false, Bool.not_true, beq_self_eq_true]) rfl rfl (by rw [ll]; exact ixN_lt kk0 (by omega)), show (dInts S).set k.toNat (.int x) = dInts (S.set k.toNat x) from (List.map_set).symm]
      rfl
    have nd : numD (S.set k.toNat x) P = .tuple [.list (dInts (S.set k.toNat x)), .list (P.map triD)] := rfl
    rw [nd]
    generalize numD S P = NN at *
    generalize hPP : P.map triD = PP at *
    generalize dInts (S.set k.toNat x) = S2 at *
    generalize dInts S = SS at *
    generalize dInts ds = DD at *
    rw [c] at test
    simp -implicitDefEqProofs only [f__law_spoilt, v__law_spoilt, f8, f9, st__law_spoilt_10, test, f1, f2, q_fz, fzz, q_run, q_seq, nx_nx, nx_rt, nx_bk, nx_ct, nx_er, nx_cond, bind_ok, bind_err, bind_cond, sB_ok, sB_err, sB_cond, cond_ok, cond_bool, cond_int, cond_and, cond_or, cond_nand, fin_rt, fin_nx, fin_er, fin_cond, q_nil, q_retN, q_set, q_setF, q_ret, q_retF, q_if, q_retX, q_do, pat_ok, q_pat, q_fz, q_nm, q_tp, q_gcons, q_gnil, q_var0, q_varS, q_own0, q_own1, q_ownS, q_c, q_L, asL_l, q_D, q_B, q_T, asB_b, q_No, q_An, q_Or, q_Ch, q_cN, q_c1, q_2, q_1, q_t2, q_If, q_anil, q_acons, q_tup, q_ap, q_apL, q_apI, q_sl, q_oNo, q_oSo, asO_i, q_ixS, q_m1, q_for, q_add, q_sub, q_neg, q_mul, q_mul', q_div, q_mod, q_p6, q_p9, q_p18, cond_t, cond_f, q_lt, q_le, q_gt, q_ge, q_eqI, q_neI, q_neB, q_eqB, q_neS, q_isN, q_notN, q_notB, q_isB, q_len, q_int, q_intB, q_R1, q_enum, enumD_F, q_abs, q_forN, q_forC, it_ok, lp_nx, lp_rt, q_zip, q_rev, q_rev2, q_R2, q_R3, q_It, asI_l, asI_t, q_vbV, q_vbO, q_vbS, fz_own, fz_val, fz_no, fz_S, q_mx2, q_mn2, q_mx3, q_raiseE, rs_int, lp_er, q_tryE, try_go, q_zip3, q_orT, q_Tr, tr_none, tr_bool, tr_list, List.map_cons, List.map_nil, List.cons_append, List.nil_append, List.length_cons, List.length_nil, List.replicate_succ, List.replicate_zero, List.set_cons_zero, List.set_cons_succ, Nat.reduceSub, Nat.reduceAdd, Nat.zero_add, Nat.sub_self, Nat.sub_zero, List.append_nil, Int.reduceLT, Int.reduceLE, Int.reduceNeg, Int.reducePow, Nat.reduceLT, Nat.reduceLeDiff, and_self, and_true, true_and, if_true, if_false, reduceIte, decide_true, decide_false, Bool.and_true, Bool.true_and, Bool.false_and, Bool.and_false, Bool.or_false, Bool.false_or, Bool.true_or, Bool.or_true, Bool.not_false, Bool.not_true, beq_self_eq_true]
  · have c' : (decide (kind < 2) || (P.map triD).isEmpty) = false := by simpa using c
    rw [c'] at test
    have p0 : P ≠ [] := fun h => by
      rw [h] at c'
      simp at c'
    have pp := pos_len p0
    obtain ⟨k, ekk, kk0, kk1⟩ := mix_eq hd (at' + 1) (m := (P.length : Int)) (by omega)
    have hk : k.toNat < P.length := by omega
    obtain ⟨t, ht⟩ : ∃ t, P[k.toNat]? = some t := ⟨_, List.getElem?_eq_getElem hk⟩
    have ix : dIx (.list (P.map triD)) (.int k) = .ok (triD t) := by
      have := dIx_nat (ds := P.map triD) (j := k.toNat) (d := triD t) (by rw [List.getElem?_map, ht]; rfl)
      rwa [Int.toNat_of_nonneg kk0] at this
    have pt : ∀ A1 A2 A3 A4 A5 A6 A7 B1 B2 B3 A8 A9 : Slot, gTp 3 (gsCons (gNm 7) (gsCons (gNm 8) (gsCons (gNm 9) (gsNil)))) (triD t) [A1, A2, A3, A4, A5, A6, A7, B1, B2, B3, A8, A9] = .ok [A1, A2, A3, A4, A5, A6, A7, .val (.int t.i), .val (.int t.j), .val (.int t.x), A8, A9] := fun _ _ _ _ _ _ _ _ _ _ _ _ => rfl
    obtain ⟨v3, ev3, v30, v31⟩ := mix_eq hd (at' + 3) (m := 8) (by decide)
    obtain ⟨v4, ev4, v40, v41⟩ := mix_eq hd (at' + 3) (m := (P.length : Int)) (by omega)
    obtain ⟨M, hM, hMl⟩ : ∃ M : List Tri, M = [⟨t.i, t.j, -1⟩, ⟨t.i, t.j, 1000000001⟩, ⟨t.j, t.i, t.x⟩, ⟨t.i, t.i, t.x⟩, ⟨-1, t.j, t.x⟩, ⟨t.i, (S.length : Int), t.x⟩, ⟨t.i, t.j, 1000000000⟩, ⟨t.i, t.j, 0⟩] ∧ M.length = 8 := ⟨_, rfl, rfl⟩
    have h11 : st__law_spoilt_11 [.val (.list (dInts ds)), .val (.int at'), .val (numD S P), .own (dInts S), .own (P.map triD), .val (.int kind), .no, .no, .no, .no, .no, .no] = .go .nx [.val (.list (dInts ds)), .val (.int at'), .val (numD S P), .own (dInts S), .own (P.map triD), .val (.int kind), .val (.int k), .no, .no, .no, .no, .no] := by
      generalize numD S P = NN at *
      generalize P.map triD = PP at *
      generalize dInts S = SS at *
      generalize dInts ds = DD at *
      simp -implicitDefEqProofs only [st__law_spoilt_11, ap, lp, ekk, fi, q_run, q_seq, nx_nx, nx_rt, nx_bk, nx_ct, nx_er, nx_cond, bind_ok, bind_err, bind_cond, sB_ok, sB_err, sB_cond, cond_ok, cond_bool, cond_int, cond_and, cond_or, cond_nand, fin_rt, fin_nx, fin_er, fin_cond, q_nil, q_retN, q_set, q_setF, q_ret, q_retF, q_if, q_retX, q_do, pat_ok, q_pat, q_fz, q_nm, q_tp, q_gcons, q_gnil, q_var0, q_varS, q_own0, q_own1, q_ownS, q_c, q_L, asL_l, q_D, q_B, q_T, asB_b, q_No, q_An, q_Or, q_Ch, q_cN, q_c1, q_2, q_1, q_t2, q_If, q_anil, q_acons, q_tup, q_ap, q_apL, q_apI, q_sl, q_oNo, q_oSo, asO_i, q_ixS, q_m1, q_for, q_add, q_sub, q_neg, q_mul, q_mul', q_div, q_mod, q_p6, q_p9, q_p18, cond_t, cond_f, q_lt, q_le, q_gt, q_ge, q_eqI, q_neI, q_neB, q_eqB, q_neS, q_isN, q_notN, q_notB, q_isB, q_len, q_int, q_intB, q_R1, q_enum, enumD_F, q_abs, q_forN, q_forC, it_ok, lp_nx, lp_rt, q_zip, q_rev, q_rev2, q_R2, q_R3, q_It, asI_l, asI_t, q_vbV, q_vbO, q_vbS, fz_own, fz_val, fz_no, fz_S, q_mx2, q_mn2, q_mx3, q_raiseE, rs_int, lp_er, q_tryE, try_go, q_zip3, q_orT, q_Tr, tr_none, tr_bool, tr_list, List.map_cons, List.map_nil, List.cons_append, List.nil_append, List.length_cons, List.length_nil, List.replicate_succ, List.replicate_zero, List.set_cons_zero, List.set_cons_succ, Nat.reduceSub, Nat.reduceAdd, Nat.zero_add, Nat.sub_self, Nat.sub_zero, List.append_nil, Int.reduceLT, Int.reduceLE, Int.reduceNeg, Int.reducePow, Nat.reduceLT, Nat.reduceLeDiff, and_self, and_true, true_and, if_true, if_false, reduceIte, decide_true, decide_false, Bool.and_true, Bool.true_and, Bool.false_and, Bool.and_false, Bool.or_false, Bool.false_or, Bool.true_or, Bool.or_true, Bool.not_false, Bool.not_true, beq_self_eq_true]
    have h12 : st__law_spoilt_12 [.val (.list (dInts ds)), .val (.int at'), .val (numD S P), .own (dInts S), .own (P.map triD), .val (.int kind), .val (.int k), .no, .no, .no, .no, .no] = .go .nx [.val (.list (dInts ds)), .val (.int at'), .val (numD S P), .own (dInts S), .own (P.map triD), .val (.int kind), .val (.int k), .val (.int t.i), .val (.int t.j), .val (.int t.x), .no, .no] := by
      generalize numD S P = NN at *
      generalize P.map triD = PP at *
      generalize dInts S = SS at *
      generalize dInts ds = DD at *
      simp -implicitDefEqProofs only [st__law_spoilt_12, ix, pt, q_run, q_seq, nx_nx, nx_rt, nx_bk, nx_ct, nx_er, nx_cond, bind_ok, bind_err, bind_cond, sB_ok, sB_err, sB_cond, cond_ok, cond_bool, cond_int, cond_and, cond_or, cond_nand, fin_rt, fin_nx, fin_er, fin_cond, q_nil, q_retN, q_set, q_setF, q_ret, q_retF, q_if, q_retX, q_do, pat_ok, q_pat, q_fz, q_nm, q_tp, q_gcons, q_gnil, q_var0, q_varS, q_own0, q_own1, q_ownS, q_c, q_L, asL_l, q_D, q_B, q_T, asB_b, q_No, q_An, q_Or, q_Ch, q_cN, q_c1, q_2, q_1, q_t2, q_If, q_anil, q_acons, q_tup, q_ap, q_apL, q_apI, q_sl, q_oNo, q_oSo, asO_i, q_ixS, q_m1, q_for, q_add, q_sub, q_neg, q_mul, q_mul', q_div, q_mod, q_p6, q_p9, q_p18, cond_t, cond_f, q_lt, q_le, q_gt, q_ge, q_eqI, q_neI, q_neB, q_eqB, q_neS, q_isN, q_notN, q_notB, q_isB, q_len, q_int, q_intB, q_R1, q_enum, enumD_F, q_abs, q_forN, q_forC, it_ok, lp_nx, lp_rt, q_zip, q_rev, q_rev2, q_R2, q_R3, q_It, asI_l, asI_t, q_vbV, q_vbO, q_vbS, fz_own, fz_val, fz_no, fz_S, q_mx2, q_mn2, q_mx3, q_raiseE, rs_int, lp_er, q_tryE, try_go, q_zip3, q_orT, q_Tr, tr_none, tr_bool, tr_list, List.map_cons, List.map_nil, List.cons_append, List.nil_append, List.length_cons, List.length_nil, List.replicate_succ, List.replicate_zero, List.set_cons_zero, List.set_cons_succ, Nat.reduceSub, Nat.reduceAdd, Nat.zero_add, Nat.sub_self, Nat.sub_zero, List.append_nil, Int.reduceLT, Int.reduceLE, Int.reduceNeg, Int.reducePow, Nat.reduceLT, Nat.reduceLeDiff, and_self, and_true, true_and, if_true, if_false, reduceIte, decide_true, decide_false, Bool.and_true, Bool.true_and, Bool.false_and, Bool.and_false, Bool.or_false, Bool.false_or, Bool.true_or, Bool.or_true, Bool.not_false, Bool.not_true, beq_self_eq_true]
    have h13 : st__law_spoilt_13 [.val (.list (dInts ds)), .val (.int at'), .val (numD S P), .own (dInts S), .own (P.map triD), .val (.int kind), .val (.int k), .val (.int t.i), .val (.int t.j), .val (.int t.x), .no, .no] = .go .nx [.val (.list (dInts ds)), .val (.int at'), .val (numD S P), .own (dInts S), .own (P.map triD), .val (.int kind), .val (.int k), .val (.int t.i), .val (.int t.j), .val (.int t.x), .val (.list (M.map triD)), .no] := by
      rw [hM]
      generalize numD S P = NN at *
      generalize P.map triD = PP at *
      generalize dInts S = SS at *
      generalize dInts ds = DD at *
      simp -implicitDefEqProofs only [st__law_spoilt_13, ll, triD, q_run, q_seq, nx_nx, nx_rt, nx_bk, nx_ct, nx_er, nx_cond, bind_ok, bind_err, bind_cond, sB_ok, sB_err, sB_cond, cond_ok, cond_bool, cond_int, cond_and, cond_or, cond_nand, fin_rt, fin_nx, fin_er, fin_cond, q_nil, q_retN, q_set, q_setF, q_ret, q_retF, q_if, q_retX, q_do, pat_ok, q_pat, q_fz, q_nm, q_tp, q_gcons, q_gnil, q_var0, q_varS, q_own0, q_own1, q_ownS, q_c, q_L, asL_l, q_D, q_B, q_T, asB_b, q_No, q_An, q_Or, q_Ch, q_cN, q_c1, q_2, q_1, q_t2, q_If, q_anil, q_acons, q_tup, q_ap, q_apL, q_apI, q_sl, q_oNo, q_oSo, asO_i, q_ixS, q_m1, q_for, q_add, q_sub, q_neg, q_mul, q_mul', q_div, q_mod, q_p6, q_p9, q_p18, cond_t, cond_f, q_lt, q_le, q_gt, q_ge, q_eqI, q_neI, q_neB, q_eqB, q_neS, q_isN, q_notN, q_notB, q_isB, q_len, q_int, q_intB, q_R1, q_enum, enumD_F, q_abs, q_forN, q_forC, it_ok, lp_nx, lp_rt, q_zip, q_rev, q_rev2, q_R2, q_R3, q_It, asI_l, asI_t, q_vbV, q_vbO, q_vbS, fz_own, fz_val, fz_no, fz_S, q_mx2, q_mn2, q_mx3, q_raiseE, rs_int, lp_er, q_tryE, try_go, q_zip3, q_orT, q_Tr, tr_none, tr_bool, tr_list, List.map_cons, List.map_nil, List.cons_append, List.nil_append, List.length_cons, List.length_nil, List.replicate_succ, List.replicate_zero, List.set_cons_zero, List.set_cons_succ, Nat.reduceSub, Nat.reduceAdd, Nat.zero_add, Nat.sub_self, Nat.sub_zero, List.append_nil, Int.reduceLT, Int.reduceLE, Int.reduceNeg, Int.reducePow, Nat.reduceLT, Nat.reduceLeDiff, and_self, and_true, true_and, if_true, if_false, reduceIte, decide_true, decide_false, Bool.and_true, Bool.true_and, Bool.false_and, Bool.and_false, Bool.or_false, Bool.false_or, Bool.true_or, Bool.or_true, Bool.not_false, Bool.not_true, beq_self_eq_true]
    obtain ⟨u, hu⟩ : ∃ u, M[v3.toNat]? = some u := ⟨_, List.getElem?_eq_getElem (by omega)⟩
    have mx : dIx (.list (M.map triD)) (.int v3) = .ok (triD u) := by
      have := dIx_nat (ds := M.map triD) (j := v3.toNat) (d := triD u) (by rw [List.getElem?_map, hu]; rfl)
      rwa [Int.toNat_of_nonneg v30] at this
    have h14 : ∃ (P' : List Tri) (s11 : Slot), st__law_spoilt_14 [.val (.list (dInts ds)), .val (.int at'), .val (numD S P), .own (dInts S), .own (P.map triD), .val (.int kind), .val (.int k), .val (.int t.i), .val (.int t.j), .val (.int t.x), .val (.list (M.map triD)), .no] = .go .nx [.val (.list (dInts ds)), .val (.int at'), .val (numD S P), .own (dInts S), .own (P'.map triD), .val (.int kind), .val (.int k), .val (.int t.i), .val (.int t.j), .val (.int t.x), .val (.list (M.map triD)), s11] ∧ P'.length ≤ P.length + 1 := by
      by_cases c8 : kind < 8
      · refine ⟨P.set k.toNat u, .no, ?_, by rw [List.length_set]; omega⟩
        have h3 : st__law_spoilt_3 [.val (.list (dInts ds)), .val (.int at'), .val (numD S P), .own (dInts S), .own (P.map triD), .val (.int kind), .val (.int k), .val (.int t.i), .val (.int t.j), .val (.int t.x), .val (.list (M.map triD)), .no] = .go .nx [.val (.list (dInts ds)), .val (.int at'), .val (numD S P), .own (dInts S), .own ((P.set k.toNat u).map triD), .val (.int kind), .val (.int k), .val (.int t.i), .val (.int t.j), .val (.int t.x), .val (.list (M.map triD)), .no] := by
          unfold st__law_spoilt_3
          rw [q_setix (ds := P.map triD) (d := triD u) (z := k) (j := k.toNat) (by
            generalize numD S P = NN at *
            generalize P.map triD = PP at *
            generalize M.map triD = MM at *
            generalize dInts S = SS at *
            generalize dInts ds = DD at *
            simp -implicitDefEqProofs only [ev3, mx, q_run, q_seq, nx_nx, nx_rt, nx_bk, nx_ct, nx_er, nx_cond, bind_ok, bind_err, bind_cond, sB_ok, sB_err, sB_cond, cond_ok, cond_bool, cond_int, cond_and, cond_or, cond_nand, fin_rt, fin_nx, fin_er, fin_cond, q_nil, q_retN, q_set, q_setF, q_ret, q_retF, q_if, q_retX, q_do, pat_ok, q_pat, q_fz, q_nm, q_tp, q_gcons, q_gnil, q_var0, q_varS, q_own0, q_own1, q_ownS, q_c, q_L, asL_l, q_D, q_B, q_T, asB_b, q_No, q_An, q_Or, q_Ch, q_cN, q_c1, q_2, q_1, q_t2, q_If, q_anil, q_acons, q_tup, q_ap, q_apL, q_apI, q_sl, q_oNo, q_oSo, asO_i, q_ixS, q_m1, q_for, q_add, q_sub, q_neg, q_mul, q_mul', q_div, q_mod, q_p6, q_p9, q_p18, cond_t, cond_f, q_lt, q_le, q_gt, q_ge, q_eqI, q_neI, q_neB, q_eqB, q_neS, q_isN, q_notN, q_notB, q_isB, q_len, q_int, q_intB, q_R1, q_enum, enumD_F, q_abs, q_forN, q_forC, it_ok, lp_nx, lp_rt, q_zip, q_rev, q_rev2, q_R2, q_R3, q_It, asI_l, asI_t, q_vbV, q_vbO, q_vbS, fz_own, fz_val, fz_no, fz_S, q_mx2, q_mn2, q_mx3, q_raiseE, rs_int, lp_er, q_tryE, try_go, q_zip3, q_orT, q_Tr, tr_none, tr_bool, tr_list, List.map_cons, List.map_nil, List.cons_append, List.nil_append, List.length_cons, List.length_nil, List.replicate_succ, List.replicate_zero, List.set_cons_zero, List.set_cons_succ, Nat.reduceSub, Nat.reduceAdd, Nat.zero_add, Nat.sub_self, Nat.sub_zero, List.append_nil, Int.reduceLT, Int.reduceLE, Int.reduceNeg, Int.reducePow, Nat.reduceLT, Nat.reduceLeDiff, and_self, and_true, true_and, if_true, if_false, reduceIte, decide_true, decide_false, Bool.and_true, Bool.true_and, Bool.false_and, Bool.and_false, Bool.or_false, Bool.false_or, Bool.true_or, Bool.or_true, Bool.not_false, Bool.not_true, beq_self_eq_true]) rfl rfl (by rw [lp]; exact ixN_lt kk0 (by omega)), set_map]
          rfl
        generalize (P.set k.toNat u).map triD = P2 at *
        generalize numD S P = NN at *
        generalize P.map triD = PP at *
        generalize M.map triD = MM at *
        generalize dInts S = SS at *
        generalize dInts ds = DD at *
        simp -implicitDefEqProofs only [st__law_spoilt_14, decide_eq_true c8, h3, q_run, q_seq, nx_nx, nx_rt, nx_bk, nx_ct, nx_er, nx_cond, bind_ok, bind_err, bind_cond, sB_ok, sB_err, sB_cond, cond_ok, cond_bool, cond_int, cond_and, cond_or, cond_nand, fin_rt, fin_nx, fin_er, fin_cond, q_nil, q_retN, q_set, q_setF, q_ret, q_retF, q_if, q_retX, q_do, pat_ok, q_pat, q_fz, q_nm, q_tp, q_gcons, q_gnil, q_var0, q_varS, q_own0, q_own1, q_ownS, q_c, q_L, asL_l, q_D, q_B, q_T, asB_b, q_No, q_An, q_Or, q_Ch, q_cN, q_c1, q_2, q_1, q_t2, q_If, q_anil, q_acons, q_tup, q_ap, q_apL, q_apI, q_sl, q_oNo, q_oSo, asO_i, q_ixS, q_m1, q_for, q_add, q_sub, q_neg, q_mul, q_mul', q_div, q_mod, q_p6, q_p9, q_p18, cond_t, cond_f, q_lt, q_le, q_gt, q_ge, q_eqI, q_neI, q_neB, q_eqB, q_neS, q_isN, q_notN, q_notB, q_isB, q_len, q_int, q_intB, q_R1, q_enum, enumD_F, q_abs, q_forN, q_forC, it_ok, lp_nx, lp_rt, q_zip, q_rev, q_rev2, q_R2, q_R3, q_It, asI_l, asI_t, q_vbV, q_vbO, q_vbS, fz_own, fz_val, fz_no, fz_S, q_mx2, q_mn2, q_mx3, q_raiseE, rs_int, lp_er, q_tryE, try_go, q_zip3, q_orT, q_Tr, tr_none, tr_bool, tr_list, List.map_cons, List.map_nil, List.cons_append, List.nil_append, List.length_cons, List.length_nil, List.replicate_succ, List.replicate_zero, List.set_cons_zero, List.set_cons_succ, Nat.reduceSub, Nat.reduceAdd, Nat.zero_add, Nat.sub_self, Nat.sub_zero, List.append_nil, Int.reduceLT, Int.reduceLE, Int.reduceNeg, Int.reducePow, Nat.reduceLT, Nat.reduceLeDiff, and_self, and_true, true_and, if_true, if_false, reduceIte, decide_true, decide_false, Bool.and_true, Bool.true_and, Bool.false_and, Bool.and_false, Bool.or_false, Bool.false_or, Bool.true_or, Bool.or_true, Bool.not_false, Bool.not_true, beq_self_eq_true]
      · by_cases e8 : kind = 8
        · refine ⟨P.take k.toNat ++ [t] ++ P.drop k.toNat, .no, ?_, by rw [List.length_append, List.length_append, List.length_take, List.length_drop]; simp only [List.length_cons, List.length_nil]; omega⟩
          have h4 : st__law_spoilt_4 [.val (.list (dInts ds)), .val (.int at'), .val (numD S P), .own (dInts S), .own (P.map triD), .val (.int kind), .val (.int k), .val (.int t.i), .val (.int t.j), .val (.int t.x), .val (.list (M.map triD)), .no] = .go .nx [.val (.list (dInts ds)), .val (.int at'), .val (numD S P), .own (dInts S), .own ((P.take k.toNat ++ [t] ++ P.drop k.toNat).map triD), .val (.int kind), .val (.int k), .val (.int t.i), .val (.int t.j), .val (.int t.x), .val (.list (M.map triD)), .no] := by
            unfold st__law_spoilt_4
            rw [q_setF, q_catE (xs := (P.take k.toNat ++ [t]).map triD) (ys := (P.drop k.toNat).map triD) ?_ ?_ ?_, sB_ok, ← List.map_append]
            · rfl
            · rw [q_catE (xs := (P.take k.toNat).map triD) (ys := [triD t]) ?_ ?_ ?_, List.map_append]
              · rfl
              · generalize numD S P = NN at *
                generalize M.map triD = MM at *
                generalize dInts S = SS at *
                generalize dInts ds = DD at *
                have hc : cutD (P.map triD) none (some k) = (P.take k.toNat).map triD := by
                  have := cutD_to (as := P.map triD) k.toNat
                  rw [Int.toNat_of_nonneg kk0] at this
                  rw [this, List.map_take]
                simp -implicitDefEqProofs only [hc, q_run, q_seq, nx_nx, nx_rt, nx_bk, nx_ct, nx_er, nx_cond, bind_ok, bind_err, bind_cond, sB_ok, sB_err, sB_cond, cond_ok, cond_bool, cond_int, cond_and, cond_or, cond_nand, fin_rt, fin_nx, fin_er, fin_cond, q_nil, q_retN, q_set, q_setF, q_ret, q_retF, q_if, q_retX, q_do, pat_ok, q_pat, q_fz, q_nm, q_tp, q_gcons, q_gnil, q_var0, q_varS, q_own0, q_own1, q_ownS, q_c, q_L, asL_l, q_D, q_B, q_T, asB_b, q_No, q_An, q_Or, q_Ch, q_cN, q_c1, q_2, q_1, q_t2, q_If, q_anil, q_acons, q_tup, q_ap, q_apL, q_apI, q_sl, q_oNo, q_oSo, asO_i, q_ixS, q_m1, q_for, q_add, q_sub, q_neg, q_mul, q_mul', q_div, q_mod, q_p6, q_p9, q_p18, cond_t, cond_f, q_lt, q_le, q_gt, q_ge, q_eqI, q_neI, q_neB, q_eqB, q_neS, q_isN, q_notN, q_notB, q_isB, q_len, q_int, q_intB, q_R1, q_enum, enumD_F, q_abs, q_forN, q_forC, it_ok, lp_nx, lp_rt, q_zip, q_rev, q_rev2, q_R2, q_R3, q_It, asI_l, asI_t, q_vbV, q_vbO, q_vbS, fz_own, fz_val, fz_no, fz_S, q_mx2, q_mn2, q_mx3, q_raiseE, rs_int, lp_er, q_tryE, try_go, q_zip3, q_orT, q_Tr, tr_none, tr_bool, tr_list, List.map_cons, List.map_nil, List.cons_append, List.nil_append, List.length_cons, List.length_nil, List.replicate_succ, List.replicate_zero, List.set_cons_zero, List.set_cons_succ, Nat.reduceSub, Nat.reduceAdd, Nat.zero_add, Nat.sub_self, Nat.sub_zero, List.append_nil, Int.reduceLT, Int.reduceLE, Int.reduceNeg, Int.reducePow, Nat.reduceLT, Nat.reduceLeDiff, and_self, and_true, true_and, if_true, if_false, reduceIte, decide_true, decide_false, Bool.and_true, Bool.true_and, Bool.false_and, Bool.and_false, Bool.or_false, Bool.false_or, Bool.true_or, Bool.or_true, Bool.not_false, Bool.not_true, beq_self_eq_true]
              · generalize numD S P = NN at *
                generalize M.map triD = MM at *
                generalize P.map triD = PP at *
                generalize dInts S = SS at *
                generalize dInts ds = DD at *
                simp -implicitDefEqProofs only [ix, q_run, q_seq, nx_nx, nx_rt, nx_bk, nx_ct, nx_er, nx_cond, bind_ok, bind_err, bind_cond, sB_ok, sB_err, sB_cond, cond_ok, cond_bool, cond_int, cond_and, cond_or, cond_nand, fin_rt, fin_nx, fin_er, fin_cond, q_nil, q_retN, q_set, q_setF, q_ret, q_retF, q_if, q_retX, q_do, pat_ok, q_pat, q_fz, q_nm, q_tp, q_gcons, q_gnil, q_var0, q_varS, q_own0, q_own1, q_ownS, q_c, q_L, asL_l, q_D, q_B, q_T, asB_b, q_No, q_An, q_Or, q_Ch, q_cN, q_c1, q_2, q_1, q_t2, q_If, q_anil, q_acons, q_tup, q_ap, q_apL, q_apI, q_sl, q_oNo, q_oSo, asO_i, q_ixS, q_m1, q_for, q_add, q_sub, q_neg, q_mul, q_mul', q_div, q_mod, q_p6, q_p9, q_p18, cond_t, cond_f, q_lt, q_le, q_gt, q_ge, q_eqI, q_neI, q_neB, q_eqB, q_neS, q_isN, q_notN, q_notB, q_isB, q_len, q_int, q_intB, q_R1, q_enum, enumD_F, q_abs, q_forN, q_forC, it_ok, lp_nx, lp_rt, q_zip, q_rev, q_rev2, q_R2, q_R3, q_It, asI_l, asI_t, q_vbV, q_vbO, q_vbS, fz_own, fz_val, fz_no, fz_S, q_mx2, q_mn2, q_mx3, q_raiseE, rs_int, lp_er, q_tryE, try_go, q_zip3, q_orT, q_Tr, tr_none, tr_bool, tr_list, List.map_cons, List.map_nil, List.cons_append, List.nil_append, List.length_cons, List.length_nil, List.replicate_succ, List.replicate_zero, List.set_cons_zero, List.set_cons_succ, Nat.reduceSub, Nat.reduceAdd, Nat.zero_add, Nat.sub_self, Nat.sub_zero, List.append_nil, Int.reduceLT, Int.reduceLE, Int.reduceNeg, Int.reducePow, Nat.reduceLT, Nat.reduceLeDiff, and_self, and_true, true_and, if_true, if_false, reduceIte, decide_true, decide_false, Bool.and_true, Bool.true_and, Bool.false_and, Bool.and_false, Bool.or_false, Bool.false_or, Bool.true_or, Bool.or_true, Bool.not_false, Bool.not_true, beq_self_eq_true]
              · rw [List.length_map, List.length_take]
                simp only [List.length_cons, List.length_nil]
                omega
            · generalize numD S P = NN at *
              generalize M.map triD = MM at *
              generalize dInts S = SS at *
              generalize dInts ds = DD at *
              have hc : cutD (P.map triD) (some k) none = (P.drop k.toNat).map triD := by
                have := cutD_from (as := P.map triD) k.toNat
                rw [Int.toNat_of_nonneg kk0] at this
                rw [this, List.map_drop]
              simp -implicitDefEqProofs only [hc, q_run, q_seq, nx_nx, nx_rt, nx_bk, nx_ct, nx_er, nx_cond, bind_ok, bind_err, bind_cond, sB_ok, sB_err, sB_cond, cond_ok, cond_bool, cond_int, cond_and, cond_or, cond_nand, fin_rt, fin_nx, fin_er, fin_cond, q_nil, q_retN, q_set, q_setF, q_ret, q_retF, q_if, q_retX, q_do, pat_ok, q_pat, q_fz, q_nm, q_tp, q_gcons, q_gnil, q_var0, q_varS, q_own0, q_own1, q_ownS, q_c, q_L, asL_l, q_D, q_B, q_T, asB_b, q_No, q_An, q_Or, q_Ch, q_cN, q_c1, q_2, q_1, q_t2, q_If, q_anil, q_acons, q_tup, q_ap, q_apL, q_apI, q_sl, q_oNo, q_oSo, asO_i, q_ixS, q_m1, q_for, q_add, q_sub, q_neg, q_mul, q_mul', q_div, q_mod, q_p6, q_p9, q_p18, cond_t, cond_f, q_lt, q_le, q_gt, q_ge, q_eqI, q_neI, q_neB, q_eqB, q_neS, q_isN, q_notN, q_notB, q_isB, q_len, q_int, q_intB, q_R1, q_enum, enumD_F, q_abs, q_forN, q_forC, it_ok, lp_nx, lp_rt, q_zip, q_rev, q_rev2, q_R2, q_R3, q_It, asI_l, asI_t, q_vbV, q_vbO, q_vbS, fz_own, fz_val, fz_no, fz_S, q_mx2, q_mn2, q_mx3, q_raiseE, rs_int, lp_er, q_tryE, try_go, q_zip3, q_orT, q_Tr, tr_none, tr_bool, tr_list, List.map_cons, List.map_nil, List.cons_append, List.nil_append, List.length_cons, List.length_nil, List.replicate_succ, List.replicate_zero, List.set_cons_zero, List.set_cons_succ, Nat.reduceSub, Nat.reduceAdd, Nat.zero_add, Nat.sub_self, Nat.sub_zero, List.append_nil, Int.reduceLT, Int.reduceLE, Int.reduceNeg, Int.reducePow, Nat.reduceLT, Nat.reduceLeDiff, and_self, and_true, true_and, if_true, if_false, reduceIte, decide_true, decide_false, Bool.and_true, Bool.true_and, Bool.false_and, Bool.and_false, Bool.or_false, Bool.false_or, Bool.true_or, Bool.or_true, Bool.not_false, Bool.not_true, beq_self_eq_true]
            · rw [List.length_map, List.length_map, List.length_append, List.length_take, List.length_drop]
              simp only [List.length_cons, List.length_nil]
              omega
          generalize (P.take k.toNat ++ [t] ++ P.drop k.toNat).map triD = P2 at *
          generalize numD S P = NN at *
          generalize P.map triD = PP at *
          generalize M.map triD = MM at *
          generalize dInts S = SS at *
          generalize dInts ds = DD at *
          simp -implicitDefEqProofs only [st__law_spoilt_14, st__law_spoilt_7, decide_eq_false c8, show (kind == 8) = true from beq_iff_eq.mpr e8, h4, q_run, q_seq, nx_nx, nx_rt, nx_bk, nx_ct, nx_er, nx_cond, bind_ok, bind_err, bind_cond, sB_ok, sB_err, sB_cond, cond_ok, cond_bool, cond_int, cond_and, cond_or, cond_nand, fin_rt, fin_nx, fin_er, fin_cond, q_nil, q_retN, q_set, q_setF, q_ret, q_retF, q_if, q_retX, q_do, pat_ok, q_pat, q_fz, q_nm, q_tp, q_gcons, q_gnil, q_var0, q_varS, q_own0, q_own1, q_ownS, q_c, q_L, asL_l, q_D, q_B, q_T, asB_b, q_No, q_An, q_Or, q_Ch, q_cN, q_c1, q_2, q_1, q_t2, q_If, q_anil, q_acons, q_tup, q_ap, q_apL, q_apI, q_sl, q_oNo, q_oSo, asO_i, q_ixS, q_m1, q_for, q_add, q_sub, q_neg, q_mul, q_mul', q_div, q_mod, q_p6, q_p9, q_p18, cond_t, cond_f, q_lt, q_le, q_gt, q_ge, q_eqI, q_neI, q_neB, q_eqB, q_neS, q_isN, q_notN, q_notB, q_isB, q_len, q_int, q_intB, q_R1, q_enum, enumD_F, q_abs, q_forN, q_forC, it_ok, lp_nx, lp_rt, q_zip, q_rev, q_rev2, q_R2, q_R3, q_It, asI_l, asI_t, q_vbV, q_vbO, q_vbS, fz_own, fz_val, fz_no, fz_S, q_mx2, q_mn2, q_mx3, q_raiseE, rs_int, lp_er, q_tryE, try_go, q_zip3, q_orT, q_Tr, tr_none, tr_bool, tr_list, List.map_cons, List.map_nil, List.cons_append, List.nil_append, List.length_cons, List.length_nil, List.replicate_succ, List.replicate_zero, List.set_cons_zero, List.set_cons_succ, Nat.reduceSub, Nat.reduceAdd, Nat.zero_add, Nat.sub_self, Nat.sub_zero, List.append_nil, Int.reduceLT, Int.reduceLE, Int.reduceNeg, Int.reducePow, Nat.reduceLT, Nat.reduceLeDiff, and_self, and_true, true_and, if_true, if_false, reduceIte, decide_true, decide_false, Bool.and_true, Bool.true_and, Bool.false_and, Bool.and_false, Bool.or_false, Bool.false_or, Bool.true_or, Bool.or_true, Bool.not_false, Bool.not_true, beq_self_eq_true]
        · obtain ⟨u2, hu2⟩ : ∃ u, P[v4.toNat]? = some u := ⟨_, List.getElem?_eq_getElem (by omega)⟩
          have mx2 : dIx (.list (P.map triD)) (.int v4) = .ok (triD u2) := by
            have := dIx_nat (ds := P.map triD) (j := v4.toNat) (d := triD u2) (by rw [List.getElem?_map, hu2]; rfl)
            rwa [Int.toNat_of_nonneg v40] at this
          refine ⟨(P.set k.toNat u2).set v4.toNat t, .val (.int v4), ?_, by rw [List.length_set, List.length_set]; omega⟩
          have h5 : st__law_spoilt_5 [.val (.list (dInts ds)), .val (.int at'), .val (numD S P), .own (dInts S), .own (P.map triD), .val (.int kind), .val (.int k), .val (.int t.i), .val (.int t.j), .val (.int t.x), .val (.list (M.map triD)), .no] = .go .nx [.val (.list (dInts ds)), .val (.int at'), .val (numD S P), .own (dInts S), .own (P.map triD), .val (.int kind), .val (.int k), .val (.int t.i), .val (.int t.j), .val (.int t.x), .val (.list (M.map triD)), .val (.int v4)] := by
            generalize numD S P = NN at *
            generalize P.map triD = PP at *
            generalize M.map triD = MM at *
            generalize dInts S = SS at *
            generalize dInts ds = DD at *
            simp -implicitDefEqProofs only [st__law_spoilt_5, ap, lp, ev4, fi, q_run, q_seq, nx_nx, nx_rt, nx_bk, nx_ct, nx_er, nx_cond, bind_ok, bind_err, bind_cond, sB_ok, sB_err, sB_cond, cond_ok, cond_bool, cond_int, cond_and, cond_or, cond_nand, fin_rt, fin_nx, fin_er, fin_cond, q_nil, q_retN, q_set, q_setF, q_ret, q_retF, q_if, q_retX, q_do, pat_ok, q_pat, q_fz, q_nm, q_tp, q_gcons, q_gnil, q_var0, q_varS, q_own0, q_own1, q_ownS, q_c, q_L, asL_l, q_D, q_B, q_T, asB_b, q_No, q_An, q_Or, q_Ch, q_cN, q_c1, q_2, q_1, q_t2, q_If, q_anil, q_acons, q_tup, q_ap, q_apL, q_apI, q_sl, q_oNo, q_oSo, asO_i, q_ixS, q_m1, q_for, q_add, q_sub, q_neg, q_mul, q_mul', q_div, q_mod, q_p6, q_p9, q_p18, cond_t, cond_f, q_lt, q_le, q_gt, q_ge, q_eqI, q_neI, q_neB, q_eqB, q_neS, q_isN, q_notN, q_notB, q_isB, q_len, q_int, q_intB, q_R1, q_enum, enumD_F, q_abs, q_forN, q_forC, it_ok, lp_nx, lp_rt, q_zip, q_rev, q_rev2, q_R2, q_R3, q_It, asI_l, asI_t, q_vbV, q_vbO, q_vbS, fz_own, fz_val, fz_no, fz_S, q_mx2, q_mn2, q_mx3, q_raiseE, rs_int, lp_er, q_tryE, try_go, q_zip3, q_orT, q_Tr, tr_none, tr_bool, tr_list, List.map_cons, List.map_nil, List.cons_append, List.nil_append, List.length_cons, List.length_nil, List.replicate_succ, List.replicate_zero, List.set_cons_zero, List.set_cons_succ, Nat.reduceSub, Nat.reduceAdd, Nat.zero_add, Nat.sub_self, Nat.sub_zero, List.append_nil, Int.reduceLT, Int.reduceLE, Int.reduceNeg, Int.reducePow, Nat.reduceLT, Nat.reduceLeDiff, and_self, and_true, true_and, if_true, if_false, reduceIte, decide_true, decide_false, Bool.and_true, Bool.true_and, Bool.false_and, Bool.and_false, Bool.or_false, Bool.false_or, Bool.true_or, Bool.or_true, Bool.not_false, Bool.not_true, beq_self_eq_true]
          have h5b : sSetIx 4 (eVar 6) (eIxS (eOwn 4) (eVar 11)) [.val (.list (dInts ds)), .val (.int at'), .val (numD S P), .own (dInts S), .own (P.map triD), .val (.int kind), .val (.int k), .val (.int t.i), .val (.int t.j), .val (.int t.x), .val (.list (M.map triD)), .val (.int v4)] = .go .nx [.val (.list (dInts ds)), .val (.int at'), .val (numD S P), .own (dInts S), .own ((P.set k.toNat u2).map triD), .val (.int kind), .val (.int k), .val (.int t.i), .val (.int t.j), .val (.int t.x), .val (.list (M.map triD)), .val (.int v4)] := by
            rw [q_setix (ds := P.map triD) (d := triD u2) (z := k) (j := k.toNat) (by
              generalize numD S P = NN at *
              generalize P.map triD = PP at *
              generalize M.map triD = MM at *
              generalize dInts S = SS at *
              generalize dInts ds = DD at *
              simp -implicitDefEqProofs only [mx2, q_run, q_seq, nx_nx, nx_rt, nx_bk, nx_ct, nx_er, nx_cond, bind_ok, bind_err, bind_cond, sB_ok, sB_err, sB_cond, cond_ok, cond_bool, cond_int, cond_and, cond_or, cond_nand, fin_rt, fin_nx, fin_er, fin_cond, q_nil, q_retN, q_set, q_setF, q_ret, q_retF, q_if, q_retX, q_do, pat_ok, q_pat, q_fz, q_nm, q_tp, q_gcons, q_gnil, q_var0, q_varS, q_own0, q_own1, q_ownS, q_c, q_L, asL_l, q_D, q_B, q_T, asB_b, q_No, q_An, q_Or, q_Ch, q_cN, q_c1, q_2, q_1, q_t2, q_If, q_anil, q_acons, q_tup, q_ap, q_apL, q_apI, q_sl, q_oNo, q_oSo, asO_i, q_ixS, q_m1, q_for, q_add, q_sub, q_neg, q_mul, q_mul', q_div, q_mod, q_p6, q_p9, q_p18, cond_t, cond_f, q_lt, q_le, q_gt, q_ge, q_eqI, q_neI, q_neB, q_eqB, q_neS, q_isN, q_notN, q_notB, q_isB, q_len, q_int, q_intB, q_R1, q_enum, enumD_F, q_abs, q_forN, q_forC, it_ok, lp_nx, lp_rt, q_zip, q_rev, q_rev2, q_R2, q_R3, q_It, asI_l, asI_t, q_vbV, q_vbO, q_vbS, fz_own, fz_val, fz_no, fz_S, q_mx2, q_mn2, q_mx3, q_raiseE, rs_int, lp_er, q_tryE, try_go, q_zip3, q_orT, q_Tr, tr_none, tr_bool, tr_list, List.map_cons, List.map_nil, List.cons_append, List.nil_append, List.length_cons, List.length_nil, List.replicate_succ, List.replicate_zero, List.set_cons_zero, List.set_cons_succ, Nat.reduceSub, Nat.reduceAdd, Nat.zero_add, Nat.sub_self, Nat.sub_zero, List.append_nil, Int.reduceLT, Int.reduceLE, Int.reduceNeg, Int.reducePow, Nat.reduceLT, Nat.reduceLeDiff, and_self, and_true, true_and, if_true, if_false, reduceIte, decide_true, decide_false, Bool.and_true, Bool.true_and, Bool.false_and, Bool.and_false, Bool.or_false, Bool.false_or, Bool.true_or, Bool.or_true, Bool.not_false, Bool.not_true, beq_self_eq_true]) rfl rfl (by rw [lp]; exact ixN_lt kk0 (by omega)), set_map]
            rfl
          have h6 : st__law_spoilt_6 [.val (.list (dInts ds)), .val (.int at'), .val (numD S P), .own (dInts S), .own ((P.set k.toNat u2).map triD), .val (.int kind), .val (.int k), .val (.int t.i), .val (.int t.j), .val (.int t.x), .val (.list (M.map triD)), .val (.int v4)] = .go .nx [.val (.list (dInts ds)), .val (.int at'), .val (numD S P), .own (dInts S), .own (((P.set k.toNat u2).set v4.toNat t).map triD), .val (.int kind), .val (.int k), .val (.int t.i), .val (.int t.j), .val (.int t.x), .val (.list (M.map triD)), .val (.int v4)] := by
            unfold st__law_spoilt_6
            rw [q_setix (ds := (P.set k.toNat u2).map triD) (d := triD t) (z := v4) (j := v4.toNat) rfl rfl rfl (by rw [List.length_map, List.length_set]; exact ixN_lt v40 (by omega)), set_map]
            rfl
          generalize ((P.set k.toNat u2).set v4.toNat t).map triD = P3 at *
          generalize (P.set k.toNat u2).map triD = P2 at *
          generalize numD S P = NN at *
          generalize P.map triD = PP at *
          generalize M.map triD = MM at *
          generalize dInts S = SS at *
          generalize dInts ds = DD at *
          simp -implicitDefEqProofs only [st__law_spoilt_14, st__law_spoilt_7, decide_eq_false c8, show (kind == 8) = false from beq_eq_false_iff_ne.mpr e8, h5, h5b, h6, q_run, q_seq, nx_nx, nx_rt, nx_bk, nx_ct, nx_er, nx_cond, bind_ok, bind_err, bind_cond, sB_ok, sB_err, sB_cond, cond_ok, cond_bool, cond_int, cond_and, cond_or, cond_nand, fin_rt, fin_nx, fin_er, fin_cond, q_nil, q_retN, q_set, q_setF, q_ret, q_retF, q_if, q_retX, q_do, pat_ok, q_pat, q_fz, q_nm, q_tp, q_gcons, q_gnil, q_var0, q_varS, q_own0, q_own1, q_ownS, q_c, q_L, asL_l, q_D, q_B, q_T, asB_b, q_No, q_An, q_Or, q_Ch, q_cN, q_c1, q_2, q_1, q_t2, q_If, q_anil, q_acons, q_tup, q_ap, q_apL, q_apI, q_sl, q_oNo, q_oSo, asO_i, q_ixS, q_m1, q_for, q_add, q_sub, q_neg, q_mul, q_mul', q_div, q_mod, q_p6, q_p9, q_p18, cond_t, cond_f, q_lt, q_le, q_gt, q_ge, q_eqI, q_neI, q_neB, q_eqB, q_neS, q_isN, q_notN, q_notB, q_isB, q_len, q_int, q_intB, q_R1, q_enum, enumD_F, q_abs, q_forN, q_forC, it_ok, lp_nx, lp_rt, q_zip, q_rev, q_rev2, q_R2, q_R3, q_It, asI_l, asI_t, q_vbV, q_vbO, q_vbS, fz_own, fz_val, fz_no, fz_S, q_mx2, q_mn2, q_mx3, q_raiseE, rs_int, lp_er, q_tryE, try_go, q_zip3, q_orT, q_Tr, tr_none, tr_bool, tr_list, List.map_cons, List.map_nil, List.cons_append, List.nil_append, List.length_cons, List.length_nil, List.replicate_succ, List.replicate_zero, List.set_cons_zero, List.set_cons_succ, Nat.reduceSub, Nat.reduceAdd, Nat.zero_add, Nat.sub_self, Nat.sub_zero, List.append_nil, Int.reduceLT, Int.reduceLE, Int.reduceNeg, Int.reducePow, Nat.reduceLT, Nat.reduceLeDiff, and_self, and_true, true_and, if_true, if_false, reduceIte, decide_true, decide_false, Bool.and_true, Bool.true_and, Bool.false_and, Bool.and_false, Bool.or_false, Bool.false_or, Bool.true_or, Bool.or_true, Bool.not_false, Bool.not_true, beq_self_eq_true]
    obtain ⟨P', s11, h14, hl⟩ := h14
    refine ⟨S, P', ?_, rfl, hl⟩
    have nd : numD S P' = .tuple [.list (dInts S), .list (P'.map triD)] := rfl
    rw [nd]
    generalize P'.map triD = P2 at *
    generalize numD S P = NN at *
    generalize P.map triD = PP at *
    generalize M.map triD = MM at *
    generalize dInts S = SS at *
    generalize dInts ds = DD at *
    simp -implicitDefEqProofs only [f__law_spoilt, v__law_spoilt, f8, f9, st__law_spoilt_10, test, h11, h12, h13, h14, q_fz, fzz, q_run, q_seq, nx_nx, nx_rt, nx_bk, nx_ct, nx_er, nx_cond, bind_ok, bind_err, bind_cond, sB_ok, sB_err, sB_cond, cond_ok, cond_bool, cond_int, cond_and, cond_or, cond_nand, fin_rt, fin_nx, fin_er, fin_cond, q_nil, q_retN, q_set, q_setF, q_ret, q_retF, q_if, q_retX, q_do, pat_ok, q_pat, q_fz, q_nm, q_tp, q_gcons, q_gnil, q_var0, q_varS, q_own0, q_own1, q_ownS, q_c, q_L, asL_l, q_D, q_B, q_T, asB_b, q_No, q_An, q_Or, q_Ch, q_cN, q_c1, q_2, q_1, q_t2, q_If, q_anil, q_acons, q_tup, q_ap, q_apL, q_apI, q_sl, q_oNo, q_oSo, asO_i, q_ixS, q_m1, q_for, q_add, q_sub, q_neg, q_mul, q_mul', q_div, q_mod, q_p6, q_p9, q_p18, cond_t, cond_f, q_lt, q_le, q_gt, q_ge, q_eqI, q_neI, q_neB, q_eqB, q_neS, q_isN, q_notN, q_notB, q_isB, q_len, q_int, q_intB, q_R1, q_enum, enumD_F, q_abs, q_forN, q_forC, it_ok, lp_nx, lp_rt, q_zip, q_rev, q_rev2, q_R2, q_R3, q_It, asI_l, asI_t, q_vbV, q_vbO, q_vbS, fz_own, fz_val, fz_no, fz_S, q_mx2, q_mn2, q_mx3, q_raiseE, rs_int, lp_er, q_tryE, try_go, q_zip3, q_orT, q_Tr, tr_none, tr_bool, tr_list, List.map_cons, List.map_nil, List.cons_append, List.nil_append, List.length_cons, List.length_nil, List.replicate_succ, List.replicate_zero, List.set_cons_zero, List.set_cons_succ, Nat.reduceSub, Nat.reduceAdd, Nat.zero_add, Nat.sub_self, Nat.sub_zero, List.append_nil, Int.reduceLT, Int.reduceLE, Int.reduceNeg, Int.reducePow, Nat.reduceLT, Nat.reduceLeDiff, and_self, and_true, true_and, if_true, if_false, reduceIte, decide_true, decide_false, Bool.and_true, Bool.true_and, Bool.false_and, Bool.and_false, Bool.or_false, Bool.false_or, Bool.true_or, Bool.or_true, Bool.not_false, Bool.not_true, beq_self_eq_true]
end K27
namespace K27
open PySem PySem.Spec PyProof.Rows L2 VL
/-! ### numbers that are drawn -/
theorem top_eq {ds : List Int} (hd : ∀ d ∈ ds, 0 ≤ d ∧ d < 65536) (k : Int) : ∃ t : Int, f__law_top [.list (dInts ds), .int k] = .ok (.int t) ∧ 1 ≤ t ∧ t ≤ 1000000000 := by
  obtain ⟨v, ev, v0, v1⟩ := mix_eq hd k (m := 6) (by decide)
  obtain ⟨t, et, h1, h2⟩ : ∃ t : Int, dIx (.list [.int 1, .int 2, .int 3, .int 9, .int 1000, .int 1000000000]) (.int v) = .ok (.int t) ∧ 1 ≤ t ∧ t ≤ 1000000000 := by
    have : v = 0 ∨ v = 1 ∨ v = 2 ∨ v = 3 ∨ v = 4 ∨ v = 5 := by omega
    rcases this with rfl | rfl | rfl | rfl | rfl | rfl <;> exact ⟨_, rfl, by decide, by decide⟩
  refine ⟨t, ?_, h1, h2⟩
  generalize dInts ds = DD at *
  simp -implicitDefEqProofs only [f__law_top, v__law_top, ev, et, q_run, q_seq, nx_nx, nx_rt, nx_bk, nx_ct, nx_er, nx_cond, bind_ok, bind_err, bind_cond, sB_ok, sB_err, sB_cond, cond_ok, cond_bool, cond_int, cond_and, cond_or, cond_nand, fin_rt, fin_nx, fin_er, fin_cond, q_nil, q_retN, q_set, q_setF, q_ret, q_retF, q_if, q_retX, q_do, pat_ok, q_pat, q_fz, q_nm, q_tp, q_gcons, q_gnil, q_var0, q_varS, q_own0, q_own1, q_ownS, q_c, q_L, asL_l, q_D, q_B, q_T, asB_b, q_No, q_An, q_Or, q_Ch, q_cN, q_c1, q_2, q_1, q_t2, q_If, q_anil, q_acons, q_tup, q_ap, q_apL, q_apI, q_sl, q_oNo, q_oSo, asO_i, q_ixS, q_m1, q_for, q_add, q_sub, q_neg, q_mul, q_mul', q_div, q_mod, q_p6, q_p9, q_p18, cond_t, cond_f, q_lt, q_le, q_gt, q_ge, q_eqI, q_neI, q_neB, q_eqB, q_neS, q_isN, q_notN, q_notB, q_isB, q_len, q_int, q_intB, q_R1, q_enum, enumD_F, q_abs, q_forN, q_forC, it_ok, lp_nx, lp_rt, q_zip, q_rev, q_rev2, q_R2, q_R3, q_It, asI_l, asI_t, q_vbV, q_vbO, q_vbS, fz_own, fz_val, fz_no, fz_S, q_mx2, q_mn2, q_mx3, q_raiseE, rs_int, lp_er, q_tryE, try_go, q_zip3, q_orT, q_Tr, tr_none, tr_bool, tr_list, List.map_cons, List.map_nil, List.cons_append, List.nil_append, List.length_cons, List.length_nil, List.replicate_succ, List.replicate_zero, List.set_cons_zero, List.set_cons_succ, Nat.reduceSub, Nat.reduceAdd, Nat.zero_add, Nat.sub_self, Nat.sub_zero, List.append_nil, Int.reduceLT, Int.reduceLE, Int.reduceNeg, Int.reducePow, Nat.reduceLT, Nat.reduceLeDiff, and_self, and_true, true_and, if_true, if_false, reduceIte, decide_true, decide_false, Bool.and_true, Bool.true_and, Bool.false_and, Bool.and_false, Bool.or_false, Bool.false_or, Bool.true_or, Bool.or_true, Bool.not_false, Bool.not_true, beq_self_eq_true]
theorem amount_eq {ds : List Int} (hd : ∀ d ∈ ds, 0 ≤ d ∧ d < 65536) (k : Int) {t : Int} (t1 : 1 ≤ t) (t9 : t ≤ 1000000000) : ∃ v : Int, f__law_amount [.list (dInts ds), .int k, .int t] = .ok (.int v) ∧ 0 ≤ v ∧ v ≤ t := by
  by_cases c : t < 60000
  · obtain ⟨v, ev, v0, v1⟩ := mix_eq hd k (m := t + 1) (by omega)
    refine ⟨v, ?_, v0, by omega⟩
    generalize dInts ds = DD at *
    simp -implicitDefEqProofs only [f__law_amount, v__law_amount, decide_eq_true c, ev, q_run, q_seq, nx_nx, nx_rt, nx_bk, nx_ct, nx_er, nx_cond, bind_ok, bind_err, bind_cond, sB_ok, sB_err, sB_cond, cond_ok, cond_bool, cond_int, cond_and, cond_or, cond_nand, fin_rt, fin_nx, fin_er, fin_cond, q_nil, q_retN, q_set, q_setF, q_ret, q_retF, q_if, q_retX, q_do, pat_ok, q_pat, q_fz, q_nm, q_tp, q_gcons, q_gnil, q_var0, q_varS, q_own0, q_own1, q_ownS, q_c, q_L, asL_l, q_D, q_B, q_T, asB_b, q_No, q_An, q_Or, q_Ch, q_cN, q_c1, q_2, q_1, q_t2, q_If, q_anil, q_acons, q_tup, q_ap, q_apL, q_apI, q_sl, q_oNo, q_oSo, asO_i, q_ixS, q_m1, q_for, q_add, q_sub, q_neg, q_mul, q_mul', q_div, q_mod, q_p6, q_p9, q_p18, cond_t, cond_f, q_lt, q_le, q_gt, q_ge, q_eqI, q_neI, q_neB, q_eqB, q_neS, q_isN, q_notN, q_notB, q_isB, q_len, q_int, q_intB, q_R1, q_enum, enumD_F, q_abs, q_forN, q_forC, it_ok, lp_nx, lp_rt, q_zip, q_rev, q_rev2, q_R2, q_R3, q_It, asI_l, asI_t, q_vbV, q_vbO, q_vbS, fz_own, fz_val, fz_no, fz_S, q_mx2, q_mn2, q_mx3, q_raiseE, rs_int, lp_er, q_tryE, try_go, q_zip3, q_orT, q_Tr, tr_none, tr_bool, tr_list, List.map_cons, List.map_nil, List.cons_append, List.nil_append, List.length_cons, List.length_nil, List.replicate_succ, List.replicate_zero, List.set_cons_zero, List.set_cons_succ, Nat.reduceSub, Nat.reduceAdd, Nat.zero_add, Nat.sub_self, Nat.sub_zero, List.append_nil, Int.reduceLT, Int.reduceLE, Int.reduceNeg, Int.reducePow, Nat.reduceLT, Nat.reduceLeDiff, and_self, and_true, true_and, if_true, if_false, reduceIte, decide_true, decide_false, Bool.and_true, Bool.true_and, Bool.false_and, Bool.and_false, Bool.or_false, Bool.false_or, Bool.true_or, Bool.or_true, Bool.not_false, Bool.not_true, beq_self_eq_true]
  · obtain ⟨v, ev, v0, v1⟩ := mix_eq hd k (m := 1001) (by decide)
    have q0 : 0 ≤ t / 1000 := Int.ediv_nonneg (by omega) (by decide)
    have q1 : t / 1000 * 1000 ≤ t := by omega
    have m1 : v * (t / 1000) ≤ 1000 * (t / 1000) := Int.mul_le_mul_of_nonneg_right (by omega) q0
    refine ⟨v * (t / 1000), ?_, Int.mul_nonneg v0 q0, by omega⟩
    have mm : dMul (.int v) (.int (t / 1000)) = .ok (.int (v * (t / 1000))) := q_mul (by omega)
    generalize dInts ds = DD at *
    simp -implicitDefEqProofs only [f__law_amount, v__law_amount, decide_eq_false c, ev, mm, q_run, q_seq, nx_nx, nx_rt, nx_bk, nx_ct, nx_er, nx_cond, bind_ok, bind_err, bind_cond, sB_ok, sB_err, sB_cond, cond_ok, cond_bool, cond_int, cond_and, cond_or, cond_nand, fin_rt, fin_nx, fin_er, fin_cond, q_nil, q_retN, q_set, q_setF, q_ret, q_retF, q_if, q_retX, q_do, pat_ok, q_pat, q_fz, q_nm, q_tp, q_gcons, q_gnil, q_var0, q_varS, q_own0, q_own1, q_ownS, q_c, q_L, asL_l, q_D, q_B, q_T, asB_b, q_No, q_An, q_Or, q_Ch, q_cN, q_c1, q_2, q_1, q_t2, q_If, q_anil, q_acons, q_tup, q_ap, q_apL, q_apI, q_sl, q_oNo, q_oSo, asO_i, q_ixS, q_m1, q_for, q_add, q_sub, q_neg, q_mul, q_mul', q_div, q_mod, q_p6, q_p9, q_p18, cond_t, cond_f, q_lt, q_le, q_gt, q_ge, q_eqI, q_neI, q_neB, q_eqB, q_neS, q_isN, q_notN, q_notB, q_isB, q_len, q_int, q_intB, q_R1, q_enum, enumD_F, q_abs, q_forN, q_forC, it_ok, lp_nx, lp_rt, q_zip, q_rev, q_rev2, q_R2, q_R3, q_It, asI_l, asI_t, q_vbV, q_vbO, q_vbS, fz_own, fz_val, fz_no, fz_S, q_mx2, q_mn2, q_mx3, q_raiseE, rs_int, lp_er, q_tryE, try_go, q_zip3, q_orT, q_Tr, tr_none, tr_bool, tr_list, List.map_cons, List.map_nil, List.cons_append, List.nil_append, List.length_cons, List.length_nil, List.replicate_succ, List.replicate_zero, List.set_cons_zero, List.set_cons_succ, Nat.reduceSub, Nat.reduceAdd, Nat.zero_add, Nat.sub_self, Nat.sub_zero, List.append_nil, Int.reduceLT, Int.reduceLE, Int.reduceNeg, Int.reducePow, Nat.reduceLT, Nat.reduceLeDiff, and_self, and_true, true_and, if_true, if_false, reduceIte, decide_true, decide_false, Bool.and_true, Bool.true_and, Bool.false_and, Bool.and_false, Bool.or_false, Bool.false_or, Bool.true_or, Bool.or_true, Bool.not_false, Bool.not_true, beq_self_eq_true]
def lastP (l : Int × Int) (P : List Tri) : Int × Int := match P.getLast? with
  | some t => (t.i, t.j)
  | none => l
theorem badP_app {n : Nat} {t : Tri} : ∀ (P : List Tri) (l : Int × Int) (k : Nat), badP n l k P = none → okT n t = true → leP t.i t.j (lastP l P).1 (lastP l P).2 = false → badP n l k (P ++ [t]) = none
  | [], l, k, _, h2, h3 => by
    show badP n l k [t] = none
    unfold badP
    have h3' : leP t.i t.j l.1 l.2 = false := h3
    rw [if_pos (by rw [h2, h3']; rfl)]
    rfl
  | u :: P, l, k, h1, h2, h3 => by
    show badP n l k (u :: (P ++ [t])) = none
    unfold badP at h1 ⊢
    split at h1
    · rename_i h
      rw [if_pos h]
      refine badP_app P _ _ h1 h2 ?_
      have : lastP l (u :: P) = lastP (u.i, u.j) P := by
        unfold lastP
        rw [List.getLast?_cons]
        cases P.getLast? <;> rfl
      rwa [this] at h3
    · cases h1
theorem lastP_app (l : Int × Int) (P : List Tri) (t : Tri) : lastP l (P ++ [t]) = (t.i, t.j) := by
  unfold lastP
  rw [List.getLast?_append]
  rfl
theorem badAt_none {α : Type} {p : α → Bool} : ∀ {as : List α} {k : Nat}, (∀ a ∈ as, p a = true) → badAt p k as = none
  | [], _, _ => rfl
  | a :: as, k, h => by
    show (if p a then badAt p (k + 1) as else some k) = none
    rw [if_pos (h a List.mem_cons_self)]
    exact badAt_none fun b hb => h b (List.mem_cons_of_mem _ hb)
theorem badAt_all {α : Type} {p : α → Bool} : ∀ {as : List α} {k : Nat}, badAt p k as = none → ∀ a ∈ as, p a = true
  | [], _, _, a, h => nomatch h
  | b :: as, k, e, a, h => by
    unfold badAt at e
    split at e
    · rename_i hb
      rcases List.mem_cons.mp h with rfl | h
      · exact hb
      · exact badAt_all e a h
    · cases e
theorem badP_all {n : Nat} : ∀ {P : List Tri} {l : Int × Int} {k : Nat}, badP n l k P = none → ∀ t ∈ P, okT n t = true
  | [], _, _, _, t, h => nomatch h
  | u :: P, l, k, e, t, h => by
    unfold badP at e
    split at e
    · rename_i hb
      rcases List.mem_cons.mp h with rfl | h
      · exact (Bool.and_eq_true_iff.mp hb).1
      · exact badP_all e t h
    · cases e
theorem rep_ints (x : Int) : ∀ n : Nat, repD n [PyData.int x] = dInts (List.replicate n x)
  | 0 => rfl
  | n + 1 => by
    have ih := rep_ints x n
    unfold repD at ih ⊢
    rw [List.replicate_succ, List.flatten_cons, ih]
    rfl
section
variable {ds : List Int}
theorem singles_turn (hd : ∀ d ∈ ds, 0 ≤ d ∧ d < 65536) (first : Int) {t : Int} (t1 : 1 ≤ t) (t9 : t ≤ 1000000000) (A2 A4 A8 A9 A10 A11 : Slot) (S : List Int) (few : S.length ≤ 1000) (k : Nat) (s7 : Slot) : ∃ x s7', bl__law_numbers_1 [.val (.list (dInts ds)), .val (.int first), A2, .val (.int t), A4, .own (dInts S), .val (.int (k : Int)), s7, A8, A9, A10, A11] = .go .nx [.val (.list (dInts ds)), .val (.int first), A2, .val (.int t), A4, .own (dInts (S ++ [x])), .val (.int (k : Int)), s7', A8, A9, A10, A11] ∧ okX x = true := by
  obtain ⟨v, ev, v0, v1⟩ := amount_eq hd (first + 3 * (k : Int)) t1 t9
  obtain ⟨w, ew, w0, w1⟩ := mix_eq hd (first + 3 * (k : Int) + 1) (m := 3) (by decide)
  have m3 : ∀ z : Int, dMul (.int 3) (.int z) = .ok (.int (3 * z)) := fun z => q_mul' (by decide)
  obtain ⟨x, ex, x0, x1⟩ : ∃ x, dIx (.list [.int 0, .int (v / 2), .int (v / 5)]) (.int w) = .ok (.int x) ∧ 0 ≤ x ∧ x ≤ 1000000000 := by
    have : w = 0 ∨ w = 1 ∨ w = 2 := by omega
    rcases this with rfl | rfl | rfl
    · exact ⟨0, rfl, by decide, by decide⟩
    · exact ⟨v / 2, rfl, by omega, by omega⟩
    · exact ⟨v / 5, rfl, by omega, by omega⟩
  refine ⟨x, .val (.int v), ?_, by unfold okX; rw [decide_eq_true x0, decide_eq_true x1]; rfl⟩
  unfold bl__law_numbers_1
  rw [seq_go (ρ' := [.val (.list (dInts ds)), .val (.int first), A2, .val (.int t), A4, .own (dInts S), .val (.int (k : Int)), .val (.int v), A8, A9, A10, A11]) (by
    generalize dInts ds = DD at *
    generalize dInts S = SS at *
    simp -implicitDefEqProofs only [st__law_numbers_1, m3, ev, q_run, q_seq, nx_nx, nx_rt, nx_bk, nx_ct, nx_er, nx_cond, bind_ok, bind_err, bind_cond, sB_ok, sB_err, sB_cond, cond_ok, cond_bool, cond_int, cond_and, cond_or, cond_nand, fin_rt, fin_nx, fin_er, fin_cond, q_nil, q_retN, q_set, q_setF, q_ret, q_retF, q_if, q_retX, q_do, pat_ok, q_pat, q_fz, q_nm, q_tp, q_gcons, q_gnil, q_var0, q_varS, q_own0, q_own1, q_ownS, q_c, q_L, asL_l, q_D, q_B, q_T, asB_b, q_No, q_An, q_Or, q_Ch, q_cN, q_c1, q_2, q_1, q_t2, q_If, q_anil, q_acons, q_tup, q_ap, q_apL, q_apI, q_sl, q_oNo, q_oSo, asO_i, q_ixS, q_m1, q_for, q_add, q_sub, q_neg, q_mul, q_mul', q_div, q_mod, q_p6, q_p9, q_p18, cond_t, cond_f, q_lt, q_le, q_gt, q_ge, q_eqI, q_neI, q_neB, q_eqB, q_neS, q_isN, q_notN, q_notB, q_isB, q_len, q_int, q_intB, q_R1, q_enum, enumD_F, q_abs, q_forN, q_forC, it_ok, lp_nx, lp_rt, q_zip, q_rev, q_rev2, q_R2, q_R3, q_It, asI_l, asI_t, q_vbV, q_vbO, q_vbS, fz_own, fz_val, fz_no, fz_S, q_mx2, q_mn2, q_mx3, q_raiseE, rs_int, lp_er, q_tryE, try_go, q_zip3, q_orT, q_Tr, tr_none, tr_bool, tr_list, List.map_cons, List.map_nil, List.cons_append, List.nil_append, List.length_cons, List.length_nil, List.replicate_succ, List.replicate_zero, List.set_cons_zero, List.set_cons_succ, Nat.reduceSub, Nat.reduceAdd, Nat.zero_add, Nat.sub_self, Nat.sub_zero, List.append_nil, Int.reduceLT, Int.reduceLE, Int.reduceNeg, Int.reducePow, Nat.reduceLT, Nat.reduceLeDiff, and_self, and_true, true_and, if_true, if_false, reduceIte, decide_true, decide_false, Bool.and_true, Bool.true_and, Bool.false_and, Bool.and_false, Bool.or_false, Bool.false_or, Bool.true_or, Bool.or_true, Bool.not_false, Bool.not_true, beq_self_eq_true])]
  unfold st__law_numbers_2
  rw [seq_go (q_app (ds := dInts S) (d := .int x) rfl (by
    generalize dInts ds = DD at *
    generalize dInts S = SS at *
    simp -implicitDefEqProofs only [m3, ew, ex, q_run, q_seq, nx_nx, nx_rt, nx_bk, nx_ct, nx_er, nx_cond, bind_ok, bind_err, bind_cond, sB_ok, sB_err, sB_cond, cond_ok, cond_bool, cond_int, cond_and, cond_or, cond_nand, fin_rt, fin_nx, fin_er, fin_cond, q_nil, q_retN, q_set, q_setF, q_ret, q_retF, q_if, q_retX, q_do, pat_ok, q_pat, q_fz, q_nm, q_tp, q_gcons, q_gnil, q_var0, q_varS, q_own0, q_own1, q_ownS, q_c, q_L, asL_l, q_D, q_B, q_T, asB_b, q_No, q_An, q_Or, q_Ch, q_cN, q_c1, q_2, q_1, q_t2, q_If, q_anil, q_acons, q_tup, q_ap, q_apL, q_apI, q_sl, q_oNo, q_oSo, asO_i, q_ixS, q_m1, q_for, q_add, q_sub, q_neg, q_mul, q_mul', q_div, q_mod, q_p6, q_p9, q_p18, cond_t, cond_f, q_lt, q_le, q_gt, q_ge, q_eqI, q_neI, q_neB, q_eqB, q_neS, q_isN, q_notN, q_notB, q_isB, q_len, q_int, q_intB, q_R1, q_enum, enumD_F, q_abs, q_forN, q_forC, it_ok, lp_nx, lp_rt, q_zip, q_rev, q_rev2, q_R2, q_R3, q_It, asI_l, asI_t, q_vbV, q_vbO, q_vbS, fz_own, fz_val, fz_no, fz_S, q_mx2, q_mn2, q_mx3, q_raiseE, rs_int, lp_er, q_tryE, try_go, q_zip3, q_orT, q_Tr, tr_none, tr_bool, tr_list, List.map_cons, List.map_nil, List.cons_append, List.nil_append, List.length_cons, List.length_nil, List.replicate_succ, List.replicate_zero, List.set_cons_zero, List.set_cons_succ, Nat.reduceSub, Nat.reduceAdd, Nat.zero_add, Nat.sub_self, Nat.sub_zero, List.append_nil, Int.reduceLT, Int.reduceLE, Int.reduceNeg, Int.reducePow, Nat.reduceLT, Nat.reduceLeDiff, and_self, and_true, true_and, if_true, if_false, reduceIte, decide_true, decide_false, Bool.and_true, Bool.true_and, Bool.false_and, Bool.and_false, Bool.or_false, Bool.false_or, Bool.true_or, Bool.or_true, Bool.not_false, Bool.not_true, beq_self_eq_true]) (by rw [dInts_len]; unfold lim; omega)), dInts_app]
  rfl
theorem pairs_turn (hd : ∀ d ∈ ds, 0 ≤ d ∧ d < 65536) {n : Nat} {t : Int} (t1 : 1 ≤ t) (t9 : t ≤ 1000000000) (A1 A2 A5 A6 A7 : Slot) (th : Int) (P : List Tri) (few : P.length ≤ 5000) (at' : Int) {i j : Nat} (hi : i < j) (hj : j < n) (ok : badP n (-1, -1) 0 P = none) (la : (lastP (-1, -1) P).1 < (i : Int) ∨ ((lastP (-1, -1) P).1 = (i : Int) ∧ (lastP (-1, -1) P).2 < (j : Int))) :
    ∃ P', bl__law_numbers_2 [.val (.list (dInts ds)), A1, A2, .val (.int t), .val (.int th), A5, A6, A7, .own (P.map triD), .val (.int at'), .val (.int (i : Int)), .val (.int (j : Int))] = .go .nx [.val (.list (dInts ds)), A1, A2, .val (.int t), .val (.int th), A5, A6, A7, .own (P'.map triD), .val (.int (at' + 2)), .val (.int (i : Int)), .val (.int (j : Int))] ∧ badP n (-1, -1) 0 P' = none ∧ P'.length ≤ P.length + 1 ∧ ((lastP (-1, -1) P').1 < (i : Int) ∨ ((lastP (-1, -1) P').1 = (i : Int) ∧ (lastP (-1, -1) P').2 < (j : Int) + 1)) := by
  obtain ⟨v, ev, v0, v1⟩ := mix_eq hd (at' + 2) (m := 4) (by decide)
  obtain ⟨x, ex, x0, x1⟩ := amount_eq hd (at' + 2 + 1) t1 t9
  by_cases c : v < th
  · have oT : okT n ⟨(i : Int), (j : Int), x⟩ = true := by
      unfold okT okX
      simp
      omega
    have le : leP (i : Int) (j : Int) (lastP (-1, -1) P).1 (lastP (-1, -1) P).2 = false := decide_eq_false (by omega)
    refine ⟨P ++ [Tri.mk (i : Int) (j : Int) x], ?_, badP_app P _ _ ok oT le, by rw [List.length_append]; exact Nat.le_refl _, by rw [lastP_app]; dsimp only; omega⟩
    unfold bl__law_numbers_2
    rw [seq_go (show sSet 9 (VL.e2 dAdd (eVar 9) (eC (.int 2))) [.val (.list (dInts ds)), A1, A2, .val (.int t), .val (.int th), A5, A6, A7, .own (P.map triD), .val (.int at'), .val (.int (i : Int)), .val (.int (j : Int))] = .go .nx [.val (.list (dInts ds)), A1, A2, .val (.int t), .val (.int th), A5, A6, A7, .own (P.map triD), .val (.int (at' + 2)), .val (.int (i : Int)), .val (.int (j : Int))] from rfl)]
    have ap : st__law_numbers_3 [.val (.list (dInts ds)), A1, A2, .val (.int t), .val (.int th), A5, A6, A7, .own (P.map triD), .val (.int (at' + 2)), .val (.int (i : Int)), .val (.int (j : Int))] = .go .nx [.val (.list (dInts ds)), A1, A2, .val (.int t), .val (.int th), A5, A6, A7, .own ((P ++ [Tri.mk (i : Int) (j : Int) x]).map triD), .val (.int (at' + 2)), .val (.int (i : Int)), .val (.int (j : Int))] := by
      unfold st__law_numbers_3
      rw [q_app (ds := P.map triD) (d := triD (Tri.mk (i : Int) (j : Int) x)) rfl (by
        unfold triD
        generalize dInts ds = DD at *
        simp -implicitDefEqProofs only [ex, q_run, q_seq, nx_nx, nx_rt, nx_bk, nx_ct, nx_er, nx_cond, bind_ok, bind_err, bind_cond, sB_ok, sB_err, sB_cond, cond_ok, cond_bool, cond_int, cond_and, cond_or, cond_nand, fin_rt, fin_nx, fin_er, fin_cond, q_nil, q_retN, q_set, q_setF, q_ret, q_retF, q_if, q_retX, q_do, pat_ok, q_pat, q_fz, q_nm, q_tp, q_gcons, q_gnil, q_var0, q_varS, q_own0, q_own1, q_ownS, q_c, q_L, asL_l, q_D, q_B, q_T, asB_b, q_No, q_An, q_Or, q_Ch, q_cN, q_c1, q_2, q_1, q_t2, q_If, q_anil, q_acons, q_tup, q_ap, q_apL, q_apI, q_sl, q_oNo, q_oSo, asO_i, q_ixS, q_m1, q_for, q_add, q_sub, q_neg, q_mul, q_mul', q_div, q_mod, q_p6, q_p9, q_p18, cond_t, cond_f, q_lt, q_le, q_gt, q_ge, q_eqI, q_neI, q_neB, q_eqB, q_neS, q_isN, q_notN, q_notB, q_isB, q_len, q_int, q_intB, q_R1, q_enum, enumD_F, q_abs, q_forN, q_forC, it_ok, lp_nx, lp_rt, q_zip, q_rev, q_rev2, q_R2, q_R3, q_It, asI_l, asI_t, q_vbV, q_vbO, q_vbS, fz_own, fz_val, fz_no, fz_S, q_mx2, q_mn2, q_mx3, q_raiseE, rs_int, lp_er, q_tryE, try_go, q_zip3, q_orT, q_Tr, tr_none, tr_bool, tr_list, List.map_cons, List.map_nil, List.cons_append, List.nil_append, List.length_cons, List.length_nil, List.replicate_succ, List.replicate_zero, List.set_cons_zero, List.set_cons_succ, Nat.reduceSub, Nat.reduceAdd, Nat.zero_add, Nat.sub_self, Nat.sub_zero, List.append_nil, Int.reduceLT, Int.reduceLE, Int.reduceNeg, Int.reducePow, Nat.reduceLT, Nat.reduceLeDiff, and_self, and_true, true_and, if_true, if_false, reduceIte, decide_true, decide_false, Bool.and_true, Bool.true_and, Bool.false_and, Bool.and_false, Bool.or_false, Bool.false_or, Bool.true_or, Bool.or_true, Bool.not_false, Bool.not_true, beq_self_eq_true]) (by rw [List.length_map]; unfold lim; omega), show P.map triD ++ [triD (Tri.mk (i : Int) (j : Int) x)] = (P ++ [Tri.mk (i : Int) (j : Int) x]).map triD by rw [List.map_append]; rfl]
      rfl
    generalize (P ++ [Tri.mk (i : Int) (j : Int) x]).map triD = P2 at *
    generalize P.map triD = PP at *
    generalize dInts ds = DD at *
    simp -implicitDefEqProofs only [st__law_numbers_4, ev, decide_eq_true c, ap, q_run, q_seq, nx_nx, nx_rt, nx_bk, nx_ct, nx_er, nx_cond, bind_ok, bind_err, bind_cond, sB_ok, sB_err, sB_cond, cond_ok, cond_bool, cond_int, cond_and, cond_or, cond_nand, fin_rt, fin_nx, fin_er, fin_cond, q_nil, q_retN, q_set, q_setF, q_ret, q_retF, q_if, q_retX, q_do, pat_ok, q_pat, q_fz, q_nm, q_tp, q_gcons, q_gnil, q_var0, q_varS, q_own0, q_own1, q_ownS, q_c, q_L, asL_l, q_D, q_B, q_T, asB_b, q_No, q_An, q_Or, q_Ch, q_cN, q_c1, q_2, q_1, q_t2, q_If, q_anil, q_acons, q_tup, q_ap, q_apL, q_apI, q_sl, q_oNo, q_oSo, asO_i, q_ixS, q_m1, q_for, q_add, q_sub, q_neg, q_mul, q_mul', q_div, q_mod, q_p6, q_p9, q_p18, cond_t, cond_f, q_lt, q_le, q_gt, q_ge, q_eqI, q_neI, q_neB, q_eqB, q_neS, q_isN, q_notN, q_notB, q_isB, q_len, q_int, q_intB, q_R1, q_enum, enumD_F, q_abs, q_forN, q_forC, it_ok, lp_nx, lp_rt, q_zip, q_rev, q_rev2, q_R2, q_R3, q_It, asI_l, asI_t, q_vbV, q_vbO, q_vbS, fz_own, fz_val, fz_no, fz_S, q_mx2, q_mn2, q_mx3, q_raiseE, rs_int, lp_er, q_tryE, try_go, q_zip3, q_orT, q_Tr, tr_none, tr_bool, tr_list, List.map_cons, List.map_nil, List.cons_append, List.nil_append, List.length_cons, List.length_nil, List.replicate_succ, List.replicate_zero, List.set_cons_zero, List.set_cons_succ, Nat.reduceSub, Nat.reduceAdd, Nat.zero_add, Nat.sub_self, Nat.sub_zero, List.append_nil, Int.reduceLT, Int.reduceLE, Int.reduceNeg, Int.reducePow, Nat.reduceLT, Nat.reduceLeDiff, and_self, and_true, true_and, if_true, if_false, reduceIte, decide_true, decide_false, Bool.and_true, Bool.true_and, Bool.false_and, Bool.and_false, Bool.or_false, Bool.false_or, Bool.true_or, Bool.or_true, Bool.not_false, Bool.not_true, beq_self_eq_true]
  · refine ⟨P, ?_, ok, by omega, by omega⟩
    generalize P.map triD = PP at *
    generalize dInts ds = DD at *
    simp -implicitDefEqProofs only [bl__law_numbers_2, st__law_numbers_4, ev, decide_eq_false c, q_run, q_seq, nx_nx, nx_rt, nx_bk, nx_ct, nx_er, nx_cond, bind_ok, bind_err, bind_cond, sB_ok, sB_err, sB_cond, cond_ok, cond_bool, cond_int, cond_and, cond_or, cond_nand, fin_rt, fin_nx, fin_er, fin_cond, q_nil, q_retN, q_set, q_setF, q_ret, q_retF, q_if, q_retX, q_do, pat_ok, q_pat, q_fz, q_nm, q_tp, q_gcons, q_gnil, q_var0, q_varS, q_own0, q_own1, q_ownS, q_c, q_L, asL_l, q_D, q_B, q_T, asB_b, q_No, q_An, q_Or, q_Ch, q_cN, q_c1, q_2, q_1, q_t2, q_If, q_anil, q_acons, q_tup, q_ap, q_apL, q_apI, q_sl, q_oNo, q_oSo, asO_i, q_ixS, q_m1, q_for, q_add, q_sub, q_neg, q_mul, q_mul', q_div, q_mod, q_p6, q_p9, q_p18, cond_t, cond_f, q_lt, q_le, q_gt, q_ge, q_eqI, q_neI, q_neB, q_eqB, q_neS, q_isN, q_notN, q_notB, q_isB, q_len, q_int, q_intB, q_R1, q_enum, enumD_F, q_abs, q_forN, q_forC, it_ok, lp_nx, lp_rt, q_zip, q_rev, q_rev2, q_R2, q_R3, q_It, asI_l, asI_t, q_vbV, q_vbO, q_vbS, fz_own, fz_val, fz_no, fz_S, q_mx2, q_mn2, q_mx3, q_raiseE, rs_int, lp_er, q_tryE, try_go, q_zip3, q_orT, q_Tr, tr_none, tr_bool, tr_list, List.map_cons, List.map_nil, List.cons_append, List.nil_append, List.length_cons, List.length_nil, List.replicate_succ, List.replicate_zero, List.set_cons_zero, List.set_cons_succ, Nat.reduceSub, Nat.reduceAdd, Nat.zero_add, Nat.sub_self, Nat.sub_zero, List.append_nil, Int.reduceLT, Int.reduceLE, Int.reduceNeg, Int.reducePow, Nat.reduceLT, Nat.reduceLeDiff, and_self, and_true, true_and, if_true, if_false, reduceIte, decide_true, decide_false, Bool.and_true, Bool.true_and, Bool.false_and, Bool.and_false, Bool.or_false, Bool.false_or, Bool.true_or, Bool.or_true, Bool.not_false, Bool.not_true, beq_self_eq_true]
theorem row_turn (hd : ∀ d ∈ ds, 0 ≤ d ∧ d < 65536) {n : Nat} (n40 : n ≤ 40) {t : Int} (t1 : 1 ≤ t) (t9 : t ≤ 1000000000) (A1 A5 A6 A7 : Slot) (th : Int) (P : List Tri) (at' : Int) {i : Nat} (hi : i < n) (few : P.length ≤ 40 * i) (ok : badP n (-1, -1) 0 P = none) (la : (lastP (-1, -1) P).1 < (i : Int)) (s11 : Slot) :
    ∃ P' at2 s11', bl__law_numbers_3 [.val (.list (dInts ds)), A1, .val (.int (n : Int)), .val (.int t), .val (.int th), A5, A6, A7, .own (P.map triD), .val (.int at'), .val (.int (i : Int)), s11] = .go .nx [.val (.list (dInts ds)), A1, .val (.int (n : Int)), .val (.int t), .val (.int th), A5, A6, A7, .own (P'.map triD), .val (.int at2), .val (.int (i : Int)), s11'] ∧ badP n (-1, -1) 0 P' = none ∧ P'.length ≤ 40 * (i + 1) ∧ (lastP (-1, -1) P').1 < (i : Int) + 1 := by
  obtain ⟨ρ', e, P', at2, s11', rfl, ok', fe, la'⟩ := forE_ix (g := gNm 11) (body := bl__law_numbers_2) (fun m ρ => ∃ P' at2 s11, ρ = [.val (.list (dInts ds)), A1, .val (.int (n : Int)), .val (.int t), .val (.int th), A5, A6, A7, .own (P'.map triD), .val (.int at2), .val (.int (i : Int)), s11] ∧ badP n (-1, -1) 0 P' = none ∧ P'.length ≤ P.length + m ∧ ((lastP (-1, -1) P').1 < (i : Int) ∨ ((lastP (-1, -1) P').1 = (i : Int) ∧ (lastP (-1, -1) P').2 < (i : Int) + 1 + (m : Int)))) (rngD ((i : Int) + 1) (n - (i + 1))) 0 [.val (.list (dInts ds)), A1, .val (.int (n : Int)), .val (.int t), .val (.int th), A5, A6, A7, .own (P.map triD), .val (.int at'), .val (.int (i : Int)), s11] ⟨P, at', s11, rfl, ok, by omega, .inl la⟩ fun m x hx ρ hI => by
      obtain ⟨P1, at1, s11, rfl, ok1, fe1, la1⟩ := hI
      obtain ⟨hm, rfl⟩ := get_rngD hx
      rw [Nat.zero_add] at fe1 la1
      obtain ⟨P2, e, ok2, fe2, la2⟩ := pairs_turn hd (n := n) t1 t9 A1 (.val (.int (n : Int))) A5 A6 A7 th P1 (by omega) at1 (i := i) (j := i + 1 + m) (by omega) (by omega) ok1 (by push_cast; omega)
      rw [show ((i + 1 + m : Nat) : Int) = (i : Int) + 1 + (m : Int) by omega] at e la2
      exact ⟨_, _, rfl, e, P2, _, _, rfl, ok2, by omega, by push_cast; omega⟩
  refine ⟨P', at2, s11', ?_, ok', by rw [rng_len] at fe; omega, by omega⟩
  have er : rng2 (.int ((i : Int) + 1)) (.int (n : Int)) = .ok (rngD ((i : Int) + 1) (n - (i + 1))) := by
    rw [q_rng2 ⟨by omega, by omega, by unfold lim; omega⟩, show ((n : Int) - ((i : Int) + 1)).toNat = n - (i + 1) by omega]
  generalize P'.map triD = P2 at *
  generalize P.map triD = PP at *
  generalize dInts ds = DD at *
  simp -implicitDefEqProofs only [bl__law_numbers_3, er, e, q_run, q_seq, nx_nx, nx_rt, nx_bk, nx_ct, nx_er, nx_cond, bind_ok, bind_err, bind_cond, sB_ok, sB_err, sB_cond, cond_ok, cond_bool, cond_int, cond_and, cond_or, cond_nand, fin_rt, fin_nx, fin_er, fin_cond, q_nil, q_retN, q_set, q_setF, q_ret, q_retF, q_if, q_retX, q_do, pat_ok, q_pat, q_fz, q_nm, q_tp, q_gcons, q_gnil, q_var0, q_varS, q_own0, q_own1, q_ownS, q_c, q_L, asL_l, q_D, q_B, q_T, asB_b, q_No, q_An, q_Or, q_Ch, q_cN, q_c1, q_2, q_1, q_t2, q_If, q_anil, q_acons, q_tup, q_ap, q_apL, q_apI, q_sl, q_oNo, q_oSo, asO_i, q_ixS, q_m1, q_for, q_add, q_sub, q_neg, q_mul, q_mul', q_div, q_mod, q_p6, q_p9, q_p18, cond_t, cond_f, q_lt, q_le, q_gt, q_ge, q_eqI, q_neI, q_neB, q_eqB, q_neS, q_isN, q_notN, q_notB, q_isB, q_len, q_int, q_intB, q_R1, q_enum, enumD_F, q_abs, q_forN, q_forC, it_ok, lp_nx, lp_rt, q_zip, q_rev, q_rev2, q_R2, q_R3, q_It, asI_l, asI_t, q_vbV, q_vbO, q_vbS, fz_own, fz_val, fz_no, fz_S, q_mx2, q_mn2, q_mx3, q_raiseE, rs_int, lp_er, q_tryE, try_go, q_zip3, q_orT, q_Tr, tr_none, tr_bool, tr_list, List.map_cons, List.map_nil, List.cons_append, List.nil_append, List.length_cons, List.length_nil, List.replicate_succ, List.replicate_zero, List.set_cons_zero, List.set_cons_succ, Nat.reduceSub, Nat.reduceAdd, Nat.zero_add, Nat.sub_self, Nat.sub_zero, List.append_nil, Int.reduceLT, Int.reduceLE, Int.reduceNeg, Int.reducePow, Nat.reduceLT, Nat.reduceLeDiff, and_self, and_true, true_and, if_true, if_false, reduceIte, decide_true, decide_false, Bool.and_true, Bool.true_and, Bool.false_and, Bool.and_false, Bool.or_false, Bool.false_or, Bool.true_or, Bool.or_true, Bool.not_false, Bool.not_true, beq_self_eq_true]
theorem numbers_eq (hd : ∀ d ∈ ds, 0 ≤ d ∧ d < 65536) (first : Int) {m : Nat} (m40 : m ≤ 40) {t : Int} (t1 : 1 ≤ t) (t9 : t ≤ 1000000000) (th : Int) : ∃ S P, f__law_numbers [.list (dInts ds), .int first, .int (m : Int), .int t, .int th] = .ok (numD S P) ∧ S.length = m ∧ badAt okX 0 S = none ∧ badP m (-1, -1) 0 P = none ∧ P.length ≤ 1600 := by
  obtain ⟨ρ1, e1, S, x6, x7, rfl, sl, sok⟩ := forE_ix (g := gNm 6) (body := bl__law_numbers_1) (fun k ρ => ∃ S s6 s7, ρ = [.val (.list (dInts ds)), .val (.int first), .val (.int (m : Int)), .val (.int t), .val (.int th), .own (dInts S), s6, s7, .no, .no, .no, .no] ∧ S.length = k ∧ ∀ x ∈ S, okX x = true) (rngD 0 m) 0 [.val (.list (dInts ds)), .val (.int first), .val (.int (m : Int)), .val (.int t), .val (.int th), .own (dInts []), .no, .no, .no, .no, .no, .no] ⟨[], _, _, rfl, rfl, fun x h => (nomatch h)⟩ fun k x hx ρ hI => by
    obtain ⟨S, s6, s7, rfl, sl, sok⟩ := hI
    obtain ⟨hk, rfl⟩ := get_rngD hx
    rw [Nat.zero_add] at sl
    rw [show (0 : Int) + (k : Int) = (k : Int) by omega]
    obtain ⟨y, z7, e, hy⟩ := singles_turn hd first t1 t9 (.val (.int (m : Int))) (.val (.int th)) .no .no .no .no S (by omega) k s7
    refine ⟨_, _, rfl, e, S ++ [y], _, _, rfl, by rw [List.length_append, sl, Nat.zero_add]; rfl, fun w hw => ?_⟩
    rcases List.mem_append.mp hw with hw | hw
    · exact sok w hw
    · rw [List.mem_singleton.mp hw]; exact hy
  rw [Nat.zero_add, rng_len] at sl
  obtain ⟨ρ2, e2', P, at2, x10, x11, rfl, ok, fe, la⟩ := forE_ix (g := gNm 10) (body := bl__law_numbers_3) (fun i ρ => ∃ P at2 s10 s11, ρ = [.val (.list (dInts ds)), .val (.int first), .val (.int (m : Int)), .val (.int t), .val (.int th), .own (dInts S), x6, x7, .own (P.map triD), .val (.int at2), s10, s11] ∧ badP m (-1, -1) 0 P = none ∧ P.length ≤ 40 * i ∧ (lastP (-1, -1) P).1 < (i : Int)) (rngD 0 m) 0 [.val (.list (dInts ds)), .val (.int first), .val (.int (m : Int)), .val (.int t), .val (.int th), .own (dInts S), x6, x7, .own (([] : List Tri).map triD), .val (.int (first + 3 * (m : Int))), .no, .no] ⟨[], _, _, _, rfl, rfl, Nat.le_refl _, by decide⟩ fun i x hx ρ hI => by
    obtain ⟨P1, at1, s10, s11, rfl, ok1, fe1, la1⟩ := hI
    obtain ⟨hi, rfl⟩ := get_rngD hx
    rw [Nat.zero_add] at fe1 la1
    rw [show (0 : Int) + (i : Int) = (i : Int) by omega]
    obtain ⟨P2, at3, s11', e, ok2, fe2, la2⟩ := row_turn hd m40 t1 t9 (.val (.int first)) (.own (dInts S)) x6 x7 th P1 at1 hi fe1 ok1 la1 s11
    exact ⟨_, _, rfl, e, P2, _, _, _, rfl, ok2, by omega, by push_cast; omega⟩
  rw [Nat.zero_add, rng_len] at fe
  refine ⟨S, P, ?_, sl, badAt_none sok, ok, by omega⟩
  have m3 : ∀ z : Int, dMul (.int 3) (.int z) = .ok (.int (3 * z)) := fun z => q_mul' (by decide)
  have er : rng1 (.int (m : Int)) = .ok (rngD 0 m) := by
    have := q_rng1 (j := (m : Int)) (by unfold lim; omega)
    rwa [Int.toNat_natCast] at this
  rw [show dInts ([] : List Int) = [] from rfl] at e1
  rw [show ([] : List Tri).map triD = [] from rfl] at e2'
  unfold numD
  have fzz : fz 8 (fz 5 [.val (.list (dInts ds)), .val (.int first), .val (.int (m : Int)), .val (.int t), .val (.int th), .own (dInts S), x6, x7, .own (P.map triD), .val (.int at2), x10, x11]) = [.val (.list (dInts ds)), .val (.int first), .val (.int (m : Int)), .val (.int t), .val (.int th), .val (.list (dInts S)), x6, x7, .val (.list (P.map triD)), .val (.int at2), x10, x11] := rfl
  have fzz' : fz 5 (fz 8 [.val (.list (dInts ds)), .val (.int first), .val (.int (m : Int)), .val (.int t), .val (.int th), .own (dInts S), x6, x7, .own (P.map triD), .val (.int at2), x10, x11]) = [.val (.list (dInts ds)), .val (.int first), .val (.int (m : Int)), .val (.int t), .val (.int th), .val (.list (dInts S)), x6, x7, .val (.list (P.map triD)), .val (.int at2), x10, x11] := rfl
  generalize P.map triD = PP at *
  generalize dInts S = SS at *
  generalize dInts ds = DD at *
  simp -implicitDefEqProofs only [f__law_numbers, v__law_numbers, er, e1, m3, e2', q_fz, fzz, fzz', q_run, q_seq, nx_nx, nx_rt, nx_bk, nx_ct, nx_er, nx_cond, bind_ok, bind_err, bind_cond, sB_ok, sB_err, sB_cond, cond_ok, cond_bool, cond_int, cond_and, cond_or, cond_nand, fin_rt, fin_nx, fin_er, fin_cond, q_nil, q_retN, q_set, q_setF, q_ret, q_retF, q_if, q_retX, q_do, pat_ok, q_pat, q_fz, q_nm, q_tp, q_gcons, q_gnil, q_var0, q_varS, q_own0, q_own1, q_ownS, q_c, q_L, asL_l, q_D, q_B, q_T, asB_b, q_No, q_An, q_Or, q_Ch, q_cN, q_c1, q_2, q_1, q_t2, q_If, q_anil, q_acons, q_tup, q_ap, q_apL, q_apI, q_sl, q_oNo, q_oSo, asO_i, q_ixS, q_m1, q_for, q_add, q_sub, q_neg, q_mul, q_mul', q_div, q_mod, q_p6, q_p9, q_p18, cond_t, cond_f, q_lt, q_le, q_gt, q_ge, q_eqI, q_neI, q_neB, q_eqB, q_neS, q_isN, q_notN, q_notB, q_isB, q_len, q_int, q_intB, q_R1, q_enum, enumD_F, q_abs, q_forN, q_forC, it_ok, lp_nx, lp_rt, q_zip, q_rev, q_rev2, q_R2, q_R3, q_It, asI_l, asI_t, q_vbV, q_vbO, q_vbS, fz_own, fz_val, fz_no, fz_S, q_mx2, q_mn2, q_mx3, q_raiseE, rs_int, lp_er, q_tryE, try_go, q_zip3, q_orT, q_Tr, tr_none, tr_bool, tr_list, List.map_cons, List.map_nil, List.cons_append, List.nil_append, List.length_cons, List.length_nil, List.replicate_succ, List.replicate_zero, List.set_cons_zero, List.set_cons_succ, Nat.reduceSub, Nat.reduceAdd, Nat.zero_add, Nat.sub_self, Nat.sub_zero, List.append_nil, Int.reduceLT, Int.reduceLE, Int.reduceNeg, Int.reducePow, Nat.reduceLT, Nat.reduceLeDiff, and_self, and_true, true_and, if_true, if_false, reduceIte, decide_true, decide_false, Bool.and_true, Bool.true_and, Bool.false_and, Bool.and_false, Bool.or_false, Bool.false_or, Bool.true_or, Bool.or_true, Bool.not_false, Bool.not_true, beq_self_eq_true]
theorem repr_nums (S : List Int) (P : List Tri) {n : Nat} (n40 : n ≤ 40) (sok : badAt okX 0 S = none) (s40 : S.length ≤ 40) (pok : badP n (-1, -1) 0 P = none) (pl : P.length ≤ 1600) : gReprA [numD S P] = .ok (.str (numD S P).shown) := by
  have s1 : smalls (dInts S) = true := smalls_map (D := PyData.int) fun x hx => by
    have h := badAt_all sok x hx
    unfold okX at h
    simp at h
    simp only [small, decide_eq_true_eq]
    omega
  have s2 : smalls (P.map triD) = true := smalls_map fun t ht => by
    have h := badP_all pok t ht
    unfold okT okX at h
    simp at h
    simp only [triD, small, smalls, Bool.and_true, Bool.and_eq_true, decide_eq_true_eq]
    omega
  have c1 : cellss (dInts S) ≤ 1 * 40 := Nat.le_trans (cellss_map (D := PyData.int) (k := 1) fun x _ => by simp only [cells]; omega) (by rw [Nat.mul_comm]; omega)
  have c2 : cellss (P.map triD) ≤ 4 * 1600 := Nat.le_trans (cellss_map (D := triD) (k := 4) fun x _ => by simp only [triD, cells, cellss]; omega) (by omega)
  have d1 : PyData.depthAll (dInts S) ≤ 0 := depths_map (D := PyData.int) (k := 0) fun x _ => by simp [PyData.depth]
  have d2 := depths_map (D := triD) (k := 1) (as := P) fun t _ => by simp [triD, PyData.depth, PyData.depthAll]
  unfold numD
  refine q_reprT ?_ ?_ ?_
  · simp only [small, smalls, s1, s2, Bool.and_true]
  · simp only [cells, cellss]
    omega
  · simp only [PyData.depth, PyData.depthAll]
    omega
end
section
variable {ds : List Int}
theorem judged (S : List Int) (P : List Tri) : (faultR S P = .ok .none ∧ dueD S P = .none) ∨ ∃ c n, faultR S P = .err c n ∧ dueD S P = errN (nameOf c) n ∧ (c = "TooMany" ∨ c = "BadNumbers") := by
  unfold faultR dueD
  by_cases c : 40 < S.length
  · rw [if_pos c, if_pos c]
    exact .inr ⟨_, _, rfl, rfl, .inl rfl⟩
  · rw [if_neg c, if_neg c]
    cases badAt okX 0 S with
    | some j => exact .inr ⟨_, _, rfl, rfl, .inr rfl⟩
    | none =>
      dsimp only
      cases badP S.length (-1, -1) 0 P with
      | some j => exact .inr ⟨_, _, rfl, rfl, .inr rfl⟩
      | none => exact .inl ⟨rfl, rfl⟩
theorem same_n : f__law_same [.none, .none] = .ok (.bool true) := same_eq rfl (by show 0 < 8; decide)
theorem isNo_err (nm : Str) (n : Int) : isNo (errN nm n) = false := rfl
/-- what is asked of one spoilt pair of lists -/
theorem asked_all (A D T At M N K Sp s9 s10 : Slot) (S : List Int) (P : List Tri) (fewP : P.length ≤ 10000) (fewS : S.length ≤ 10000) : ∃ s9', sSeq (sSet 9 (eAp f__law_fault (aCons (eVar 8) (aNil)))) (sSeq (st_law_3) (sSeq (st_law_4) (sNil))) [A, D, T, At, M, N, K, Sp, .val (numD S P), s9, s10] = .go .nx [A, D, T, At, M, N, K, Sp, .val (numD S P), s9', s10] := by
  have f := fault_eq S P fewP fewS
  have c := check_numbers_eq S P
  rcases judged S P with ⟨h1, h2⟩ | ⟨cc, n, h1, h2, hc⟩
  · rw [h1] at c
    rw [h2] at f
    have a := asked_ok c
    have sn := same_n
    have nn : isNo PyData.none = true := rfl
    refine ⟨.val .none, ?_⟩
    generalize numD S P = NN at *
    simp -implicitDefEqProofs only [st_law_3, st_law_4, f, a, sn, nn, q_run, q_seq, nx_nx, nx_rt, nx_bk, nx_ct, nx_er, nx_cond, bind_ok, bind_err, bind_cond, sB_ok, sB_err, sB_cond, cond_ok, cond_bool, cond_int, cond_and, cond_or, cond_nand, fin_rt, fin_nx, fin_er, fin_cond, q_nil, q_retN, q_set, q_setF, q_ret, q_retF, q_if, q_retX, q_do, pat_ok, q_pat, q_fz, q_nm, q_tp, q_gcons, q_gnil, q_var0, q_varS, q_own0, q_own1, q_ownS, q_c, q_L, asL_l, q_D, q_B, q_T, asB_b, q_No, q_An, q_Or, q_Ch, q_cN, q_c1, q_2, q_1, q_t2, q_If, q_anil, q_acons, q_tup, q_ap, q_apL, q_apI, q_sl, q_oNo, q_oSo, asO_i, q_ixS, q_m1, q_for, q_add, q_sub, q_neg, q_mul, q_mul', q_div, q_mod, q_p6, q_p9, q_p18, cond_t, cond_f, q_lt, q_le, q_gt, q_ge, q_eqI, q_neI, q_neB, q_eqB, q_neS, q_isN, q_notN, q_notB, q_isB, q_len, q_int, q_intB, q_R1, q_enum, enumD_F, q_abs, q_forN, q_forC, it_ok, lp_nx, lp_rt, q_zip, q_rev, q_rev2, q_R2, q_R3, q_It, asI_l, asI_t, q_vbV, q_vbO, q_vbS, fz_own, fz_val, fz_no, fz_S, q_mx2, q_mn2, q_mx3, q_raiseE, rs_int, lp_er, q_tryE, try_go, q_zip3, q_orT, q_Tr, tr_none, tr_bool, tr_list, List.map_cons, List.map_nil, List.cons_append, List.nil_append, List.length_cons, List.length_nil, List.replicate_succ, List.replicate_zero, List.set_cons_zero, List.set_cons_succ, Nat.reduceSub, Nat.reduceAdd, Nat.zero_add, Nat.sub_self, Nat.sub_zero, List.append_nil, Int.reduceLT, Int.reduceLE, Int.reduceNeg, Int.reducePow, Nat.reduceLT, Nat.reduceLeDiff, and_self, and_true, true_and, if_true, if_false, reduceIte, decide_true, decide_false, Bool.and_true, Bool.true_and, Bool.false_and, Bool.and_false, Bool.or_false, Bool.false_or, Bool.true_or, Bool.or_true, Bool.not_false, Bool.not_true, beq_self_eq_true]
  · rw [h1] at c
    rw [h2] at f
    have a := refuse_eq c hc
    have nn := isNo_err (nameOf cc) n
    refine ⟨.val (errN (nameOf cc) n), ?_⟩
    generalize numD S P = NN at *
    generalize errN (nameOf cc) n = EE at *
    simp -implicitDefEqProofs only [st_law_3, st_law_4, f, a, nn, q_run, q_seq, nx_nx, nx_rt, nx_bk, nx_ct, nx_er, nx_cond, bind_ok, bind_err, bind_cond, sB_ok, sB_err, sB_cond, cond_ok, cond_bool, cond_int, cond_and, cond_or, cond_nand, fin_rt, fin_nx, fin_er, fin_cond, q_nil, q_retN, q_set, q_setF, q_ret, q_retF, q_if, q_retX, q_do, pat_ok, q_pat, q_fz, q_nm, q_tp, q_gcons, q_gnil, q_var0, q_varS, q_own0, q_own1, q_ownS, q_c, q_L, asL_l, q_D, q_B, q_T, asB_b, q_No, q_An, q_Or, q_Ch, q_cN, q_c1, q_2, q_1, q_t2, q_If, q_anil, q_acons, q_tup, q_ap, q_apL, q_apI, q_sl, q_oNo, q_oSo, asO_i, q_ixS, q_m1, q_for, q_add, q_sub, q_neg, q_mul, q_mul', q_div, q_mod, q_p6, q_p9, q_p18, cond_t, cond_f, q_lt, q_le, q_gt, q_ge, q_eqI, q_neI, q_neB, q_eqB, q_neS, q_isN, q_notN, q_notB, q_isB, q_len, q_int, q_intB, q_R1, q_enum, enumD_F, q_abs, q_forN, q_forC, it_ok, lp_nx, lp_rt, q_zip, q_rev, q_rev2, q_R2, q_R3, q_It, asI_l, asI_t, q_vbV, q_vbO, q_vbS, fz_own, fz_val, fz_no, fz_S, q_mx2, q_mn2, q_mx3, q_raiseE, rs_int, lp_er, q_tryE, try_go, q_zip3, q_orT, q_Tr, tr_none, tr_bool, tr_list, List.map_cons, List.map_nil, List.cons_append, List.nil_append, List.length_cons, List.length_nil, List.replicate_succ, List.replicate_zero, List.set_cons_zero, List.set_cons_succ, Nat.reduceSub, Nat.reduceAdd, Nat.zero_add, Nat.sub_self, Nat.sub_zero, List.append_nil, Int.reduceLT, Int.reduceLE, Int.reduceNeg, Int.reducePow, Nat.reduceLT, Nat.reduceLeDiff, and_self, and_true, true_and, if_true, if_false, reduceIte, decide_true, decide_false, Bool.and_true, Bool.true_and, Bool.false_and, Bool.and_false, Bool.or_false, Bool.false_or, Bool.true_or, Bool.or_true, Bool.not_false, Bool.not_true, beq_self_eq_true]
theorem spoil_turn (hd : ∀ d ∈ ds, 0 ≤ d ∧ d < 65536) (A T M K : Slot) (at' : Int) (S : List Int) (P : List Tri) (s0 : S ≠ []) (s40 : S.length ≤ 100) (few : P.length ≤ 1990) (i : Nat) (s8 s9 s10 : Slot) : ∃ s8' s9', bl_law_1 [A, .val (.list (dInts ds)), T, .val (.int at'), M, .val (numD S P), K, .val (.int (i : Int)), s8, s9, s10] = .go .nx [A, .val (.list (dInts ds)), T, .val (.int at'), M, .val (numD S P), K, .val (.int (i : Int)), s8', s9', s10] := by
  have m10 : ∀ z : Int, dMul (.int 10) (.int z) = .ok (.int (10 * z)) := fun z => q_mul' (by decide)
  obtain ⟨S1, P1, e1, l1, k1⟩ := spoilt_eq hd (at' + 1700 + 10 * (i : Int)) S P s0 s40 (by omega)
  have s1 : S1 ≠ [] := fun h => by
    rw [h] at l1
    exact s0 (List.eq_nil_of_length_eq_zero l1.symm)
  obtain ⟨S2, P2, e2', l2, k2⟩ := spoilt_eq hd (at' + 1800 + 10 * (i : Int)) S1 P1 s1 (by omega) (by omega)
  unfold bl_law_1
  have f1 : st_law_2 [A, .val (.list (dInts ds)), T, .val (.int at'), M, .val (numD S P), K, .val (.int (i : Int)), s8, s9, s10] = .go .nx [A, .val (.list (dInts ds)), T, .val (.int at'), M, .val (numD S P), K, .val (.int (i : Int)), .val (numD S1 P1), s9, s10] := by
    generalize numD S P = NN at *
    generalize numD S1 P1 = N1 at *
    generalize dInts ds = DD at *
    simp -implicitDefEqProofs only [st_law_2, m10, e1, q_run, q_seq, nx_nx, nx_rt, nx_bk, nx_ct, nx_er, nx_cond, bind_ok, bind_err, bind_cond, sB_ok, sB_err, sB_cond, cond_ok, cond_bool, cond_int, cond_and, cond_or, cond_nand, fin_rt, fin_nx, fin_er, fin_cond, q_nil, q_retN, q_set, q_setF, q_ret, q_retF, q_if, q_retX, q_do, pat_ok, q_pat, q_fz, q_nm, q_tp, q_gcons, q_gnil, q_var0, q_varS, q_own0, q_own1, q_ownS, q_c, q_L, asL_l, q_D, q_B, q_T, asB_b, q_No, q_An, q_Or, q_Ch, q_cN, q_c1, q_2, q_1, q_t2, q_If, q_anil, q_acons, q_tup, q_ap, q_apL, q_apI, q_sl, q_oNo, q_oSo, asO_i, q_ixS, q_m1, q_for, q_add, q_sub, q_neg, q_mul, q_mul', q_div, q_mod, q_p6, q_p9, q_p18, cond_t, cond_f, q_lt, q_le, q_gt, q_ge, q_eqI, q_neI, q_neB, q_eqB, q_neS, q_isN, q_notN, q_notB, q_isB, q_len, q_int, q_intB, q_R1, q_enum, enumD_F, q_abs, q_forN, q_forC, it_ok, lp_nx, lp_rt, q_zip, q_rev, q_rev2, q_R2, q_R3, q_It, asI_l, asI_t, q_vbV, q_vbO, q_vbS, fz_own, fz_val, fz_no, fz_S, q_mx2, q_mn2, q_mx3, q_raiseE, rs_int, lp_er, q_tryE, try_go, q_zip3, q_orT, q_Tr, tr_none, tr_bool, tr_list, List.map_cons, List.map_nil, List.cons_append, List.nil_append, List.length_cons, List.length_nil, List.replicate_succ, List.replicate_zero, List.set_cons_zero, List.set_cons_succ, Nat.reduceSub, Nat.reduceAdd, Nat.zero_add, Nat.sub_self, Nat.sub_zero, List.append_nil, Int.reduceLT, Int.reduceLE, Int.reduceNeg, Int.reducePow, Nat.reduceLT, Nat.reduceLeDiff, and_self, and_true, true_and, if_true, if_false, reduceIte, decide_true, decide_false, Bool.and_true, Bool.true_and, Bool.false_and, Bool.and_false, Bool.or_false, Bool.false_or, Bool.true_or, Bool.or_true, Bool.not_false, Bool.not_true, beq_self_eq_true]
  rw [seq_go f1]
  by_cases c : (3 : Int) < (i : Int)
  · obtain ⟨s9', e⟩ := asked_all A (.val (.list (dInts ds))) T (.val (.int at')) M (.val (numD S P)) K (.val (.int (i : Int))) s9 s10 S2 P2 (by omega) (by omega)
    refine ⟨.val (numD S2 P2), s9', ?_⟩
    have f2 : sIf (t2 cGt (eVar 7) (eC (.int 3))) (sSeq (st_law_1) (sNil)) (sNil) [A, .val (.list (dInts ds)), T, .val (.int at'), M, .val (numD S P), K, .val (.int (i : Int)), .val (numD S1 P1), s9, s10] = .go .nx [A, .val (.list (dInts ds)), T, .val (.int at'), M, .val (numD S P), K, .val (.int (i : Int)), .val (numD S2 P2), s9, s10] := by
      generalize numD S P = NN at *
      generalize numD S1 P1 = N1 at *
      generalize numD S2 P2 = N2 at *
      generalize dInts ds = DD at *
      simp -implicitDefEqProofs only [st_law_1, decide_eq_true c, m10, e2', q_run, q_seq, nx_nx, nx_rt, nx_bk, nx_ct, nx_er, nx_cond, bind_ok, bind_err, bind_cond, sB_ok, sB_err, sB_cond, cond_ok, cond_bool, cond_int, cond_and, cond_or, cond_nand, fin_rt, fin_nx, fin_er, fin_cond, q_nil, q_retN, q_set, q_setF, q_ret, q_retF, q_if, q_retX, q_do, pat_ok, q_pat, q_fz, q_nm, q_tp, q_gcons, q_gnil, q_var0, q_varS, q_own0, q_own1, q_ownS, q_c, q_L, asL_l, q_D, q_B, q_T, asB_b, q_No, q_An, q_Or, q_Ch, q_cN, q_c1, q_2, q_1, q_t2, q_If, q_anil, q_acons, q_tup, q_ap, q_apL, q_apI, q_sl, q_oNo, q_oSo, asO_i, q_ixS, q_m1, q_for, q_add, q_sub, q_neg, q_mul, q_mul', q_div, q_mod, q_p6, q_p9, q_p18, cond_t, cond_f, q_lt, q_le, q_gt, q_ge, q_eqI, q_neI, q_neB, q_eqB, q_neS, q_isN, q_notN, q_notB, q_isB, q_len, q_int, q_intB, q_R1, q_enum, enumD_F, q_abs, q_forN, q_forC, it_ok, lp_nx, lp_rt, q_zip, q_rev, q_rev2, q_R2, q_R3, q_It, asI_l, asI_t, q_vbV, q_vbO, q_vbS, fz_own, fz_val, fz_no, fz_S, q_mx2, q_mn2, q_mx3, q_raiseE, rs_int, lp_er, q_tryE, try_go, q_zip3, q_orT, q_Tr, tr_none, tr_bool, tr_list, List.map_cons, List.map_nil, List.cons_append, List.nil_append, List.length_cons, List.length_nil, List.replicate_succ, List.replicate_zero, List.set_cons_zero, List.set_cons_succ, Nat.reduceSub, Nat.reduceAdd, Nat.zero_add, Nat.sub_self, Nat.sub_zero, List.append_nil, Int.reduceLT, Int.reduceLE, Int.reduceNeg, Int.reducePow, Nat.reduceLT, Nat.reduceLeDiff, and_self, and_true, true_and, if_true, if_false, reduceIte, decide_true, decide_false, Bool.and_true, Bool.true_and, Bool.false_and, Bool.and_false, Bool.or_false, Bool.false_or, Bool.true_or, Bool.or_true, Bool.not_false, Bool.not_true, beq_self_eq_true]
    rw [seq_go f2]
    exact e
  · obtain ⟨s9', e⟩ := asked_all A (.val (.list (dInts ds))) T (.val (.int at')) M (.val (numD S P)) K (.val (.int (i : Int))) s9 s10 S1 P1 (by omega) (by omega)
    refine ⟨.val (numD S1 P1), s9', ?_⟩
    have f2 : sIf (t2 cGt (eVar 7) (eC (.int 3))) (sSeq (st_law_1) (sNil)) (sNil) [A, .val (.list (dInts ds)), T, .val (.int at'), M, .val (numD S P), K, .val (.int (i : Int)), .val (numD S1 P1), s9, s10] = .go .nx [A, .val (.list (dInts ds)), T, .val (.int at'), M, .val (numD S P), K, .val (.int (i : Int)), .val (numD S1 P1), s9, s10] := by
      generalize numD S P = NN at *
      generalize numD S1 P1 = N1 at *
      generalize dInts ds = DD at *
      simp -implicitDefEqProofs only [decide_eq_false c, q_run, q_seq, nx_nx, nx_rt, nx_bk, nx_ct, nx_er, nx_cond, bind_ok, bind_err, bind_cond, sB_ok, sB_err, sB_cond, cond_ok, cond_bool, cond_int, cond_and, cond_or, cond_nand, fin_rt, fin_nx, fin_er, fin_cond, q_nil, q_retN, q_set, q_setF, q_ret, q_retF, q_if, q_retX, q_do, pat_ok, q_pat, q_fz, q_nm, q_tp, q_gcons, q_gnil, q_var0, q_varS, q_own0, q_own1, q_ownS, q_c, q_L, asL_l, q_D, q_B, q_T, asB_b, q_No, q_An, q_Or, q_Ch, q_cN, q_c1, q_2, q_1, q_t2, q_If, q_anil, q_acons, q_tup, q_ap, q_apL, q_apI, q_sl, q_oNo, q_oSo, asO_i, q_ixS, q_m1, q_for, q_add, q_sub, q_neg, q_mul, q_mul', q_div, q_mod, q_p6, q_p9, q_p18, cond_t, cond_f, q_lt, q_le, q_gt, q_ge, q_eqI, q_neI, q_neB, q_eqB, q_neS, q_isN, q_notN, q_notB, q_isB, q_len, q_int, q_intB, q_R1, q_enum, enumD_F, q_abs, q_forN, q_forC, it_ok, lp_nx, lp_rt, q_zip, q_rev, q_rev2, q_R2, q_R3, q_It, asI_l, asI_t, q_vbV, q_vbO, q_vbS, fz_own, fz_val, fz_no, fz_S, q_mx2, q_mn2, q_mx3, q_raiseE, rs_int, lp_er, q_tryE, try_go, q_zip3, q_orT, q_Tr, tr_none, tr_bool, tr_list, List.map_cons, List.map_nil, List.cons_append, List.nil_append, List.length_cons, List.length_nil, List.replicate_succ, List.replicate_zero, List.set_cons_zero, List.set_cons_succ, Nat.reduceSub, Nat.reduceAdd, Nat.zero_add, Nat.sub_self, Nat.sub_zero, List.append_nil, Int.reduceLT, Int.reduceLE, Int.reduceNeg, Int.reducePow, Nat.reduceLT, Nat.reduceLeDiff, and_self, and_true, true_and, if_true, if_false, reduceIte, decide_true, decide_false, Bool.and_true, Bool.true_and, Bool.false_and, Bool.and_false, Bool.or_false, Bool.false_or, Bool.true_or, Bool.or_true, Bool.not_false, Bool.not_true, beq_self_eq_true]
    rw [seq_go f2]
    exact e
theorem many_eq (hd : ∀ d ∈ ds, 0 ≤ d ∧ d < 65536) (A N K s4 s7 s8 s9 s10 : Slot) (at' : Int) {t : Nat} (ht : t < 4) : ∃ m : Nat, 1 ≤ m ∧ m ≤ 40 ∧ st_law_5 [A, .val (.list (dInts ds)), .val (.int (t : Int)), .val (.int at'), s4, N, K, s7, s8, s9, s10] = .go .nx [A, .val (.list (dInts ds)), .val (.int (t : Int)), .val (.int at'), .val (.int (m : Int)), N, K, s7, s8, s9, s10] := by
  obtain ⟨v1, e1, a1, b1⟩ := mix_eq hd at' (m := 6) (by decide)
  obtain ⟨v2, e2', a2, b2⟩ := mix_eq hd at' (m := 5) (by decide)
  obtain ⟨v3, e3, a3, b3⟩ := mix_eq hd at' (m := 40) (by decide)
  obtain ⟨m, em, m1, m40⟩ : ∃ m : Nat, dIx (.list [.int (1 + v1), .int (3 + v2), .int 40, .int (1 + v3)]) (.int (t : Int)) = .ok (.int (m : Int)) ∧ 1 ≤ m ∧ m ≤ 40 := by
    have : t = 0 ∨ t = 1 ∨ t = 2 ∨ t = 3 := by omega
    rcases this with rfl | rfl | rfl | rfl
    · exact ⟨(1 + v1).toNat, by rw [Int.toNat_of_nonneg (by omega)]; rfl, by omega, by omega⟩
    · exact ⟨(3 + v2).toNat, by rw [Int.toNat_of_nonneg (by omega)]; rfl, by omega, by omega⟩
    · exact ⟨40, rfl, by omega, by omega⟩
    · exact ⟨(1 + v3).toNat, by rw [Int.toNat_of_nonneg (by omega)]; rfl, by omega, by omega⟩
  refine ⟨m, m1, m40, ?_⟩
  generalize dInts ds = DD at *
  simp -implicitDefEqProofs only [st_law_5, e1, e2', e3, em, q_run, q_seq, nx_nx, nx_rt, nx_bk, nx_ct, nx_er, nx_cond, bind_ok, bind_err, bind_cond, sB_ok, sB_err, sB_cond, cond_ok, cond_bool, cond_int, cond_and, cond_or, cond_nand, fin_rt, fin_nx, fin_er, fin_cond, q_nil, q_retN, q_set, q_setF, q_ret, q_retF, q_if, q_retX, q_do, pat_ok, q_pat, q_fz, q_nm, q_tp, q_gcons, q_gnil, q_var0, q_varS, q_own0, q_own1, q_ownS, q_c, q_L, asL_l, q_D, q_B, q_T, asB_b, q_No, q_An, q_Or, q_Ch, q_cN, q_c1, q_2, q_1, q_t2, q_If, q_anil, q_acons, q_tup, q_ap, q_apL, q_apI, q_sl, q_oNo, q_oSo, asO_i, q_ixS, q_m1, q_for, q_add, q_sub, q_neg, q_mul, q_mul', q_div, q_mod, q_p6, q_p9, q_p18, cond_t, cond_f, q_lt, q_le, q_gt, q_ge, q_eqI, q_neI, q_neB, q_eqB, q_neS, q_isN, q_notN, q_notB, q_isB, q_len, q_int, q_intB, q_R1, q_enum, enumD_F, q_abs, q_forN, q_forC, it_ok, lp_nx, lp_rt, q_zip, q_rev, q_rev2, q_R2, q_R3, q_It, asI_l, asI_t, q_vbV, q_vbO, q_vbS, fz_own, fz_val, fz_no, fz_S, q_mx2, q_mn2, q_mx3, q_raiseE, rs_int, lp_er, q_tryE, try_go, q_zip3, q_orT, q_Tr, tr_none, tr_bool, tr_list, List.map_cons, List.map_nil, List.cons_append, List.nil_append, List.length_cons, List.length_nil, List.replicate_succ, List.replicate_zero, List.set_cons_zero, List.set_cons_succ, Nat.reduceSub, Nat.reduceAdd, Nat.zero_add, Nat.sub_self, Nat.sub_zero, List.append_nil, Int.reduceLT, Int.reduceLE, Int.reduceNeg, Int.reducePow, Nat.reduceLT, Nat.reduceLeDiff, and_self, and_true, true_and, if_true, if_false, reduceIte, decide_true, decide_false, Bool.and_true, Bool.true_and, Bool.false_and, Bool.and_false, Bool.or_false, Bool.false_or, Bool.true_or, Bool.or_true, Bool.not_false, Bool.not_true, beq_self_eq_true]
theorem law_turn (hd : ∀ d ∈ ds, 0 ≤ d ∧ d < 65536) (A : Slot) {t : Nat} (ht : t < 4) (s3 s4 s5 s6 s7 s8 s9 s10 : Slot) : ∃ s3' s4' s5' s6' s7' s8' s9', bl_law_2 [A, .val (.list (dInts ds)), .val (.int (t : Int)), s3, s4, s5, s6, s7, s8, s9, s10] = .go .nx [A, .val (.list (dInts ds)), .val (.int (t : Int)), s3', s4', s5', s6', s7', s8', s9', s10] := by
  obtain ⟨at', hat⟩ : ∃ at' : Int, at' = 30 + 2000 * (t : Int) := ⟨_, rfl⟩
  have m2000 : ∀ z : Int, dMul (.int 2000) (.int z) = .ok (.int (2000 * z)) := fun z => q_mul' (by decide)
  obtain ⟨m, m1, m40, f5⟩ := many_eq hd A s5 s6 s4 s7 s8 s9 s10 at' ht
  obtain ⟨tp, et, t1, t9⟩ := top_eq hd (at' + 1)
  obtain ⟨v, ev, v0, v1⟩ := mix_eq hd (at' + 2) (m := 4) (by decide)
  obtain ⟨th, eth, th0, th4⟩ : ∃ th : Int, dIx (.list [.int 4, .int 2, .int 1, .int 3]) (.int v) = .ok (.int th) ∧ 0 ≤ th ∧ th ≤ 4 := by
    have : v = 0 ∨ v = 1 ∨ v = 2 ∨ v = 3 := by omega
    rcases this with rfl | rfl | rfl | rfl <;> exact ⟨_, rfl, by decide, by decide⟩
  obtain ⟨S, P, en, sl, sok, pok, pl⟩ := numbers_eq hd (at' + 10) (m := m) m40 t1 t9 th
  have s0 : S ≠ [] := fun h => by
    rw [h] at sl
    simp at sl
    omega
  have fr : faultR S P = .ok .none := by
    unfold faultR
    rw [if_neg (by omega), sok, sl]
    dsimp only
    rw [pok]
  have ck := check_numbers_eq S P
  rw [fr] at ck
  have ak := asked_ok ck
  have sn := same_n
  have re := repr_nums S P m40 sok (by omega) pok pl
  obtain ⟨ρ', e, x8, x9, s7', rfl⟩ := forE_ix (g := gNm 7) (body := bl_law_1) (fun i ρ => ∃ s8 s9 s7, ρ = [A, .val (.list (dInts ds)), .val (.int (t : Int)), .val (.int at'), .val (.int (m : Int)), .val (numD S P), .val (.str (numD S P).shown), s7, s8, s9, s10]) (rngD 0 6) 0 [A, .val (.list (dInts ds)), .val (.int (t : Int)), .val (.int at'), .val (.int (m : Int)), .val (numD S P), .val (.str (numD S P).shown), s7, s8, s9, s10] ⟨_, _, _, rfl⟩ fun i x hx ρ hI => by
    obtain ⟨y8, y9, y7, rfl⟩ := hI
    obtain ⟨hi, rfl⟩ := get_rngD hx
    rw [show (0 : Int) + (i : Int) = (i : Int) by omega]
    obtain ⟨z8, z9, e⟩ := spoil_turn hd A (.val (.int (t : Int))) (.val (.int (m : Int))) (.val (.str (numD S P).shown)) at' S P s0 (by omega) (by omega) i y8 y9 s10
    exact ⟨_, _, rfl, e, _, _, _, rfl⟩
  refine ⟨.val (.int at'), .val (.int (m : Int)), .val (numD S P), .val (.str (numD S P).shown), s7', x8, x9, ?_⟩
  have r6 : rng1 (.int 6) = .ok (rngD 0 6) := rfl
  generalize (numD S P).shown = SS at *
  have sq : qNe (.str SS) (.str SS) = .ok false := by
    show R.ok (!(SS == SS)) = _
    rw [beq_self_eq_true]
    rfl
  generalize numD S P = NN at *
  generalize dInts ds = DD at *
  unfold bl_law_2
  rw [seq_go (ρ' := [A, .val (.list DD), .val (.int (t : Int)), .val (.int at'), s4, s5, s6, s7, s8, s9, s10]) (by simp -implicitDefEqProofs only [m2000, hat, q_run, q_seq, nx_nx, nx_rt, nx_bk, nx_ct, nx_er, nx_cond, bind_ok, bind_err, bind_cond, sB_ok, sB_err, sB_cond, cond_ok, cond_bool, cond_int, cond_and, cond_or, cond_nand, fin_rt, fin_nx, fin_er, fin_cond, q_nil, q_retN, q_set, q_setF, q_ret, q_retF, q_if, q_retX, q_do, pat_ok, q_pat, q_fz, q_nm, q_tp, q_gcons, q_gnil, q_var0, q_varS, q_own0, q_own1, q_ownS, q_c, q_L, asL_l, q_D, q_B, q_T, asB_b, q_No, q_An, q_Or, q_Ch, q_cN, q_c1, q_2, q_1, q_t2, q_If, q_anil, q_acons, q_tup, q_ap, q_apL, q_apI, q_sl, q_oNo, q_oSo, asO_i, q_ixS, q_m1, q_for, q_add, q_sub, q_neg, q_mul, q_mul', q_div, q_mod, q_p6, q_p9, q_p18, cond_t, cond_f, q_lt, q_le, q_gt, q_ge, q_eqI, q_neI, q_neB, q_eqB, q_neS, q_isN, q_notN, q_notB, q_isB, q_len, q_int, q_intB, q_R1, q_enum, enumD_F, q_abs, q_forN, q_forC, it_ok, lp_nx, lp_rt, q_zip, q_rev, q_rev2, q_R2, q_R3, q_It, asI_l, asI_t, q_vbV, q_vbO, q_vbS, fz_own, fz_val, fz_no, fz_S, q_mx2, q_mn2, q_mx3, q_raiseE, rs_int, lp_er, q_tryE, try_go, q_zip3, q_orT, q_Tr, tr_none, tr_bool, tr_list, List.map_cons, List.map_nil, List.cons_append, List.nil_append, List.length_cons, List.length_nil, List.replicate_succ, List.replicate_zero, List.set_cons_zero, List.set_cons_succ, Nat.reduceSub, Nat.reduceAdd, Nat.zero_add, Nat.sub_self, Nat.sub_zero, List.append_nil, Int.reduceLT, Int.reduceLE, Int.reduceNeg, Int.reducePow, Nat.reduceLT, Nat.reduceLeDiff, and_self, and_true, true_and, if_true, if_false, reduceIte, decide_true, decide_false, Bool.and_true, Bool.true_and, Bool.false_and, Bool.and_false, Bool.or_false, Bool.false_or, Bool.true_or, Bool.or_true, Bool.not_false, Bool.not_true, beq_self_eq_true]), seq_go f5]
  simp -implicitDefEqProofs only [st_law_6, st_law_7, st_law_8, et, ev, eth, en, re, ak, sn, r6, e, sq, q_run, q_seq, nx_nx, nx_rt, nx_bk, nx_ct, nx_er, nx_cond, bind_ok, bind_err, bind_cond, sB_ok, sB_err, sB_cond, cond_ok, cond_bool, cond_int, cond_and, cond_or, cond_nand, fin_rt, fin_nx, fin_er, fin_cond, q_nil, q_retN, q_set, q_setF, q_ret, q_retF, q_if, q_retX, q_do, pat_ok, q_pat, q_fz, q_nm, q_tp, q_gcons, q_gnil, q_var0, q_varS, q_own0, q_own1, q_ownS, q_c, q_L, asL_l, q_D, q_B, q_T, asB_b, q_No, q_An, q_Or, q_Ch, q_cN, q_c1, q_2, q_1, q_t2, q_If, q_anil, q_acons, q_tup, q_ap, q_apL, q_apI, q_sl, q_oNo, q_oSo, asO_i, q_ixS, q_m1, q_for, q_add, q_sub, q_neg, q_mul, q_mul', q_div, q_mod, q_p6, q_p9, q_p18, cond_t, cond_f, q_lt, q_le, q_gt, q_ge, q_eqI, q_neI, q_neB, q_eqB, q_neS, q_isN, q_notN, q_notB, q_isB, q_len, q_int, q_intB, q_R1, q_enum, enumD_F, q_abs, q_forN, q_forC, it_ok, lp_nx, lp_rt, q_zip, q_rev, q_rev2, q_R2, q_R3, q_It, asI_l, asI_t, q_vbV, q_vbO, q_vbS, fz_own, fz_val, fz_no, fz_S, q_mx2, q_mn2, q_mx3, q_raiseE, rs_int, lp_er, q_tryE, try_go, q_zip3, q_orT, q_Tr, tr_none, tr_bool, tr_list, List.map_cons, List.map_nil, List.cons_append, List.nil_append, List.length_cons, List.length_nil, List.replicate_succ, List.replicate_zero, List.set_cons_zero, List.set_cons_succ, Nat.reduceSub, Nat.reduceAdd, Nat.zero_add, Nat.sub_self, Nat.sub_zero, List.append_nil, Int.reduceLT, Int.reduceLE, Int.reduceNeg, Int.reducePow, Nat.reduceLT, Nat.reduceLeDiff, and_self, and_true, true_and, if_true, if_false, reduceIte, decide_true, decide_false, Bool.and_true, Bool.true_and, Bool.false_and, Bool.and_false, Bool.or_false, Bool.false_or, Bool.true_or, Bool.or_true, Bool.not_false, Bool.not_true, beq_self_eq_true]
theorem law_is : ∀ ns : List Int, ns.length ≤ 63 → f_law [.list (dInts ns)] = .ok (.bool true) := fun ns hn => by
  obtain ⟨ds, ed, hd⟩ := draws_eq ns hn
  obtain ⟨ρ', e, x3, x4, x5, x6, x7, x8, x9, s2, rfl⟩ := forE_ix (g := gNm 2) (body := bl_law_2) (fun i ρ => ∃ s3 s4 s5 s6 s7 s8 s9 s2, ρ = [.val (.list (dInts ns)), .val (.list (dInts ds)), s2, s3, s4, s5, s6, s7, s8, s9, .no]) (rngD 0 4) 0 [.val (.list (dInts ns)), .val (.list (dInts ds)), .no, .no, .no, .no, .no, .no, .no, .no, .no] ⟨_, _, _, _, _, _, _, _, rfl⟩ fun i x hx ρ hI => by
    obtain ⟨y3, y4, y5, y6, y7, y8, y9, y2, rfl⟩ := hI
    obtain ⟨hi, rfl⟩ := get_rngD hx
    rw [show (0 : Int) + (i : Int) = (i : Int) by omega]
    obtain ⟨z3, z4, z5, z6, z7, z8, z9, e⟩ := law_turn hd (.val (.list (dInts ns))) hi y3 y4 y5 y6 y7 y8 y9 .no
    exact ⟨_, _, rfl, e, _, _, _, _, _, _, _, _, rfl⟩
  obtain ⟨v, ev, v0, v1⟩ := mix_eq hd 3 (m := 20) (by decide)
  obtain ⟨m, hm⟩ : ∃ m : Nat, 41 + v = (m : Int) := ⟨(41 + v).toNat, (Int.toNat_of_nonneg (by omega)).symm⟩
  have r4 : rng1 (.int 4) = .ok (rngD 0 4) := rfl
  have big : ∀ (S : List Int) (P : List Tri), 40 < S.length → f_check_numbers [numD S P] = .err "TooMany" S.length := fun S P h => by
    rw [check_numbers_eq]
    unfold faultR
    rw [if_pos h]
  have rp : ∀ (x : Int) (ρ : En), eRep (aCons (eC (.int x)) (aNil)) (eVar 10) ([.val (.list (dInts ns)), .val (.list (dInts ds)), s2, x3, x4, x5, x6, x7, x8, x9, .val (.int (m : Int))]) = .ok (dInts (List.replicate m x)) := fun x ρ => by
    unfold eRep
    rw [show aCons (eC (.int x)) (aNil) [.val (.list (dInts ns)), .val (.list (dInts ds)), s2, x3, x4, x5, x6, x7, x8, x9, .val (.int (m : Int))] = .ok [.int x] from rfl, bind_ok, show (eVar 10) [.val (.list (dInts ns)), .val (.list (dInts ds)), s2, x3, x4, x5, x6, x7, x8, x9, .val (.int (m : Int))] = .ok (.int (m : Int)) from rfl, bind_ok]
    dsimp only
    rw [if_pos ⟨by omega, by omega, by simp only [List.length_cons, List.length_nil, Int.toNat_natCast]; unfold lim; omega⟩, Int.toNat_natCast]
    rw [rep_ints]
  have rp40 : ∀ (ρ : En), eRep (aCons (eC (.int 0)) (aNil)) (eC (.int 40)) ρ = .ok (dInts (List.replicate 40 0)) := fun ρ => by
    unfold eRep
    rw [show aCons (eC (.int 0)) (aNil) ρ = .ok [.int 0] from rfl, bind_ok, show (eC (.int 40)) ρ = .ok (.int 40) from rfl, bind_ok]
    dsimp only
    rw [if_pos ⟨by decide, by decide, by simp only [List.length_cons, List.length_nil]; unfold lim; decide⟩]
    rw [show (40 : Int).toNat = 40 from rfl, rep_ints]
  have c1 := refuse_eq (big (List.replicate m 0) [] (by rw [List.length_replicate]; omega)) (.inl rfl)
  have c2 := refuse_eq (big (List.replicate 40 0 ++ [-1]) [⟨0, 1, -1⟩] (by decide)) (.inl rfl)
  have c3 := refuse_eq (big (List.replicate m (-1)) [⟨1, 0, 5⟩] (by rw [List.length_replicate]; omega)) (.inl rfl)
  have c4 := refuse_eq (D := numD [3, 4] [⟨0, 1, -1⟩]) (c := "BadNumbers") (n := 2) (by rw [check_numbers_eq]; rfl) (.inr rfl)
  have c5 := refuse_eq (D := numD [3, -4] [⟨1, 0, 5⟩]) (c := "BadNumbers") (n := 1) (by rw [check_numbers_eq]; rfl) (.inr rfl)
  have c6 := asked_ok (D := numD [] []) (by rw [check_numbers_eq]; rfl)
  have sn := same_n
  have lr : ∀ x : Int, (dInts (List.replicate m x)).length = m := fun x => by rw [dInts_len, List.length_replicate]
  have turn : ∀ (S : List Int) (P : List Tri), 40 < S.length → S.length ≤ 100 → ∀ s8 : Slot, bl_law_3 [.val (.list (dInts ns)), .val (.list (dInts ds)), s2, x3, x4, x5, x6, x7, .val (numD S P), x9, .val (.int (m : Int))] = .go .nx [.val (.list (dInts ns)), .val (.list (dInts ds)), s2, x3, x4, x5, x6, x7, .val (numD S P), x9, .val (.int (m : Int))] := fun S P h h2 s8 => by
    have c := refuse_eq (big S P h) (.inl rfl)
    have n0 : dIx (numD S P) (.int 0) = .ok (.list (dInts S)) := ix0
    have ll : (dInts S).length = S.length := dInts_len
    have en : errN (nameOf "TooMany") S.length = .tuple [.str "error", .str "many", .int S.length] := rfl
    rw [en] at c
    generalize numD S P = NN at *
    generalize dInts S = SS at *
    generalize dInts ds = DD at *
    generalize dInts ns = NS at *
    simp -implicitDefEqProofs only [bl_law_3, st_law_9, n0, ll, c, q_run, q_seq, nx_nx, nx_rt, nx_bk, nx_ct, nx_er, nx_cond, bind_ok, bind_err, bind_cond, sB_ok, sB_err, sB_cond, cond_ok, cond_bool, cond_int, cond_and, cond_or, cond_nand, fin_rt, fin_nx, fin_er, fin_cond, q_nil, q_retN, q_set, q_setF, q_ret, q_retF, q_if, q_retX, q_do, pat_ok, q_pat, q_fz, q_nm, q_tp, q_gcons, q_gnil, q_var0, q_varS, q_own0, q_own1, q_ownS, q_c, q_L, asL_l, q_D, q_B, q_T, asB_b, q_No, q_An, q_Or, q_Ch, q_cN, q_c1, q_2, q_1, q_t2, q_If, q_anil, q_acons, q_tup, q_ap, q_apL, q_apI, q_sl, q_oNo, q_oSo, asO_i, q_ixS, q_m1, q_for, q_add, q_sub, q_neg, q_mul, q_mul', q_div, q_mod, q_p6, q_p9, q_p18, cond_t, cond_f, q_lt, q_le, q_gt, q_ge, q_eqI, q_neI, q_neB, q_eqB, q_neS, q_isN, q_notN, q_notB, q_isB, q_len, q_int, q_intB, q_R1, q_enum, enumD_F, q_abs, q_forN, q_forC, it_ok, lp_nx, lp_rt, q_zip, q_rev, q_rev2, q_R2, q_R3, q_It, asI_l, asI_t, q_vbV, q_vbO, q_vbS, fz_own, fz_val, fz_no, fz_S, q_mx2, q_mn2, q_mx3, q_raiseE, rs_int, lp_er, q_tryE, try_go, q_zip3, q_orT, q_Tr, tr_none, tr_bool, tr_list, List.map_cons, List.map_nil, List.cons_append, List.nil_append, List.length_cons, List.length_nil, List.replicate_succ, List.replicate_zero, List.set_cons_zero, List.set_cons_succ, Nat.reduceSub, Nat.reduceAdd, Nat.zero_add, Nat.sub_self, Nat.sub_zero, List.append_nil, Int.reduceLT, Int.reduceLE, Int.reduceNeg, Int.reducePow, Nat.reduceLT, Nat.reduceLeDiff, and_self, and_true, true_and, if_true, if_false, reduceIte, decide_true, decide_false, Bool.and_true, Bool.true_and, Bool.false_and, Bool.and_false, Bool.or_false, Bool.false_or, Bool.true_or, Bool.or_true, Bool.not_false, Bool.not_true, beq_self_eq_true]
  have f11 : st_law_11 [.val (.list (dInts ns)), .val (.list (dInts ds)), s2, x3, x4, x5, x6, x7, x8, x9, .val (.int (m : Int))] = .go .nx [.val (.list (dInts ns)), .val (.list (dInts ds)), s2, x3, x4, x5, x6, x7, .val (numD (List.replicate m (-1)) [⟨1, 0, 5⟩]), x9, .val (.int (m : Int))] := by
    unfold st_law_11
    refine q_for' (ds := [numD (List.replicate m 0) [], numD (List.replicate 40 0 ++ [-1]) [⟨0, 1, -1⟩], numD (List.replicate m (-1)) [⟨1, 0, 5⟩]]) ?_ ?_
    · have rp0 := rp 0 []
      have rp1 := rp (-1) []
      have cat : eCat (eRep (aCons (eC (.int 0)) (aNil)) (eC (.int 40))) (aCons (e1 dNeg (eC (.int 1))) (aNil)) [.val (.list (dInts ns)), .val (.list (dInts ds)), s2, x3, x4, x5, x6, x7, x8, x9, .val (.int (m : Int))] = .ok (dInts (List.replicate 40 0 ++ [-1])) := by
        rw [q_catE (xs := dInts (List.replicate 40 0)) (ys := [.int (-1)]) (rp40 _) rfl (by rw [dInts_len, List.length_replicate]; simp only [List.length_cons, List.length_nil]; omega), dInts_app]
      have rneg : eRep (aCons (e1 dNeg (eC (.int 1))) (aNil)) (eVar 10) ([.val (.list (dInts ns)), .val (.list (dInts ds)), s2, x3, x4, x5, x6, x7, x8, x9, .val (.int (m : Int))]) = .ok (dInts (List.replicate m (-1))) := rp1
      unfold numD
      generalize dInts (List.replicate 40 0 ++ [-1]) = L1 at *
      generalize dInts (List.replicate m 0) = L0 at *
      generalize dInts (List.replicate m (-1)) = L2' at *
      simp -implicitDefEqProofs only [rp0, rneg, cat, triD, q_run, q_seq, nx_nx, nx_rt, nx_bk, nx_ct, nx_er, nx_cond, bind_ok, bind_err, bind_cond, sB_ok, sB_err, sB_cond, cond_ok, cond_bool, cond_int, cond_and, cond_or, cond_nand, fin_rt, fin_nx, fin_er, fin_cond, q_nil, q_retN, q_set, q_setF, q_ret, q_retF, q_if, q_retX, q_do, pat_ok, q_pat, q_fz, q_nm, q_tp, q_gcons, q_gnil, q_var0, q_varS, q_own0, q_own1, q_ownS, q_c, q_L, asL_l, q_D, q_B, q_T, asB_b, q_No, q_An, q_Or, q_Ch, q_cN, q_c1, q_2, q_1, q_t2, q_If, q_anil, q_acons, q_tup, q_ap, q_apL, q_apI, q_sl, q_oNo, q_oSo, asO_i, q_ixS, q_m1, q_for, q_add, q_sub, q_neg, q_mul, q_mul', q_div, q_mod, q_p6, q_p9, q_p18, cond_t, cond_f, q_lt, q_le, q_gt, q_ge, q_eqI, q_neI, q_neB, q_eqB, q_neS, q_isN, q_notN, q_notB, q_isB, q_len, q_int, q_intB, q_R1, q_enum, enumD_F, q_abs, q_forN, q_forC, it_ok, lp_nx, lp_rt, q_zip, q_rev, q_rev2, q_R2, q_R3, q_It, asI_l, asI_t, q_vbV, q_vbO, q_vbS, fz_own, fz_val, fz_no, fz_S, q_mx2, q_mn2, q_mx3, q_raiseE, rs_int, lp_er, q_tryE, try_go, q_zip3, q_orT, q_Tr, tr_none, tr_bool, tr_list, List.map_cons, List.map_nil, List.cons_append, List.nil_append, List.length_cons, List.length_nil, List.replicate_succ, List.replicate_zero, List.set_cons_zero, List.set_cons_succ, Nat.reduceSub, Nat.reduceAdd, Nat.zero_add, Nat.sub_self, Nat.sub_zero, List.append_nil, Int.reduceLT, Int.reduceLE, Int.reduceNeg, Int.reducePow, Nat.reduceLT, Nat.reduceLeDiff, and_self, and_true, true_and, if_true, if_false, reduceIte, decide_true, decide_false, Bool.and_true, Bool.true_and, Bool.false_and, Bool.and_false, Bool.or_false, Bool.false_or, Bool.true_or, Bool.or_true, Bool.not_false, Bool.not_true, beq_self_eq_true]
    · have t1 := turn (List.replicate m 0) [] (by rw [List.length_replicate]; omega) (by rw [List.length_replicate]; omega) .no
      have t2' := turn (List.replicate 40 0 ++ [-1]) [⟨0, 1, -1⟩] (by decide) (by decide) .no
      have t3 := turn (List.replicate m (-1)) [⟨1, 0, 5⟩] (by rw [List.length_replicate]; omega) (by rw [List.length_replicate]; omega) .no
      rw [q_forC, q_nm, it_ok, show ∀ (a b c d e f g h i j k l : Slot), ([a, b, c, d, e, f, g, h, i, j, k] : En).set 8 l = [a, b, c, d, e, f, g, h, l, j, k] from fun _ _ _ _ _ _ _ _ _ _ _ _ => rfl, t1, lp_nx]
      rw [q_forC, q_nm, it_ok, show ∀ (a b c d e f g h i j k l : Slot), ([a, b, c, d, e, f, g, h, i, j, k] : En).set 8 l = [a, b, c, d, e, f, g, h, l, j, k] from fun _ _ _ _ _ _ _ _ _ _ _ _ => rfl, t2', lp_nx]
      rw [q_forC, q_nm, it_ok, show ∀ (a b c d e f g h i j k l : Slot), ([a, b, c, d, e, f, g, h, i, j, k] : En).set 8 l = [a, b, c, d, e, f, g, h, l, j, k] from fun _ _ _ _ _ _ _ _ _ _ _ _ => rfl, t3, lp_nx]
      rfl
  rw [show numD [3, 4] [⟨0, 1, -1⟩] = .tuple [.list [.int 3, .int 4], .list [.tuple [.int 0, .int 1, .int (-1)]]] from rfl, show errN (nameOf "BadNumbers") 2 = .tuple [.str "error", .str "numbers", .int 2] from rfl] at c4
  rw [show numD [3, -4] [⟨1, 0, 5⟩] = .tuple [.list [.int 3, .int (-4)], .list [.tuple [.int 1, .int 0, .int 5]]] from rfl, show errN (nameOf "BadNumbers") 1 = .tuple [.str "error", .str "numbers", .int 1] from rfl] at c5
  rw [show numD [] [] = .tuple [.list [], .list []] from rfl] at c6
  generalize dInts ds = DD at *
  generalize dInts ns = NS at *
  simp -implicitDefEqProofs only [f_law, v_law, ed, r4, e, st_law_10, ev, hm, f11, st_law_12, st_law_13, c4, c5, c6, sn, q_run, q_seq, nx_nx, nx_rt, nx_bk, nx_ct, nx_er, nx_cond, bind_ok, bind_err, bind_cond, sB_ok, sB_err, sB_cond, cond_ok, cond_bool, cond_int, cond_and, cond_or, cond_nand, fin_rt, fin_nx, fin_er, fin_cond, q_nil, q_retN, q_set, q_setF, q_ret, q_retF, q_if, q_retX, q_do, pat_ok, q_pat, q_fz, q_nm, q_tp, q_gcons, q_gnil, q_var0, q_varS, q_own0, q_own1, q_ownS, q_c, q_L, asL_l, q_D, q_B, q_T, asB_b, q_No, q_An, q_Or, q_Ch, q_cN, q_c1, q_2, q_1, q_t2, q_If, q_anil, q_acons, q_tup, q_ap, q_apL, q_apI, q_sl, q_oNo, q_oSo, asO_i, q_ixS, q_m1, q_for, q_add, q_sub, q_neg, q_mul, q_mul', q_div, q_mod, q_p6, q_p9, q_p18, cond_t, cond_f, q_lt, q_le, q_gt, q_ge, q_eqI, q_neI, q_neB, q_eqB, q_neS, q_isN, q_notN, q_notB, q_isB, q_len, q_int, q_intB, q_R1, q_enum, enumD_F, q_abs, q_forN, q_forC, it_ok, lp_nx, lp_rt, q_zip, q_rev, q_rev2, q_R2, q_R3, q_It, asI_l, asI_t, q_vbV, q_vbO, q_vbS, fz_own, fz_val, fz_no, fz_S, q_mx2, q_mn2, q_mx3, q_raiseE, rs_int, lp_er, q_tryE, try_go, q_zip3, q_orT, q_Tr, tr_none, tr_bool, tr_list, List.map_cons, List.map_nil, List.cons_append, List.nil_append, List.length_cons, List.length_nil, List.replicate_succ, List.replicate_zero, List.set_cons_zero, List.set_cons_succ, Nat.reduceSub, Nat.reduceAdd, Nat.zero_add, Nat.sub_self, Nat.sub_zero, List.append_nil, Int.reduceLT, Int.reduceLE, Int.reduceNeg, Int.reducePow, Nat.reduceLT, Nat.reduceLeDiff, and_self, and_true, true_and, if_true, if_false, reduceIte, decide_true, decide_false, Bool.and_true, Bool.true_and, Bool.false_and, Bool.and_false, Bool.or_false, Bool.false_or, Bool.true_or, Bool.or_true, Bool.not_false, Bool.not_true, beq_self_eq_true]
end
end K27
namespace K27
open PySem PySem.Spec PyProof.Rows L2 VL
theorem end_mk {w : World} {K : PySem.W.Frag} {h : Heap} {mg : Str → Option Value} {base : Heap} (X : K.In h) (G : h.Ns mainGlobals mg)
    {f55 : Addr} {od55 an55 : Option Addr} {sl55 : Array (Option Value)} {oc55 kV55 dc55 pm55 cd55 ct55 : Value}
    {f56 : Addr} {od56 an56 : Option Addr} {sl56 : Array (Option Value)} {oc56 kV56 dc56 pm56 cd56 ct56 : Value}
    {f58 : Addr} {od58 an58 : Option Addr} {sl58 : Array (Option Value)} {oc58 kV58 dc58 pm58 cd58 ct58 : Value}
    {f60 : Addr} {od60 an60 : Option Addr} {sl60 : Array (Option Value)} {oc60 kV60 dc60 pm60 cd60 ct60 : Value}
    {f57 : Addr} {od57 an57 : Option Addr} {sl57 : Array (Option Value)} {oc57 kV57 dc57 pm57 cd57 ct57 : Value}
    {f11 : Addr} {od11 an11 : Option Addr} {sl11 : Array (Option Value)} {oc11 kV11 dc11 pm11 cd11 ct11 : Value}
    {f12 : Addr} {od12 an12 : Option Addr} {sl12 : Array (Option Value)} {oc12 kV12 dc12 pm12 cd12 ct12 : Value}
    {f53 : Addr} {od53 an53 : Option Addr} {sl53 : Array (Option Value)} {oc53 kV53 dc53 pm53 cd53 ct53 : Value}
    {f23 : Addr} {od23 an23 : Option Addr} {sl23 : Array (Option Value)} {oc23 kV23 dc23 pm23 cd23 ct23 : Value}
    {f27 : Addr} {od27 an27 : Option Addr} {sl27 : Array (Option Value)} {oc27 kV27 dc27 pm27 cd27 ct27 : Value}
    {f26 : Addr} {od26 an26 : Option Addr} {sl26 : Array (Option Value)} {oc26 kV26 dc26 pm26 cd26 ct26 : Value}
    {f28 : Addr} {od28 an28 : Option Addr} {sl28 : Array (Option Value)} {oc28 kV28 dc28 pm28 cd28 ct28 : Value}
    {f31 : Addr} {od31 an31 : Option Addr} {sl31 : Array (Option Value)} {oc31 kV31 dc31 pm31 cd31 ct31 : Value}
    {f32 : Addr} {od32 an32 : Option Addr} {sl32 : Array (Option Value)} {oc32 kV32 dc32 pm32 cd32 ct32 : Value}
    {f41 : Addr} {od41 an41 : Option Addr} {sl41 : Array (Option Value)} {oc41 kV41 dc41 pm41 cd41 ct41 : Value}
    {f44 : Addr} {od44 an44 : Option Addr} {sl44 : Array (Option Value)} {oc44 kV44 dc44 pm44 cd44 ct44 : Value}
    {f42 : Addr} {od42 an42 : Option Addr} {sl42 : Array (Option Value)} {oc42 kV42 dc42 pm42 cd42 ct42 : Value}
    {f43 : Addr} {od43 an43 : Option Addr} {sl43 : Array (Option Value)} {oc43 kV43 dc43 pm43 cd43 ct43 : Value}
    {f45 : Addr} {od45 an45 : Option Addr} {sl45 : Array (Option Value)} {oc45 kV45 dc45 pm45 cd45 ct45 : Value}
    {f46 : Addr} {od46 an46 : Option Addr} {sl46 : Array (Option Value)} {oc46 kV46 dc46 pm46 cd46 ct46 : Value}
    {f49 : Addr} {od49 an49 : Option Addr} {sl49 : Array (Option Value)} {oc49 kV49 dc49 pm49 cd49 ct49 : Value}
    {f48 : Addr} {od48 an48 : Option Addr} {sl48 : Array (Option Value)} {oc48 kV48 dc48 pm48 cd48 ct48 : Value}
    {f50 : Addr} {od50 an50 : Option Addr} {sl50 : Array (Option Value)} {oc50 kV50 dc50 pm50 cd50 ct50 : Value}
    {f51 : Addr} {od51 an51 : Option Addr} {sl51 : Array (Option Value)} {oc51 kV51 dc51 pm51 cd51 ct51 : Value}
    {f52 : Addr} {od52 an52 : Option Addr} {sl52 : Array (Option Value)} {oc52 kV52 dc52 pm52 cd52 ct52 : Value}
    {f61 : Addr} {od61 an61 : Option Addr} {sl61 : Array (Option Value)} {oc61 kV61 dc61 pm61 cd61 ct61 : Value}
    {f62 : Addr} {od62 an62 : Option Addr} {sl62 : Array (Option Value)} {oc62 kV62 dc62 pm62 cd62 ct62 : Value}
    {f65 : Addr} {od65 an65 : Option Addr} {sl65 : Array (Option Value)} {oc65 kV65 dc65 pm65 cd65 ct65 : Value}
    {f59 : Addr} {od59 an59 : Option Addr} {sl59 : Array (Option Value)} {oc59 kV59 dc59 pm59 cd59 ct59 : Value}
    {f64 : Addr} {od64 an64 : Option Addr} {sl64 : Array (Option Value)} {oc64 kV64 dc64 pm64 cd64 ct64 : Value}
    {f63 : Addr} {od63 an63 : Option Addr} {sl63 : Array (Option Value)} {oc63 kV63 dc63 pm63 cd63 ct63 : Value}
    {f66 : Addr} {od66 an66 : Option Addr} {sl66 : Array (Option Value)} {oc66 kV66 dc66 pm66 cd66 ct66 : Value}
    {t_MOST_NUMBER : Tok}
    {t_MOST_RIDERS : Tok}
    {D fI cc cda : Addr} {oI docI pmI ctI clI cclI : Value} {odI anI cldI cddI : Option Addr} {oslI cslI ccsI : Array (Option Value)} {vsI : Array Value} {fileI : Str} {tfI : Tok} {cdD : ClassData}
    {C0 N0 : Addr} {nm0 q0 : Str} {bs0 bm0 sb0 : List Value} {sn0 : List Str} {ab0 : Bool} {col0 : Option Bool} {dd0 : Option Addr} {ka0 kb0 kc0 kd0 ke0 : Option Value}
    {C1 N1 : Addr} {nm1 q1 : Str} {bs1 bm1 sb1 : List Value} {sn1 : List Str} {ab1 : Bool} {col1 : Option Bool} {dd1 : Option Addr} {ka1 kb1 kc1 kd1 ke1 : Option Value}
    {C2 N2 : Addr} {nm2 q2 : Str} {bs2 bm2 sb2 : List Value} {sn2 : List Str} {ab2 : Bool} {col2 : Option Bool} {dd2 : Option Addr} {ka2 kb2 kc2 kd2 ke2 : Option Value}
    {C3 N3 : Addr} {nm3 q3 : Str} {bs3 bm3 sb3 : List Value} {sn3 : List Str} {ab3 : Bool} {col3 : Option Bool} {dd3 : Option Addr} {ka3 kb3 kc3 kd3 ke3 : Option Value}
    {C4 N4 : Addr} {nm4 q4 : Str} {bs4 bm4 sb4 : List Value} {sn4 : List Str} {ab4 : Bool} {col4 : Option Bool} {dd4 : Option Addr} {ka4 kb4 kc4 kd4 ke4 : Option Value}
    {C5 N5 : Addr} {nm5 q5 : Str} {bs5 bm5 sb5 : List Value} {sn5 : List Str} {ab5 : Bool} {col5 : Option Bool} {dd5 : Option Addr} {ka5 kb5 kc5 kd5 ke5 : Option Value}
    (a55 : PySem.W.nsIn K mainGlobals "_law_draws" = some (some (.ref f55)))
    (l55 : K.lookup f55 = some ⟨oc55, od55, .func (PySem.W.fnOf "_law_draws" "_law_draws" (defArgs (topS 55)) (defBody (topS 55)) (defScope (topS 55)) .none kV55 dc55 pm55 an55 cd55 ct55), sl55⟩)
    (c55 : PySem.W.codeIn K cd55 "_law_draws" = true)
    (k55 : PySem.W.keepIn K (.ref f55) = true)
    (a56 : PySem.W.nsIn K mainGlobals "_law_mix" = some (some (.ref f56)))
    (l56 : K.lookup f56 = some ⟨oc56, od56, .func (PySem.W.fnOf "_law_mix" "_law_mix" (defArgs (topS 56)) (defBody (topS 56)) (defScope (topS 56)) .none kV56 dc56 pm56 an56 cd56 ct56), sl56⟩)
    (c56 : PySem.W.codeIn K cd56 "_law_mix" = true)
    (k56 : PySem.W.keepIn K (.ref f56) = true)
    (a58 : PySem.W.nsIn K mainGlobals "_law_amount" = some (some (.ref f58)))
    (l58 : K.lookup f58 = some ⟨oc58, od58, .func (PySem.W.fnOf "_law_amount" "_law_amount" (defArgs (topS 58)) (defBody (topS 58)) (defScope (topS 58)) .none kV58 dc58 pm58 an58 cd58 ct58), sl58⟩)
    (c58 : PySem.W.codeIn K cd58 "_law_amount" = true)
    (k58 : PySem.W.keepIn K (.ref f58) = true)
    (a60 : PySem.W.nsIn K mainGlobals "_law_numbers" = some (some (.ref f60)))
    (l60 : K.lookup f60 = some ⟨oc60, od60, .func (PySem.W.fnOf "_law_numbers" "_law_numbers" (defArgs (topS 60)) (defBody (topS 60)) (defScope (topS 60)) .none kV60 dc60 pm60 an60 cd60 ct60), sl60⟩)
    (c60 : PySem.W.codeIn K cd60 "_law_numbers" = true)
    (k60 : PySem.W.keepIn K (.ref f60) = true)
    (a57 : PySem.W.nsIn K mainGlobals "_law_same" = some (some (.ref f57)))
    (l57 : K.lookup f57 = some ⟨oc57, od57, .func (PySem.W.fnOf "_law_same" "_law_same" (defArgs (topS 57)) (defBody (topS 57)) (defScope (topS 57)) .none kV57 dc57 pm57 an57 cd57 ct57), sl57⟩)
    (c57 : PySem.W.codeIn K cd57 "_law_same" = true)
    (k57 : PySem.W.keepIn K (.ref f57) = true)
    (a11 : PySem.W.nsIn K mainGlobals "check_many" = some (some (.ref f11)))
    (l11 : K.lookup f11 = some ⟨oc11, od11, .func (PySem.W.fnOf "check_many" "check_many" (defArgs (topS 11)) (defBody (topS 11)) (defScope (topS 11)) .none kV11 dc11 pm11 an11 cd11 ct11), sl11⟩)
    (c11 : PySem.W.codeIn K cd11 "check_many" = true)
    (k11 : PySem.W.keepIn K (.ref f11) = true)
    (a12 : PySem.W.nsIn K mainGlobals "check_numbers" = some (some (.ref f12)))
    (l12 : K.lookup f12 = some ⟨oc12, od12, .func (PySem.W.fnOf "check_numbers" "check_numbers" (defArgs (topS 12)) (defBody (topS 12)) (defScope (topS 12)) .none kV12 dc12 pm12 an12 cd12 ct12), sl12⟩)
    (c12 : PySem.W.codeIn K cd12 "check_numbers" = true)
    (k12 : PySem.W.keepIn K (.ref f12) = true)
    (a53 : PySem.W.nsIn K mainGlobals "leaves" = some (some (.ref f53)))
    (l53 : K.lookup f53 = some ⟨oc53, od53, .func (PySem.W.fnOf "leaves" "leaves" (defArgs (topS 53)) (defBody (topS 53)) (defScope (topS 53)) .none kV53 dc53 pm53 an53 cd53 ct53), sl53⟩)
    (c53 : PySem.W.codeIn K cd53 "leaves" = true)
    (k53 : PySem.W.keepIn K (.ref f53) = true)
    (a23 : PySem.W.nsIn K mainGlobals "pairing" = some (some (.ref f23)))
    (l23 : K.lookup f23 = some ⟨oc23, od23, .func (PySem.W.fnOf "pairing" "pairing" (defArgs (topS 23)) (defBody (topS 23)) (defScope (topS 23)) .none kV23 dc23 pm23 an23 cd23 ct23), sl23⟩)
    (c23 : PySem.W.codeIn K cd23 "pairing" = true)
    (k23 : PySem.W.keepIn K (.ref f23) = true)
    (a27 : PySem.W.nsIn K mainGlobals "greatest_sum" = some (some (.ref f27)))
    (l27 : K.lookup f27 = some ⟨oc27, od27, .func (PySem.W.fnOf "greatest_sum" "greatest_sum" (defArgs (topS 27)) (defBody (topS 27)) (defScope (topS 27)) .none kV27 dc27 pm27 an27 cd27 ct27), sl27⟩)
    (c27 : PySem.W.codeIn K cd27 "greatest_sum" = true)
    (k27 : PySem.W.keepIn K (.ref f27) = true)
    (a26 : PySem.W.nsIn K mainGlobals "pairing_sum" = some (some (.ref f26)))
    (l26 : K.lookup f26 = some ⟨oc26, od26, .func (PySem.W.fnOf "pairing_sum" "pairing_sum" (defArgs (topS 26)) (defBody (topS 26)) (defScope (topS 26)) .none kV26 dc26 pm26 an26 cd26 ct26), sl26⟩)
    (c26 : PySem.W.codeIn K cd26 "pairing_sum" = true)
    (k26 : PySem.W.keepIn K (.ref f26) = true)
    (a28 : PySem.W.nsIn K mainGlobals "pairing_paper" = some (some (.ref f28)))
    (l28 : K.lookup f28 = some ⟨oc28, od28, .func (PySem.W.fnOf "pairing_paper" "pairing_paper" (defArgs (topS 28)) (defBody (topS 28)) (defScope (topS 28)) .none kV28 dc28 pm28 an28 cd28 ct28), sl28⟩)
    (c28 : PySem.W.codeIn K cd28 "pairing_paper" = true)
    (k28 : PySem.W.keepIn K (.ref f28) = true)
    (a31 : PySem.W.nsIn K mainGlobals "check_pairing" = some (some (.ref f31)))
    (l31 : K.lookup f31 = some ⟨oc31, od31, .func (PySem.W.fnOf "check_pairing" "check_pairing" (defArgs (topS 31)) (defBody (topS 31)) (defScope (topS 31)) .none kV31 dc31 pm31 an31 cd31 ct31), sl31⟩)
    (c31 : PySem.W.codeIn K cd31 "check_pairing" = true)
    (k31 : PySem.W.keepIn K (.ref f31) = true)
    (a32 : PySem.W.nsIn K mainGlobals "adds" = some (some (.ref f32)))
    (l32 : K.lookup f32 = some ⟨oc32, od32, .func (PySem.W.fnOf "adds" "adds" (defArgs (topS 32)) (defBody (topS 32)) (defScope (topS 32)) .none kV32 dc32 pm32 an32 cd32 ct32), sl32⟩)
    (c32 : PySem.W.codeIn K cd32 "adds" = true)
    (k32 : PySem.W.keepIn K (.ref f32) = true)
    (a41 : PySem.W.nsIn K mainGlobals "half_plan" = some (some (.ref f41)))
    (l41 : K.lookup f41 = some ⟨oc41, od41, .func (PySem.W.fnOf "half_plan" "half_plan" (defArgs (topS 41)) (defBody (topS 41)) (defScope (topS 41)) .none kV41 dc41 pm41 an41 cd41 ct41), sl41⟩)
    (c41 : PySem.W.codeIn K cd41 "half_plan" = true)
    (k41 : PySem.W.keepIn K (.ref f41) = true)
    (a44 : PySem.W.nsIn K mainGlobals "half_prices" = some (some (.ref f44)))
    (l44 : K.lookup f44 = some ⟨oc44, od44, .func (PySem.W.fnOf "half_prices" "half_prices" (defArgs (topS 44)) (defBody (topS 44)) (defScope (topS 44)) .none kV44 dc44 pm44 an44 cd44 ct44), sl44⟩)
    (c44 : PySem.W.codeIn K cd44 "half_prices" = true)
    (k44 : PySem.W.keepIn K (.ref f44) = true)
    (a42 : PySem.W.nsIn K mainGlobals "is_half_plan" = some (some (.ref f42)))
    (l42 : K.lookup f42 = some ⟨oc42, od42, .func (PySem.W.fnOf "is_half_plan" "is_half_plan" (defArgs (topS 42)) (defBody (topS 42)) (defScope (topS 42)) .none kV42 dc42 pm42 an42 cd42 ct42), sl42⟩)
    (c42 : PySem.W.codeIn K cd42 "is_half_plan" = true)
    (k42 : PySem.W.keepIn K (.ref f42) = true)
    (a43 : PySem.W.nsIn K mainGlobals "half_sum" = some (some (.ref f43)))
    (l43 : K.lookup f43 = some ⟨oc43, od43, .func (PySem.W.fnOf "half_sum" "half_sum" (defArgs (topS 43)) (defBody (topS 43)) (defScope (topS 43)) .none kV43 dc43 pm43 an43 cd43 ct43), sl43⟩)
    (c43 : PySem.W.codeIn K cd43 "half_sum" = true)
    (k43 : PySem.W.keepIn K (.ref f43) = true)
    (a45 : PySem.W.nsIn K mainGlobals "bears" = some (some (.ref f45)))
    (l45 : K.lookup f45 = some ⟨oc45, od45, .func (PySem.W.fnOf "bears" "bears" (defArgs (topS 45)) (defBody (topS 45)) (defScope (topS 45)) .none kV45 dc45 pm45 an45 cd45 ct45), sl45⟩)
    (c45 : PySem.W.codeIn K cd45 "bears" = true)
    (k45 : PySem.W.keepIn K (.ref f45) = true)
    (a46 : PySem.W.nsIn K mainGlobals "check_half" = some (some (.ref f46)))
    (l46 : K.lookup f46 = some ⟨oc46, od46, .func (PySem.W.fnOf "check_half" "check_half" (defArgs (topS 46)) (defBody (topS 46)) (defScope (topS 46)) .none kV46 dc46 pm46 an46 cd46 ct46), sl46⟩)
    (c46 : PySem.W.codeIn K cd46 "check_half" = true)
    (k46 : PySem.W.keepIn K (.ref f46) = true)
    (a49 : PySem.W.nsIn K mainGlobals "stable_prices" = some (some (.ref f49)))
    (l49 : K.lookup f49 = some ⟨oc49, od49, .func (PySem.W.fnOf "stable_prices" "stable_prices" (defArgs (topS 49)) (defBody (topS 49)) (defScope (topS 49)) .none kV49 dc49 pm49 an49 cd49 ct49), sl49⟩)
    (c49 : PySem.W.codeIn K cd49 "stable_prices" = true)
    (k49 : PySem.W.keepIn K (.ref f49) = true)
    (a48 : PySem.W.nsIn K mainGlobals "paid_in" = some (some (.ref f48)))
    (l48 : K.lookup f48 = some ⟨oc48, od48, .func (PySem.W.fnOf "paid_in" "paid_in" (defArgs (topS 48)) (defBody (topS 48)) (defScope (topS 48)) .none kV48 dc48 pm48 an48 cd48 ct48), sl48⟩)
    (c48 : PySem.W.codeIn K cd48 "paid_in" = true)
    (k48 : PySem.W.keepIn K (.ref f48) = true)
    (a50 : PySem.W.nsIn K mainGlobals "bars" = some (some (.ref f50)))
    (l50 : K.lookup f50 = some ⟨oc50, od50, .func (PySem.W.fnOf "bars" "bars" (defArgs (topS 50)) (defBody (topS 50)) (defScope (topS 50)) .none kV50 dc50 pm50 an50 cd50 ct50), sl50⟩)
    (c50 : PySem.W.codeIn K cd50 "bars" = true)
    (k50 : PySem.W.keepIn K (.ref f50) = true)
    (a51 : PySem.W.nsIn K mainGlobals "check_stable" = some (some (.ref f51)))
    (l51 : K.lookup f51 = some ⟨oc51, od51, .func (PySem.W.fnOf "check_stable" "check_stable" (defArgs (topS 51)) (defBody (topS 51)) (defScope (topS 51)) .none kV51 dc51 pm51 an51 cd51 ct51), sl51⟩)
    (c51 : PySem.W.codeIn K cd51 "check_stable" = true)
    (k51 : PySem.W.keepIn K (.ref f51) = true)
    (a52 : PySem.W.nsIn K mainGlobals "check_barred" = some (some (.ref f52)))
    (l52 : K.lookup f52 = some ⟨oc52, od52, .func (PySem.W.fnOf "check_barred" "check_barred" (defArgs (topS 52)) (defBody (topS 52)) (defScope (topS 52)) .none kV52 dc52 pm52 an52 cd52 ct52), sl52⟩)
    (c52 : PySem.W.codeIn K cd52 "check_barred" = true)
    (k52 : PySem.W.keepIn K (.ref f52) = true)
    (a61 : PySem.W.nsIn K mainGlobals "_law_error" = some (some (.ref f61)))
    (l61 : K.lookup f61 = some ⟨oc61, od61, .func (PySem.W.fnOf "_law_error" "_law_error" (defArgs (topS 61)) (defBody (topS 61)) (defScope (topS 61)) .none kV61 dc61 pm61 an61 cd61 ct61), sl61⟩)
    (c61 : PySem.W.codeIn K cd61 "_law_error" = true)
    (k61 : PySem.W.keepIn K (.ref f61) = true)
    (a62 : PySem.W.nsIn K mainGlobals "_law_asked" = some (some (.ref f62)))
    (l62 : K.lookup f62 = some ⟨oc62, od62, .func (PySem.W.fnOf "_law_asked" "_law_asked" (defArgs (topS 62)) (defBody (topS 62)) (defScope (topS 62)) .none kV62 dc62 pm62 an62 cd62 ct62), sl62⟩)
    (c62 : PySem.W.codeIn K cd62 "_law_asked" = true)
    (k62 : PySem.W.keepIn K (.ref f62) = true)
    (a65 : PySem.W.nsIn K mainGlobals "_law_all_refuse" = some (some (.ref f65)))
    (l65 : K.lookup f65 = some ⟨oc65, od65, .func (PySem.W.fnOf "_law_all_refuse" "_law_all_refuse" (defArgs (topS 65)) (defBody (topS 65)) (defScope (topS 65)) .none kV65 dc65 pm65 an65 cd65 ct65), sl65⟩)
    (c65 : PySem.W.codeIn K cd65 "_law_all_refuse" = true)
    (k65 : PySem.W.keepIn K (.ref f65) = true)
    (a59 : PySem.W.nsIn K mainGlobals "_law_top" = some (some (.ref f59)))
    (l59 : K.lookup f59 = some ⟨oc59, od59, .func (PySem.W.fnOf "_law_top" "_law_top" (defArgs (topS 59)) (defBody (topS 59)) (defScope (topS 59)) .none kV59 dc59 pm59 an59 cd59 ct59), sl59⟩)
    (c59 : PySem.W.codeIn K cd59 "_law_top" = true)
    (k59 : PySem.W.keepIn K (.ref f59) = true)
    (a64 : PySem.W.nsIn K mainGlobals "_law_spoilt" = some (some (.ref f64)))
    (l64 : K.lookup f64 = some ⟨oc64, od64, .func (PySem.W.fnOf "_law_spoilt" "_law_spoilt" (defArgs (topS 64)) (defBody (topS 64)) (defScope (topS 64)) .none kV64 dc64 pm64 an64 cd64 ct64), sl64⟩)
    (c64 : PySem.W.codeIn K cd64 "_law_spoilt" = true)
    (k64 : PySem.W.keepIn K (.ref f64) = true)
    (a63 : PySem.W.nsIn K mainGlobals "_law_fault" = some (some (.ref f63)))
    (l63 : K.lookup f63 = some ⟨oc63, od63, .func (PySem.W.fnOf "_law_fault" "_law_fault" (defArgs (topS 63)) (defBody (topS 63)) (defScope (topS 63)) .none kV63 dc63 pm63 an63 cd63 ct63), sl63⟩)
    (c63 : PySem.W.codeIn K cd63 "_law_fault" = true)
    (k63 : PySem.W.keepIn K (.ref f63) = true)
    (a66 : PySem.W.nsIn K mainGlobals "law" = some (some (.ref f66)))
    (l66 : K.lookup f66 = some ⟨oc66, od66, .func (PySem.W.fnOf "law" "law" (defArgs (topS 66)) (defBody (topS 66)) (defScope (topS 66)) .none kV66 dc66 pm66 an66 cd66 ct66), sl66⟩)
    (c66 : PySem.W.codeIn K cd66 "law" = true)
    (k66 : PySem.W.keepIn K (.ref f66) = true)
    (z_abs : PySem.W.nsIn K mainGlobals "abs" = some none)
    (z_all : PySem.W.nsIn K mainGlobals "all" = some none)
    (z_any : PySem.W.nsIn K mainGlobals "any" = some none)
    (z_bool : PySem.W.nsIn K mainGlobals "bool" = some none)
    (z_enumerate : PySem.W.nsIn K mainGlobals "enumerate" = some none)
    (z_int : PySem.W.nsIn K mainGlobals "int" = some none)
    (z_isinstance : PySem.W.nsIn K mainGlobals "isinstance" = some none)
    (z_len : PySem.W.nsIn K mainGlobals "len" = some none)
    (z_list : PySem.W.nsIn K mainGlobals "list" = some none)
    (z_min : PySem.W.nsIn K mainGlobals "min" = some none)
    (z_range : PySem.W.nsIn K mainGlobals "range" = some none)
    (z_repr : PySem.W.nsIn K mainGlobals "repr" = some none)
    (z_str : PySem.W.nsIn K mainGlobals "str" = some none)
    (z_sum : PySem.W.nsIn K mainGlobals "sum" = some none)
    (z_tuple : PySem.W.nsIn K mainGlobals "tuple" = some none)
    (z_zip : PySem.W.nsIn K mainGlobals "zip" = some none)
    (g_MOST_NUMBER : PySem.W.nsIn K mainGlobals "MOST_NUMBER" = some (some (.int 1000000000 t_MOST_NUMBER)))
    (g_MOST_RIDERS : PySem.W.nsIn K mainGlobals "MOST_RIDERS" = some (some (.int 40 t_MOST_RIDERS)))
    (aD : PySem.W.nsIn K mainGlobals "KerbError" = some (some (.ref D)))
    (xD : PySem.W.clsIn K D = some cdD)
    (iD : PySem.W.findIn K (.ref D) "__init__" = some (some (.ref fI)))
    (lI : K.lookup fI = some ⟨oI, odI, .func (PySem.W.ksFn "__init__" "KerbError.__init__" PySem.KrX.kA PySem.KrX.kB PySem.KrX.kS .none .none docI pmI anI (.ref cda) ctI cc), oslI⟩)
    (cI : PySem.W.codeIn K (.ref cda) "KerbError.__init__" = true)
    (lcc : K.lookup cc = some ⟨clI, cldI, .cell (some (.ref D)), cslI⟩)
    (lcda : K.lookup cda = some ⟨cclI, cddI, .fields vsI, ccsI⟩)
    (hvs : vsI[2]? = some (.str fileI tfI))
    (hfile : ((PySem.Challenge.pw_kerbcall_k27_checked_numbers.main.file : Str) == fileI) = true)
    (tI : PySem.W.typeIn K (.ref fI) = some (.type "function"))
    (opq : PySem.W.nsIn K cStatics "thirdparty.any" = some none)
    (z_super : PySem.W.nsIn K mainGlobals "super" = some none)
    (sD : PySem.W.subIn K (.ref D) (.type "BaseException") = some true)
    (hD : PySem.W.hasDictIn K D = true)
    (tD : PySem.W.typeIn K (.ref D) = some (.type "type"))
    (gt : PySem.W.specialIn K (.builtin "object.__class__") "__get__" = some (some (.builtin "getset_descriptor.__get__")))
    (tk : PySem.W.takesIn K (.builtin "object.__class__") = some true)
    (aC0 : PySem.W.nsIn K mainGlobals "OutOfRange" = some (some (.ref C0)))
    (xC0 : K.lookup C0 = some (excClassObj nm0 q0 C0 N0 bs0 bm0 true sn0 sb0 ab0 col0 dd0 ka0 kb0 kc0 kd0 ke0 "ValueError.__new__"))
    (bC0 : PySem.HandSPX.refsVE bm0 = true)
    (sa0 : PySem.W.findIn K (.ref C0) "__setattr__" = some (some (.builtin "object.__setattr__")))
    (ga0 : PySem.W.findIn K (.ref C0) "__getattribute__" = some (some (.builtin "BaseException.__getattribute__")))
    (gg0 : PySem.W.findIn K (.ref C0) "__getattr__" = some none)
    (no0 : PySem.W.findIn K (.ref C0) "at" = some none)
    (ii0 : PySem.W.findIn K (.ref C0) "__init__" = some (some (.ref fI)))
    (kC0 : PySem.W.keepIn K (.ref C0) = true)
    (eC0 : PySem.W.subIn K (.ref C0) (.type "BaseException") = some true)
    (vC0 : PySem.W.subIn K (.ref C0) (.type "ValueError") = some true)
    (tC0 : PySem.W.typeIn K (.ref C0) = some (.type "type"))
    (hC0 : PySem.W.hasDictIn K C0 = true)
    (mC0 : PySem.W.mroIn K C0 (.ref D) = some true)
    (qC0 : PySem.W.excInitIn K C0 [.type "ValueError", .type "Exception", .type "BaseException", .type "object"] "ValueError.__new__" = true)
    (uC0 : PySem.W.ks_superIn K C0 D "__init__" = some (some (.builtin "ValueError.__init__")))
    (oC0 : PySem.W.findIn K (.ref C0) "__class__" = some (some (.builtin "object.__class__")))
    (jC0 : PySem.W.mroIn K C0 (.type "object") = some true)
    (aC1 : PySem.W.nsIn K mainGlobals "TooMany" = some (some (.ref C1)))
    (xC1 : K.lookup C1 = some (excClassObj nm1 q1 C1 N1 bs1 bm1 true sn1 sb1 ab1 col1 dd1 ka1 kb1 kc1 kd1 ke1 "ValueError.__new__"))
    (bC1 : PySem.HandSPX.refsVE bm1 = true)
    (sa1 : PySem.W.findIn K (.ref C1) "__setattr__" = some (some (.builtin "object.__setattr__")))
    (ga1 : PySem.W.findIn K (.ref C1) "__getattribute__" = some (some (.builtin "BaseException.__getattribute__")))
    (gg1 : PySem.W.findIn K (.ref C1) "__getattr__" = some none)
    (no1 : PySem.W.findIn K (.ref C1) "at" = some none)
    (ii1 : PySem.W.findIn K (.ref C1) "__init__" = some (some (.ref fI)))
    (kC1 : PySem.W.keepIn K (.ref C1) = true)
    (eC1 : PySem.W.subIn K (.ref C1) (.type "BaseException") = some true)
    (vC1 : PySem.W.subIn K (.ref C1) (.type "ValueError") = some true)
    (tC1 : PySem.W.typeIn K (.ref C1) = some (.type "type"))
    (hC1 : PySem.W.hasDictIn K C1 = true)
    (mC1 : PySem.W.mroIn K C1 (.ref D) = some true)
    (qC1 : PySem.W.excInitIn K C1 [.type "ValueError", .type "Exception", .type "BaseException", .type "object"] "ValueError.__new__" = true)
    (uC1 : PySem.W.ks_superIn K C1 D "__init__" = some (some (.builtin "ValueError.__init__")))
    (oC1 : PySem.W.findIn K (.ref C1) "__class__" = some (some (.builtin "object.__class__")))
    (jC1 : PySem.W.mroIn K C1 (.type "object") = some true)
    (aC2 : PySem.W.nsIn K mainGlobals "WrongSize" = some (some (.ref C2)))
    (xC2 : K.lookup C2 = some (excClassObj nm2 q2 C2 N2 bs2 bm2 true sn2 sb2 ab2 col2 dd2 ka2 kb2 kc2 kd2 ke2 "ValueError.__new__"))
    (bC2 : PySem.HandSPX.refsVE bm2 = true)
    (sa2 : PySem.W.findIn K (.ref C2) "__setattr__" = some (some (.builtin "object.__setattr__")))
    (ga2 : PySem.W.findIn K (.ref C2) "__getattribute__" = some (some (.builtin "BaseException.__getattribute__")))
    (gg2 : PySem.W.findIn K (.ref C2) "__getattr__" = some none)
    (no2 : PySem.W.findIn K (.ref C2) "at" = some none)
    (ii2 : PySem.W.findIn K (.ref C2) "__init__" = some (some (.ref fI)))
    (kC2 : PySem.W.keepIn K (.ref C2) = true)
    (eC2 : PySem.W.subIn K (.ref C2) (.type "BaseException") = some true)
    (vC2 : PySem.W.subIn K (.ref C2) (.type "ValueError") = some true)
    (tC2 : PySem.W.typeIn K (.ref C2) = some (.type "type"))
    (hC2 : PySem.W.hasDictIn K C2 = true)
    (mC2 : PySem.W.mroIn K C2 (.ref D) = some true)
    (qC2 : PySem.W.excInitIn K C2 [.type "ValueError", .type "Exception", .type "BaseException", .type "object"] "ValueError.__new__" = true)
    (uC2 : PySem.W.ks_superIn K C2 D "__init__" = some (some (.builtin "ValueError.__init__")))
    (oC2 : PySem.W.findIn K (.ref C2) "__class__" = some (some (.builtin "object.__class__")))
    (jC2 : PySem.W.mroIn K C2 (.type "object") = some true)
    (aC3 : PySem.W.nsIn K mainGlobals "BadNumbers" = some (some (.ref C3)))
    (xC3 : K.lookup C3 = some (excClassObj nm3 q3 C3 N3 bs3 bm3 true sn3 sb3 ab3 col3 dd3 ka3 kb3 kc3 kd3 ke3 "ValueError.__new__"))
    (bC3 : PySem.HandSPX.refsVE bm3 = true)
    (sa3 : PySem.W.findIn K (.ref C3) "__setattr__" = some (some (.builtin "object.__setattr__")))
    (ga3 : PySem.W.findIn K (.ref C3) "__getattribute__" = some (some (.builtin "BaseException.__getattribute__")))
    (gg3 : PySem.W.findIn K (.ref C3) "__getattr__" = some none)
    (no3 : PySem.W.findIn K (.ref C3) "at" = some none)
    (ii3 : PySem.W.findIn K (.ref C3) "__init__" = some (some (.ref fI)))
    (kC3 : PySem.W.keepIn K (.ref C3) = true)
    (eC3 : PySem.W.subIn K (.ref C3) (.type "BaseException") = some true)
    (vC3 : PySem.W.subIn K (.ref C3) (.type "ValueError") = some true)
    (tC3 : PySem.W.typeIn K (.ref C3) = some (.type "type"))
    (hC3 : PySem.W.hasDictIn K C3 = true)
    (mC3 : PySem.W.mroIn K C3 (.ref D) = some true)
    (qC3 : PySem.W.excInitIn K C3 [.type "ValueError", .type "Exception", .type "BaseException", .type "object"] "ValueError.__new__" = true)
    (uC3 : PySem.W.ks_superIn K C3 D "__init__" = some (some (.builtin "ValueError.__init__")))
    (oC3 : PySem.W.findIn K (.ref C3) "__class__" = some (some (.builtin "object.__class__")))
    (jC3 : PySem.W.mroIn K C3 (.type "object") = some true)
    (aC4 : PySem.W.nsIn K mainGlobals "BadPairing" = some (some (.ref C4)))
    (xC4 : K.lookup C4 = some (excClassObj nm4 q4 C4 N4 bs4 bm4 true sn4 sb4 ab4 col4 dd4 ka4 kb4 kc4 kd4 ke4 "ValueError.__new__"))
    (bC4 : PySem.HandSPX.refsVE bm4 = true)
    (sa4 : PySem.W.findIn K (.ref C4) "__setattr__" = some (some (.builtin "object.__setattr__")))
    (ga4 : PySem.W.findIn K (.ref C4) "__getattribute__" = some (some (.builtin "BaseException.__getattribute__")))
    (gg4 : PySem.W.findIn K (.ref C4) "__getattr__" = some none)
    (no4 : PySem.W.findIn K (.ref C4) "at" = some none)
    (ii4 : PySem.W.findIn K (.ref C4) "__init__" = some (some (.ref fI)))
    (kC4 : PySem.W.keepIn K (.ref C4) = true)
    (eC4 : PySem.W.subIn K (.ref C4) (.type "BaseException") = some true)
    (vC4 : PySem.W.subIn K (.ref C4) (.type "ValueError") = some true)
    (tC4 : PySem.W.typeIn K (.ref C4) = some (.type "type"))
    (hC4 : PySem.W.hasDictIn K C4 = true)
    (mC4 : PySem.W.mroIn K C4 (.ref D) = some true)
    (qC4 : PySem.W.excInitIn K C4 [.type "ValueError", .type "Exception", .type "BaseException", .type "object"] "ValueError.__new__" = true)
    (uC4 : PySem.W.ks_superIn K C4 D "__init__" = some (some (.builtin "ValueError.__init__")))
    (oC4 : PySem.W.findIn K (.ref C4) "__class__" = some (some (.builtin "object.__class__")))
    (jC4 : PySem.W.mroIn K C4 (.type "object") = some true)
    (aC5 : PySem.W.nsIn K mainGlobals "BadPools" = some (some (.ref C5)))
    (xC5 : K.lookup C5 = some (excClassObj nm5 q5 C5 N5 bs5 bm5 true sn5 sb5 ab5 col5 dd5 ka5 kb5 kc5 kd5 ke5 "ValueError.__new__"))
    (bC5 : PySem.HandSPX.refsVE bm5 = true)
    (sa5 : PySem.W.findIn K (.ref C5) "__setattr__" = some (some (.builtin "object.__setattr__")))
    (ga5 : PySem.W.findIn K (.ref C5) "__getattribute__" = some (some (.builtin "BaseException.__getattribute__")))
    (gg5 : PySem.W.findIn K (.ref C5) "__getattr__" = some none)
    (no5 : PySem.W.findIn K (.ref C5) "at" = some none)
    (ii5 : PySem.W.findIn K (.ref C5) "__init__" = some (some (.ref fI)))
    (kC5 : PySem.W.keepIn K (.ref C5) = true)
    (eC5 : PySem.W.subIn K (.ref C5) (.type "BaseException") = some true)
    (vC5 : PySem.W.subIn K (.ref C5) (.type "ValueError") = some true)
    (tC5 : PySem.W.typeIn K (.ref C5) = some (.type "type"))
    (hC5 : PySem.W.hasDictIn K C5 = true)
    (mC5 : PySem.W.mroIn K C5 (.ref D) = some true)
    (qC5 : PySem.W.excInitIn K C5 [.type "ValueError", .type "Exception", .type "BaseException", .type "object"] "ValueError.__new__" = true)
    (uC5 : PySem.W.ks_superIn K C5 D "__init__" = some (some (.builtin "ValueError.__init__")))
    (oC5 : PySem.W.findIn K (.ref C5) "__class__" = some (some (.builtin "object.__class__")))
    (jC5 : PySem.W.mroIn K C5 (.type "object") = some true)
    (y0_0 : PySem.W.kitOne K (.ref C0) (.ref C0) = some true)
    (y0_1 : PySem.W.kitOne K (.ref C0) (.ref C1) = some false)
    (y0_2 : PySem.W.kitOne K (.ref C0) (.ref C2) = some false)
    (y0_3 : PySem.W.kitOne K (.ref C0) (.ref C3) = some false)
    (y0_4 : PySem.W.kitOne K (.ref C0) (.ref C4) = some false)
    (y0_5 : PySem.W.kitOne K (.ref C0) (.ref C5) = some false)
    (y1_0 : PySem.W.kitOne K (.ref C1) (.ref C0) = some false)
    (y1_1 : PySem.W.kitOne K (.ref C1) (.ref C1) = some true)
    (y1_2 : PySem.W.kitOne K (.ref C1) (.ref C2) = some false)
    (y1_3 : PySem.W.kitOne K (.ref C1) (.ref C3) = some false)
    (y1_4 : PySem.W.kitOne K (.ref C1) (.ref C4) = some false)
    (y1_5 : PySem.W.kitOne K (.ref C1) (.ref C5) = some false)
    (y2_0 : PySem.W.kitOne K (.ref C2) (.ref C0) = some false)
    (y2_1 : PySem.W.kitOne K (.ref C2) (.ref C1) = some false)
    (y2_2 : PySem.W.kitOne K (.ref C2) (.ref C2) = some true)
    (y2_3 : PySem.W.kitOne K (.ref C2) (.ref C3) = some false)
    (y2_4 : PySem.W.kitOne K (.ref C2) (.ref C4) = some false)
    (y2_5 : PySem.W.kitOne K (.ref C2) (.ref C5) = some false)
    (y3_0 : PySem.W.kitOne K (.ref C3) (.ref C0) = some false)
    (y3_1 : PySem.W.kitOne K (.ref C3) (.ref C1) = some false)
    (y3_2 : PySem.W.kitOne K (.ref C3) (.ref C2) = some false)
    (y3_3 : PySem.W.kitOne K (.ref C3) (.ref C3) = some true)
    (y3_4 : PySem.W.kitOne K (.ref C3) (.ref C4) = some false)
    (y3_5 : PySem.W.kitOne K (.ref C3) (.ref C5) = some false)
    (y4_0 : PySem.W.kitOne K (.ref C4) (.ref C0) = some false)
    (y4_1 : PySem.W.kitOne K (.ref C4) (.ref C1) = some false)
    (y4_2 : PySem.W.kitOne K (.ref C4) (.ref C2) = some false)
    (y4_3 : PySem.W.kitOne K (.ref C4) (.ref C3) = some false)
    (y4_4 : PySem.W.kitOne K (.ref C4) (.ref C4) = some true)
    (y4_5 : PySem.W.kitOne K (.ref C4) (.ref C5) = some false)
    (y5_0 : PySem.W.kitOne K (.ref C5) (.ref C0) = some false)
    (y5_1 : PySem.W.kitOne K (.ref C5) (.ref C1) = some false)
    (y5_2 : PySem.W.kitOne K (.ref C5) (.ref C2) = some false)
    (y5_3 : PySem.W.kitOne K (.ref C5) (.ref C3) = some false)
    (y5_4 : PySem.W.kitOne K (.ref C5) (.ref C4) = some false)
    (y5_5 : PySem.W.kitOne K (.ref C5) (.ref C5) = some true)
    : FnV PySem.Challenge.pw_kerbcall_k27_checked_numbers w K mg base 10 "law" 1 false f_law := by
  have kd : PySem.KrX.KrD PySem.Challenge.pw_kerbcall_k27_checked_numbers K mg D fI := ⟨⟨cc, cda, _, _, _, _, _, _, _, _, _, _, _, _, _, _, _, _, lI, cI, lcc, lcda, hvs, hfile⟩, ⟨_, xD⟩, PySem.W.mg_none_of X G z_super, by decide +kernel, opq, tI⟩
  have e0 := PySem.W.mg_of X G aC0
  have kc0 : PySem.KrX.KrC K mg "OutOfRange" C0 D fI := ⟨e0, ⟨_, _, _, _, _, _, _, _, _, _, _, _, _, _, _, xC0, bC0⟩, sa0, ga0, gg0, no0, ii0, kC0, eC0, vC0, tC0, hC0, mC0, qC0, uC0⟩
  have e1 := PySem.W.mg_of X G aC1
  have kc1 : PySem.KrX.KrC K mg "TooMany" C1 D fI := ⟨e1, ⟨_, _, _, _, _, _, _, _, _, _, _, _, _, _, _, xC1, bC1⟩, sa1, ga1, gg1, no1, ii1, kC1, eC1, vC1, tC1, hC1, mC1, qC1, uC1⟩
  have e2 := PySem.W.mg_of X G aC2
  have kc2 : PySem.KrX.KrC K mg "WrongSize" C2 D fI := ⟨e2, ⟨_, _, _, _, _, _, _, _, _, _, _, _, _, _, _, xC2, bC2⟩, sa2, ga2, gg2, no2, ii2, kC2, eC2, vC2, tC2, hC2, mC2, qC2, uC2⟩
  have e3 := PySem.W.mg_of X G aC3
  have kc3 : PySem.KrX.KrC K mg "BadNumbers" C3 D fI := ⟨e3, ⟨_, _, _, _, _, _, _, _, _, _, _, _, _, _, _, xC3, bC3⟩, sa3, ga3, gg3, no3, ii3, kC3, eC3, vC3, tC3, hC3, mC3, qC3, uC3⟩
  have e4 := PySem.W.mg_of X G aC4
  have kc4 : PySem.KrX.KrC K mg "BadPairing" C4 D fI := ⟨e4, ⟨_, _, _, _, _, _, _, _, _, _, _, _, _, _, _, xC4, bC4⟩, sa4, ga4, gg4, no4, ii4, kC4, eC4, vC4, tC4, hC4, mC4, qC4, uC4⟩
  have e5 := PySem.W.mg_of X G aC5
  have kc5 : PySem.KrX.KrC K mg "BadPools" C5 D fI := ⟨e5, ⟨_, _, _, _, _, _, _, _, _, _, _, _, _, _, _, xC5, bC5⟩, sa5, ga5, gg5, no5, ii5, kC5, eC5, vC5, tC5, hC5, mC5, qC5, uC5⟩
  have ks : Krs PySem.Challenge.pw_kerbcall_k27_checked_numbers K mg D fI tb := by
    refine ⟨kd, PySem.W.mg_of X G aD, sD, hD, tD, fun x hx => ?_, fun x hx C hC => ?_, gt, tk, fun x hx y hy C C2 h1 h2 => ?_⟩
    · unfold tb at hx
      simp only [List.mem_cons, List.not_mem_nil, or_false] at hx
      rcases hx with rfl | rfl | rfl | rfl | rfl | rfl
      · exact ⟨_, kc0⟩
      · exact ⟨_, kc1⟩
      · exact ⟨_, kc2⟩
      · exact ⟨_, kc3⟩
      · exact ⟨_, kc4⟩
      · exact ⟨_, kc5⟩
    · unfold tb at hx
      simp only [List.mem_cons, List.not_mem_nil, or_false] at hx
      rcases hx with rfl | rfl | rfl | rfl | rfl | rfl
      · cases e0.symm.trans hC
        exact ⟨oC0, jC0⟩
      · cases e1.symm.trans hC
        exact ⟨oC1, jC1⟩
      · cases e2.symm.trans hC
        exact ⟨oC2, jC2⟩
      · cases e3.symm.trans hC
        exact ⟨oC3, jC3⟩
      · cases e4.symm.trans hC
        exact ⟨oC4, jC4⟩
      · cases e5.symm.trans hC
        exact ⟨oC5, jC5⟩
    · unfold tb at hx hy
      simp only [List.mem_cons, List.not_mem_nil, or_false] at hx hy
      rcases hx with rfl | rfl | rfl | rfl | rfl | rfl <;> rcases hy with rfl | rfl | rfl | rfl | rfl | rfl
      · cases e0.symm.trans h1
        cases e0.symm.trans h2
        exact y0_0
      · cases e0.symm.trans h1
        cases e1.symm.trans h2
        exact y0_1
      · cases e0.symm.trans h1
        cases e2.symm.trans h2
        exact y0_2
      · cases e0.symm.trans h1
        cases e3.symm.trans h2
        exact y0_3
      · cases e0.symm.trans h1
        cases e4.symm.trans h2
        exact y0_4
      · cases e0.symm.trans h1
        cases e5.symm.trans h2
        exact y0_5
      · cases e1.symm.trans h1
        cases e0.symm.trans h2
        exact y1_0
      · cases e1.symm.trans h1
        cases e1.symm.trans h2
        exact y1_1
      · cases e1.symm.trans h1
        cases e2.symm.trans h2
        exact y1_2
      · cases e1.symm.trans h1
        cases e3.symm.trans h2
        exact y1_3
      · cases e1.symm.trans h1
        cases e4.symm.trans h2
        exact y1_4
      · cases e1.symm.trans h1
        cases e5.symm.trans h2
        exact y1_5
      · cases e2.symm.trans h1
        cases e0.symm.trans h2
        exact y2_0
      · cases e2.symm.trans h1
        cases e1.symm.trans h2
        exact y2_1
      · cases e2.symm.trans h1
        cases e2.symm.trans h2
        exact y2_2
      · cases e2.symm.trans h1
        cases e3.symm.trans h2
        exact y2_3
      · cases e2.symm.trans h1
        cases e4.symm.trans h2
        exact y2_4
      · cases e2.symm.trans h1
        cases e5.symm.trans h2
        exact y2_5
      · cases e3.symm.trans h1
        cases e0.symm.trans h2
        exact y3_0
      · cases e3.symm.trans h1
        cases e1.symm.trans h2
        exact y3_1
      · cases e3.symm.trans h1
        cases e2.symm.trans h2
        exact y3_2
      · cases e3.symm.trans h1
        cases e3.symm.trans h2
        exact y3_3
      · cases e3.symm.trans h1
        cases e4.symm.trans h2
        exact y3_4
      · cases e3.symm.trans h1
        cases e5.symm.trans h2
        exact y3_5
      · cases e4.symm.trans h1
        cases e0.symm.trans h2
        exact y4_0
      · cases e4.symm.trans h1
        cases e1.symm.trans h2
        exact y4_1
      · cases e4.symm.trans h1
        cases e2.symm.trans h2
        exact y4_2
      · cases e4.symm.trans h1
        cases e3.symm.trans h2
        exact y4_3
      · cases e4.symm.trans h1
        cases e4.symm.trans h2
        exact y4_4
      · cases e4.symm.trans h1
        cases e5.symm.trans h2
        exact y4_5
      · cases e5.symm.trans h1
        cases e0.symm.trans h2
        exact y5_0
      · cases e5.symm.trans h1
        cases e1.symm.trans h2
        exact y5_1
      · cases e5.symm.trans h1
        cases e2.symm.trans h2
        exact y5_2
      · cases e5.symm.trans h1
        cases e3.symm.trans h2
        exact y5_3
      · cases e5.symm.trans h1
        cases e4.symm.trans h2
        exact y5_4
      · cases e5.symm.trans h1
        cases e5.symm.trans h2
        exact y5_5
  exact fv_law {
    d__law_draws := ⟨f55, _, fun_mk (st := topS 55) l55 c55 k55, PySem.W.mg_of X G a55, (fun_mk (st := topS 55) l55 c55 k55).binds (ps := ["script"]) fun _ _ _ _ _ _ us hl => match us, hl with | [_], _ => rfl⟩,
    d__law_mix := ⟨f56, _, fun_mk (st := topS 56) l56 c56 k56, PySem.W.mg_of X G a56, (fun_mk (st := topS 56) l56 c56 k56).binds (ps := ["draws", "k", "many"]) fun _ _ _ _ _ _ us hl => match us, hl with | [_, _, _], _ => rfl⟩,
    d__law_amount := ⟨f58, _, fun_mk (st := topS 58) l58 c58 k58, PySem.W.mg_of X G a58, (fun_mk (st := topS 58) l58 c58 k58).binds (ps := ["draws", "k", "top"]) fun _ _ _ _ _ _ us hl => match us, hl with | [_, _, _], _ => rfl⟩,
    d__law_numbers := ⟨f60, _, fun_mk (st := topS 60) l60 c60 k60, PySem.W.mg_of X G a60, (fun_mk (st := topS 60) l60 c60 k60).binds (ps := ["draws", "first", "many", "top", "thick"]) fun _ _ _ _ _ _ us hl => match us, hl with | [_, _, _, _, _], _ => rfl⟩,
    d__law_same := ⟨f57, _, fun_mk (st := topS 57) l57 c57 k57, PySem.W.mg_of X G a57, (fun_mk (st := topS 57) l57 c57 k57).binds (ps := ["actual", "due"]) fun _ _ _ _ _ _ us hl => match us, hl with | [_, _], _ => rfl⟩,
    d_check_many := ⟨f11, _, fun_mk (st := topS 11) l11 c11 k11, PySem.W.mg_of X G a11, (fun_mk (st := topS 11) l11 c11 k11).binds (ps := ["many", "most"]) fun _ _ _ _ _ _ us hl => match us, hl with | [_, _], _ => rfl⟩,
    d_check_numbers := ⟨f12, _, fun_mk (st := topS 12) l12 c12 k12, PySem.W.mg_of X G a12, (fun_mk (st := topS 12) l12 c12 k12).binds (ps := ["numbers"]) fun _ _ _ _ _ _ us hl => match us, hl with | [_], _ => rfl⟩,
    d_leaves := ⟨f53, _, fun_mk (st := topS 53) l53 c53 k53, PySem.W.mg_of X G a53, (fun_mk (st := topS 53) l53 c53 k53).binds (ps := ["numbers", "prices"]) fun _ _ _ _ _ _ us hl => match us, hl with | [_, _], _ => rfl⟩,
    d_pairing := ⟨f23, _, fun_mk (st := topS 23) l23 c23 k23, PySem.W.mg_of X G a23, (fun_mk (st := topS 23) l23 c23 k23).binds (ps := ["numbers"]) fun _ _ _ _ _ _ us hl => match us, hl with | [_], _ => rfl⟩,
    d_greatest_sum := ⟨f27, _, fun_mk (st := topS 27) l27 c27 k27, PySem.W.mg_of X G a27, (fun_mk (st := topS 27) l27 c27 k27).binds (ps := ["numbers"]) fun _ _ _ _ _ _ us hl => match us, hl with | [_], _ => rfl⟩,
    d_pairing_sum := ⟨f26, _, fun_mk (st := topS 26) l26 c26 k26, PySem.W.mg_of X G a26, (fun_mk (st := topS 26) l26 c26 k26).binds (ps := ["numbers", "pairs"]) fun _ _ _ _ _ _ us hl => match us, hl with | [_, _], _ => rfl⟩,
    d_pairing_paper := ⟨f28, _, fun_mk (st := topS 28) l28 c28 k28, PySem.W.mg_of X G a28, (fun_mk (st := topS 28) l28 c28 k28).binds (ps := ["numbers"]) fun _ _ _ _ _ _ us hl => match us, hl with | [_], _ => rfl⟩,
    d_check_pairing := ⟨f31, _, fun_mk (st := topS 31) l31 c31 k31, PySem.W.mg_of X G a31, (fun_mk (st := topS 31) l31 c31 k31).binds (ps := ["numbers", "pairs", "paper"]) fun _ _ _ _ _ _ us hl => match us, hl with | [_, _, _], _ => rfl⟩,
    d_adds := ⟨f32, _, fun_mk (st := topS 32) l32 c32 k32, PySem.W.mg_of X G a32, (fun_mk (st := topS 32) l32 c32 k32).binds (ps := ["numbers"]) fun _ _ _ _ _ _ us hl => match us, hl with | [_], _ => rfl⟩,
    d_half_plan := ⟨f41, _, fun_mk (st := topS 41) l41 c41 k41, PySem.W.mg_of X G a41, (fun_mk (st := topS 41) l41 c41 k41).binds (ps := ["numbers"]) fun _ _ _ _ _ _ us hl => match us, hl with | [_], _ => rfl⟩,
    d_half_prices := ⟨f44, _, fun_mk (st := topS 44) l44 c44 k44, PySem.W.mg_of X G a44, (fun_mk (st := topS 44) l44 c44 k44).binds (ps := ["numbers"]) fun _ _ _ _ _ _ us hl => match us, hl with | [_], _ => rfl⟩,
    d_is_half_plan := ⟨f42, _, fun_mk (st := topS 42) l42 c42 k42, PySem.W.mg_of X G a42, (fun_mk (st := topS 42) l42 c42 k42).binds (ps := ["numbers", "plan"]) fun _ _ _ _ _ _ us hl => match us, hl with | [_, _], _ => rfl⟩,
    d_half_sum := ⟨f43, _, fun_mk (st := topS 43) l43 c43 k43, PySem.W.mg_of X G a43, (fun_mk (st := topS 43) l43 c43 k43).binds (ps := ["numbers", "plan"]) fun _ _ _ _ _ _ us hl => match us, hl with | [_, _], _ => rfl⟩,
    d_bears := ⟨f45, _, fun_mk (st := topS 45) l45 c45 k45, PySem.W.mg_of X G a45, (fun_mk (st := topS 45) l45 c45 k45).binds (ps := ["numbers", "prices"]) fun _ _ _ _ _ _ us hl => match us, hl with | [_, _], _ => rfl⟩,
    d_check_half := ⟨f46, _, fun_mk (st := topS 46) l46 c46 k46, PySem.W.mg_of X G a46, (fun_mk (st := topS 46) l46 c46 k46).binds (ps := ["numbers", "plan", "prices"]) fun _ _ _ _ _ _ us hl => match us, hl with | [_, _, _], _ => rfl⟩,
    d_stable_prices := ⟨f49, _, fun_mk (st := topS 49) l49 c49 k49, PySem.W.mg_of X G a49, (fun_mk (st := topS 49) l49 c49 k49).binds (ps := ["numbers"]) fun _ _ _ _ _ _ us hl => match us, hl with | [_], _ => rfl⟩,
    d_paid_in := ⟨f48, _, fun_mk (st := topS 48) l48 c48 k48, PySem.W.mg_of X G a48, (fun_mk (st := topS 48) l48 c48 k48).binds (ps := ["numbers"]) fun _ _ _ _ _ _ us hl => match us, hl with | [_], _ => rfl⟩,
    d_bars := ⟨f50, _, fun_mk (st := topS 50) l50 c50 k50, PySem.W.mg_of X G a50, (fun_mk (st := topS 50) l50 c50 k50).binds (ps := ["numbers"]) fun _ _ _ _ _ _ us hl => match us, hl with | [_], _ => rfl⟩,
    d_check_stable := ⟨f51, _, fun_mk (st := topS 51) l51 c51 k51, PySem.W.mg_of X G a51, (fun_mk (st := topS 51) l51 c51 k51).binds (ps := ["numbers", "pairs", "prices"]) fun _ _ _ _ _ _ us hl => match us, hl with | [_, _, _], _ => rfl⟩,
    d_check_barred := ⟨f52, _, fun_mk (st := topS 52) l52 c52 k52, PySem.W.mg_of X G a52, (fun_mk (st := topS 52) l52 c52 k52).binds (ps := ["numbers", "pairs", "paper", "plan"]) fun _ _ _ _ _ _ us hl => match us, hl with | [_, _, _, _], _ => rfl⟩,
    d__law_error := ⟨f61, _, fun_mk (st := topS 61) l61 c61 k61, PySem.W.mg_of X G a61, (fun_mk (st := topS 61) l61 c61 k61).binds (ps := ["e"]) fun _ _ _ _ _ _ us hl => match us, hl with | [_], _ => rfl⟩,
    d__law_asked := ⟨f62, _, fun_mk (st := topS 62) l62 c62 k62, PySem.W.mg_of X G a62, (fun_mk (st := topS 62) l62 c62 k62).binds (ps := ["which", "numbers"]) fun _ _ _ _ _ _ us hl => match us, hl with | [_, _], _ => rfl⟩,
    d__law_all_refuse := ⟨f65, _, fun_mk (st := topS 65) l65 c65 k65, PySem.W.mg_of X G a65, (fun_mk (st := topS 65) l65 c65 k65).binds (ps := ["numbers", "due"]) fun _ _ _ _ _ _ us hl => match us, hl with | [_, _], _ => rfl⟩,
    d__law_top := ⟨f59, _, fun_mk (st := topS 59) l59 c59 k59, PySem.W.mg_of X G a59, (fun_mk (st := topS 59) l59 c59 k59).binds (ps := ["draws", "k"]) fun _ _ _ _ _ _ us hl => match us, hl with | [_, _], _ => rfl⟩,
    d__law_spoilt := ⟨f64, _, fun_mk (st := topS 64) l64 c64 k64, PySem.W.mg_of X G a64, (fun_mk (st := topS 64) l64 c64 k64).binds (ps := ["draws", "at", "numbers"]) fun _ _ _ _ _ _ us hl => match us, hl with | [_, _, _], _ => rfl⟩,
    d__law_fault := ⟨f63, _, fun_mk (st := topS 63) l63 c63 k63, PySem.W.mg_of X G a63, (fun_mk (st := topS 63) l63 c63 k63).binds (ps := ["numbers"]) fun _ _ _ _ _ _ us hl => match us, hl with | [_], _ => rfl⟩,
    d_law := ⟨f66, _, fun_mk (st := topS 66) l66 c66 k66, PySem.W.mg_of X G a66, (fun_mk (st := topS 66) l66 c66 k66).binds (ps := ["script"]) fun _ _ _ _ _ _ us hl => match us, hl with | [_], _ => rfl⟩,
    m_abs := PySem.W.mg_none_of X G z_abs,
    m_all := PySem.W.mg_none_of X G z_all,
    m_any := PySem.W.mg_none_of X G z_any,
    m_bool := PySem.W.mg_none_of X G z_bool,
    m_enumerate := PySem.W.mg_none_of X G z_enumerate,
    m_int := PySem.W.mg_none_of X G z_int,
    m_isinstance := PySem.W.mg_none_of X G z_isinstance,
    m_len := PySem.W.mg_none_of X G z_len,
    m_list := PySem.W.mg_none_of X G z_list,
    m_min := PySem.W.mg_none_of X G z_min,
    m_range := PySem.W.mg_none_of X G z_range,
    m_repr := PySem.W.mg_none_of X G z_repr,
    m_str := PySem.W.mg_none_of X G z_str,
    m_sum := PySem.W.mg_none_of X G z_sum,
    m_tuple := PySem.W.mg_none_of X G z_tuple,
    m_zip := PySem.W.mg_none_of X G z_zip,
    c_MOST_NUMBER := ⟨_, PySem.W.mg_of X G g_MOST_NUMBER⟩,
    c_MOST_RIDERS := ⟨_, PySem.W.mg_of X G g_MOST_RIDERS⟩,
    krs := ⟨D, fI, ks⟩ }
end K27
open PySem PySem.W PyProof.Rows
set_option maxHeartbeats 0 in
theorem PySem.Challenge.cw_kerbcall_k27_checked_numbers_holds : PySem.Challenge.rw_kerbcall_k27_checked_numbers.Holds := by
  w_on; o_law; k_head; (case hw => w_witness2)
  k_fill
  refine VL.law_walk (l := PySem.Challenge.rw_kerbcall_k27_checked_numbers) (n := 63) (k := 10) (f := K27.f_law) rfl (by decide) rfl ⟨rfl, by decide, by decide⟩ (fun w h Y => by first | exact PySem.W.kIn_of Y | exact PySem.W.km_in_of Y) ?F K27.law_is
  case F =>
    intro w mg h KX G base _ _
    refine' K27.end_mk KX G ?a55 ?l55 ?c55 ?k55 ?a56 ?l56 ?c56 ?k56 ?a58 ?l58 ?c58 ?k58 ?a60 ?l60 ?c60 ?k60 ?a57 ?l57 ?c57 ?k57 ?a11 ?l11 ?c11 ?k11 ?a12 ?l12 ?c12 ?k12 ?a53 ?l53 ?c53 ?k53 ?a23 ?l23 ?c23 ?k23 ?a27 ?l27 ?c27 ?k27 ?a26 ?l26 ?c26 ?k26 ?a28 ?l28 ?c28 ?k28 ?a31 ?l31 ?c31 ?k31 ?a32 ?l32 ?c32 ?k32 ?a41 ?l41 ?c41 ?k41 ?a44 ?l44 ?c44 ?k44 ?a42 ?l42 ?c42 ?k42 ?a43 ?l43 ?c43 ?k43 ?a45 ?l45 ?c45 ?k45 ?a46 ?l46 ?c46 ?k46 ?a49 ?l49 ?c49 ?k49 ?a48 ?l48 ?c48 ?k48 ?a50 ?l50 ?c50 ?k50 ?a51 ?l51 ?c51 ?k51 ?a52 ?l52 ?c52 ?k52 ?a61 ?l61 ?c61 ?k61 ?a62 ?l62 ?c62 ?k62 ?a65 ?l65 ?c65 ?k65 ?a59 ?l59 ?c59 ?k59 ?a64 ?l64 ?c64 ?k64 ?a63 ?l63 ?c63 ?k63 ?a66 ?l66 ?c66 ?k66 ?z_abs ?z_all ?z_any ?z_bool ?z_enumerate ?z_int ?z_isinstance ?z_len ?z_list ?z_min ?z_range ?z_repr ?z_str ?z_sum ?z_tuple ?z_zip ?g_MOST_NUMBER ?g_MOST_RIDERS ?aD ?xD ?iD ?lI ?cI ?lcc ?lcda ?hvs ?hfile ?tI ?opq ?z_super ?sD ?hD ?tD ?gt ?tk ?aC0 ?xC0 ?bC0 ?sa0 ?ga0 ?gg0 ?no0 ?ii0 ?kC0 ?eC0 ?vC0 ?tC0 ?hC0 ?mC0 ?qC0 ?uC0 ?oC0 ?jC0 ?aC1 ?xC1 ?bC1 ?sa1 ?ga1 ?gg1 ?no1 ?ii1 ?kC1 ?eC1 ?vC1 ?tC1 ?hC1 ?mC1 ?qC1 ?uC1 ?oC1 ?jC1 ?aC2 ?xC2 ?bC2 ?sa2 ?ga2 ?gg2 ?no2 ?ii2 ?kC2 ?eC2 ?vC2 ?tC2 ?hC2 ?mC2 ?qC2 ?uC2 ?oC2 ?jC2 ?aC3 ?xC3 ?bC3 ?sa3 ?ga3 ?gg3 ?no3 ?ii3 ?kC3 ?eC3 ?vC3 ?tC3 ?hC3 ?mC3 ?qC3 ?uC3 ?oC3 ?jC3 ?aC4 ?xC4 ?bC4 ?sa4 ?ga4 ?gg4 ?no4 ?ii4 ?kC4 ?eC4 ?vC4 ?tC4 ?hC4 ?mC4 ?qC4 ?uC4 ?oC4 ?jC4 ?aC5 ?xC5 ?bC5 ?sa5 ?ga5 ?gg5 ?no5 ?ii5 ?kC5 ?eC5 ?vC5 ?tC5 ?hC5 ?mC5 ?qC5 ?uC5 ?oC5 ?jC5 ?y0_0 ?y0_1 ?y0_2 ?y0_3 ?y0_4 ?y0_5 ?y1_0 ?y1_1 ?y1_2 ?y1_3 ?y1_4 ?y1_5 ?y2_0 ?y2_1 ?y2_2 ?y2_3 ?y2_4 ?y2_5 ?y3_0 ?y3_1 ?y3_2 ?y3_3 ?y3_4 ?y3_5 ?y4_0 ?y4_1 ?y4_2 ?y4_3 ?y4_4 ?y4_5 ?y5_0 ?y5_1 ?y5_2 ?y5_3 ?y5_4 ?y5_5
    (case a55 => k_is); (case l55 => k_is); (case c55 => k_is); (case k55 => k_is); (case a56 => k_is); (case l56 => k_is); (case c56 => k_is); (case k56 => k_is)
    (case a58 => k_is); (case l58 => k_is); (case c58 => k_is); (case k58 => k_is); (case a60 => k_is); (case l60 => k_is); (case c60 => k_is); (case k60 => k_is)
    (case a57 => k_is); (case l57 => k_is); (case c57 => k_is); (case k57 => k_is); (case a11 => k_is); (case l11 => k_is); (case c11 => k_is); (case k11 => k_is)
    (case a12 => k_is); (case l12 => k_is); (case c12 => k_is); (case k12 => k_is); (case a53 => k_is); (case l53 => k_is); (case c53 => k_is); (case k53 => k_is)
    (case a23 => k_is); (case l23 => k_is); (case c23 => k_is); (case k23 => k_is); (case a27 => k_is); (case l27 => k_is); (case c27 => k_is); (case k27 => k_is)
    (case a26 => k_is); (case l26 => k_is); (case c26 => k_is); (case k26 => k_is); (case a28 => k_is); (case l28 => k_is); (case c28 => k_is); (case k28 => k_is)
    (case a31 => k_is); (case l31 => k_is); (case c31 => k_is); (case k31 => k_is); (case a32 => k_is); (case l32 => k_is); (case c32 => k_is); (case k32 => k_is)
    (case a41 => k_is); (case l41 => k_is); (case c41 => k_is); (case k41 => k_is); (case a44 => k_is); (case l44 => k_is); (case c44 => k_is); (case k44 => k_is)
    (case a42 => k_is); (case l42 => k_is); (case c42 => k_is); (case k42 => k_is); (case a43 => k_is); (case l43 => k_is); (case c43 => k_is); (case k43 => k_is)
    (case a45 => k_is); (case l45 => k_is); (case c45 => k_is); (case k45 => k_is); (case a46 => k_is); (case l46 => k_is); (case c46 => k_is); (case k46 => k_is)
    (case a49 => k_is); (case l49 => k_is); (case c49 => k_is); (case k49 => k_is); (case a48 => k_is); (case l48 => k_is); (case c48 => k_is); (case k48 => k_is)
    (case a50 => k_is); (case l50 => k_is); (case c50 => k_is); (case k50 => k_is); (case a51 => k_is); (case l51 => k_is); (case c51 => k_is); (case k51 => k_is)
    (case a52 => k_is); (case l52 => k_is); (case c52 => k_is); (case k52 => k_is); (case a61 => k_is); (case l61 => k_is); (case c61 => k_is); (case k61 => k_is)
    (case a62 => k_is); (case l62 => k_is); (case c62 => k_is); (case k62 => k_is); (case a65 => k_is); (case l65 => k_is); (case c65 => k_is); (case k65 => k_is)
    (case a59 => k_is); (case l59 => k_is); (case c59 => k_is); (case k59 => k_is); (case a64 => k_is); (case l64 => k_is); (case c64 => k_is); (case k64 => k_is)
    (case a63 => k_is); (case l63 => k_is); (case c63 => k_is); (case k63 => k_is); (case a66 => k_is); (case l66 => k_is); (case c66 => k_is); (case k66 => k_is)
    (case z_abs => k_is); (case z_all => k_is); (case z_any => k_is); (case z_bool => k_is); (case z_enumerate => k_is); (case z_int => k_is); (case z_isinstance => k_is); (case z_len => k_is)
    (case z_list => k_is); (case z_min => k_is); (case z_range => k_is); (case z_repr => k_is); (case z_str => k_is); (case z_sum => k_is); (case z_tuple => k_is); (case z_zip => k_is)
    (case g_MOST_NUMBER => k_is); (case g_MOST_RIDERS => k_is); (case aD => k_is); (case xD => k_is); (case iD => k_is); (case lI => k_is); (case cI => k_is); (case lcc => k_is)
    (case lcda => k_is); (case hvs => first | rfl | decide +kernel | k_is); (case hfile => first | rfl | decide +kernel | k_is); (case tI => k_is); (case opq => k_is); (case z_super => k_is); (case sD => k_is); (case hD => k_is)
    (case tD => k_is); (case gt => k_is); (case tk => k_is); (case aC0 => k_is); (case xC0 => k_is); (case bC0 => first | rfl | decide +kernel | k_is); (case sa0 => k_is); (case ga0 => k_is)
    (case gg0 => k_is); (case no0 => k_is); (case ii0 => k_is); (case kC0 => k_is); (case eC0 => k_is); (case vC0 => k_is); (case tC0 => k_is); (case hC0 => k_is)
    (case mC0 => k_is); (case qC0 => first | k_is | kernel_rfl | rfl); (case uC0 => first | k_is | kernel_rfl | rfl); (case oC0 => k_is); (case jC0 => k_is); (case aC1 => k_is); (case xC1 => k_is); (case bC1 => first | rfl | decide +kernel | k_is)
    (case sa1 => k_is); (case ga1 => k_is); (case gg1 => k_is); (case no1 => k_is); (case ii1 => k_is); (case kC1 => k_is); (case eC1 => k_is); (case vC1 => k_is)
    (case tC1 => k_is); (case hC1 => k_is); (case mC1 => k_is); (case qC1 => first | k_is | kernel_rfl | rfl); (case uC1 => first | k_is | kernel_rfl | rfl); (case oC1 => k_is); (case jC1 => k_is); (case aC2 => k_is)
    (case xC2 => k_is); (case bC2 => first | rfl | decide +kernel | k_is); (case sa2 => k_is); (case ga2 => k_is); (case gg2 => k_is); (case no2 => k_is); (case ii2 => k_is); (case kC2 => k_is)
    (case eC2 => k_is); (case vC2 => k_is); (case tC2 => k_is); (case hC2 => k_is); (case mC2 => k_is); (case qC2 => first | k_is | kernel_rfl | rfl); (case uC2 => first | k_is | kernel_rfl | rfl); (case oC2 => k_is)
    (case jC2 => k_is); (case aC3 => k_is); (case xC3 => k_is); (case bC3 => first | rfl | decide +kernel | k_is); (case sa3 => k_is); (case ga3 => k_is); (case gg3 => k_is); (case no3 => k_is)
    (case ii3 => k_is); (case kC3 => k_is); (case eC3 => k_is); (case vC3 => k_is); (case tC3 => k_is); (case hC3 => k_is); (case mC3 => k_is); (case qC3 => first | k_is | kernel_rfl | rfl)
    (case uC3 => first | k_is | kernel_rfl | rfl); (case oC3 => k_is); (case jC3 => k_is); (case aC4 => k_is); (case xC4 => k_is); (case bC4 => first | rfl | decide +kernel | k_is); (case sa4 => k_is); (case ga4 => k_is)
    (case gg4 => k_is); (case no4 => k_is); (case ii4 => k_is); (case kC4 => k_is); (case eC4 => k_is); (case vC4 => k_is); (case tC4 => k_is); (case hC4 => k_is)
    (case mC4 => k_is); (case qC4 => first | k_is | kernel_rfl | rfl); (case uC4 => first | k_is | kernel_rfl | rfl); (case oC4 => k_is); (case jC4 => k_is); (case aC5 => k_is); (case xC5 => k_is); (case bC5 => first | rfl | decide +kernel | k_is)
    (case sa5 => k_is); (case ga5 => k_is); (case gg5 => k_is); (case no5 => k_is); (case ii5 => k_is); (case kC5 => k_is); (case eC5 => k_is); (case vC5 => k_is)
    (case tC5 => k_is); (case hC5 => k_is); (case mC5 => k_is); (case qC5 => first | k_is | kernel_rfl | rfl); (case uC5 => first | k_is | kernel_rfl | rfl); (case oC5 => k_is); (case jC5 => k_is); (case y0_0 => first | k_is | rfl | decide +kernel)
    (case y0_1 => first | k_is | rfl | decide +kernel); (case y0_2 => first | k_is | rfl | decide +kernel); (case y0_3 => first | k_is | rfl | decide +kernel); (case y0_4 => first | k_is | rfl | decide +kernel); (case y0_5 => first | k_is | rfl | decide +kernel); (case y1_0 => first | k_is | rfl | decide +kernel); (case y1_1 => first | k_is | rfl | decide +kernel); (case y1_2 => first | k_is | rfl | decide +kernel)
    (case y1_3 => first | k_is | rfl | decide +kernel); (case y1_4 => first | k_is | rfl | decide +kernel); (case y1_5 => first | k_is | rfl | decide +kernel); (case y2_0 => first | k_is | rfl | decide +kernel); (case y2_1 => first | k_is | rfl | decide +kernel); (case y2_2 => first | k_is | rfl | decide +kernel); (case y2_3 => first | k_is | rfl | decide +kernel); (case y2_4 => first | k_is | rfl | decide +kernel)
    (case y2_5 => first | k_is | rfl | decide +kernel); (case y3_0 => first | k_is | rfl | decide +kernel); (case y3_1 => first | k_is | rfl | decide +kernel); (case y3_2 => first | k_is | rfl | decide +kernel); (case y3_3 => first | k_is | rfl | decide +kernel); (case y3_4 => first | k_is | rfl | decide +kernel); (case y3_5 => first | k_is | rfl | decide +kernel); (case y4_0 => first | k_is | rfl | decide +kernel)
    (case y4_1 => first | k_is | rfl | decide +kernel); (case y4_2 => first | k_is | rfl | decide +kernel); (case y4_3 => first | k_is | rfl | decide +kernel); (case y4_4 => first | k_is | rfl | decide +kernel); (case y4_5 => first | k_is | rfl | decide +kernel); (case y5_0 => first | k_is | rfl | decide +kernel); (case y5_1 => first | k_is | rfl | decide +kernel); (case y5_2 => first | k_is | rfl | decide +kernel)
    (case y5_3 => first | k_is | rfl | decide +kernel); (case y5_4 => first | k_is | rfl | decide +kernel); (case y5_5 => first | k_is | rfl | decide +kernel)
