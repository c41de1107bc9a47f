import PyProof.Rows.All
import Wide.All
import OpenK.AllK
import Wide.FinOn
import HandS.ForMost
import HandS.Zip
import HandS.TupAny
import HandS.TupMul
import HandS.IsInst
import HandS.Walk
import HandS.Style
import KE.GoesMore
import HandS.Exc
import HandS.ExcOwn
import HandS.TryOnly
import HandS.WordsExc
import HandS.ExcIs
import HandS.More
import PyProof.TupleOfSeq
import PyProof.Rows.SortShellAny
import PyProof.ListMulRight
import HandS.Text
import PyProof.NeKinds
import PyProof.StrOps2
import HandS.CallSlots
import HandS.Strs
import HandS.Conv
import HandS.Lambda
import HandS.EndTab
import HandS.Iter
import KE.KTupSum
import HandS.Deep
import PySem.Challenge.RW_echoyard_k09_lists_anywhere
set_option Elab.async false
set_option linter.all false
set_option maxRecDepth 100000
set_option autoImplicit false
set_option maxHeartbeats 1000000
/-! EY: data-level judgements over the hand layer -/
namespace EY
open PySem L2

/-! ### parts of the heap -/
open Classical in
noncomputable def hid (O : Addr → Prop) (H : Hp) : Hp := fun a => if O a then none else H a
theorem hid_iff {O : Addr → Prop} {H : Hp} {a : Addr} {o : HO} : hid O H a = some o ↔ ¬ O a ∧ H a = some o := by
  unfold hid
  by_cases h : O a
  · rw [if_pos h]
    constructor
    · intro e; cases e
    · intro e; exact absurd h e.1
  · rw [if_neg h]
    constructor
    · intro e; exact ⟨h, e⟩
    · intro e; exact e.2
theorem hid_sub {O : Addr → Prop} {H : Hp} : Same (hid O H) H := fun _ _ e => (hid_iff.mp e).2
theorem hid_mono {O : Addr → Prop} {H H' : Hp} (s : Same H H') : Same (hid O H) (hid O H') := fun b o e =>
  hid_iff.mpr ⟨(hid_iff.mp e).1, s b o (hid_iff.mp e).2⟩
theorem same_upd {H : Hp} {p : Addr} {o : HO} (h : H p = none) : Same H (upd H p o) := fun b x e => by
  rw [upd_ne (ne_of_none e h)]
  exact e
theorem Same.seqT {K : PySem.W.Frag} {H H' : Hp} {a : Addr} {xs : List V} (e : Same H H') (h : SqT K H a xs) : SqT K H' a xs := by
  rcases h with (h | ⟨o, h⟩) | h
  · exact .inl (.inl (e _ _ h))
  · exact .inl (.inr ⟨o, e _ _ h⟩)
  · exact .inr h

mutual
theorem dp_mono {K : PySem.W.Frag} {H H' : Hp} (e : Same H H') : ∀ (d : PyData) (v : V), Dp K H v d → Dp K H' v d
  | .none, _, h => by cases h; exact .non
  | .bool b, _, h => by cases h; exact .bl b
  | .int i, _, h => by cases h; exact .int i
  | .str x, _, h => by cases h; exact .str x
  | .list ds, _, h => by
    cases h with
    | lst hs ha => exact .lst (e.seq hs) (dpAll_mono e ds _ ha)
  | .tuple ds, _, h => by
    cases h with
    | tup hs ha => exact .tup (Same.seqT e hs) (dpAll_mono e ds _ ha)
  | .dict _, _, h => by cases h
theorem dpAll_mono {K : PySem.W.Frag} {H H' : Hp} (e : Same H H') : ∀ (ds : List PyData) (vs : List V), DpAll K H vs ds → DpAll K H' vs ds
  | [], _, h => by cases h; exact .nil
  | d :: ds, _, h => by
    cases h with
    | cons h1 h2 => exact .cons (dp_mono e d _ h1) (dpAll_mono e ds _ h2)
end
theorem dpAll_len {K : PySem.W.Frag} {H : Hp} : ∀ {ds : List PyData} {vs : List V}, DpAll K H vs ds → vs.length = ds.length
  | [], _, h => by cases h; rfl
  | d :: ds, _, h => by
    cases h with
    | cons h1 h2 => rw [List.length_cons, List.length_cons, dpAll_len h2]
theorem dpAll_get {K : PySem.W.Frag} {H : Hp} : ∀ {ds : List PyData} {vs : List V} {i : Nat} {d : PyData}, DpAll K H vs ds → ds[i]? = some d → ∃ v, vs[i]? = some v ∧ Dp K H v d
  | [], _, _, _, _, e => by simp at e
  | d :: ds, _, 0, x, h, e => by
    cases h with
    | cons h1 h2 =>
      have q : d = x := Option.some.inj e
      subst q
      exact ⟨_, rfl, h1⟩
  | d :: ds, _, i + 1, x, h, e => by
    cases h with
    | cons h1 h2 => exact dpAll_get (i := i) h2 e
theorem dpAll_getV {K : PySem.W.Frag} {H : Hp} : ∀ {ds : List PyData} {vs : List V} {i : Nat} {v : V}, DpAll K H vs ds → vs[i]? = some v → ∃ d, ds[i]? = some d ∧ Dp K H v d
  | [], _, _, _, h, e => by cases h; simp at e
  | d :: ds, _, 0, x, h, e => by
    cases h with
    | cons h1 h2 =>
      have q := Option.some.inj e
      subst q
      exact ⟨_, rfl, h1⟩
  | d :: ds, _, i + 1, x, h, e => by
    cases h with
    | cons h1 h2 => exact dpAll_getV (i := i) h2 e
theorem dpAll_app {K : PySem.W.Frag} {H : Hp} : ∀ {ds es : List PyData} {vs us : List V}, DpAll K H vs ds → DpAll K H us es → DpAll K H (vs ++ us) (ds ++ es)
  | [], _, _, _, h, h' => by cases h; exact h'
  | d :: ds, _, _, _, h, h' => by
    cases h with
    | cons h1 h2 => exact .cons h1 (dpAll_app h2 h')
theorem dpAll_take {K : PySem.W.Frag} {H : Hp} : ∀ {ds : List PyData} {vs : List V} (n : Nat), DpAll K H vs ds → DpAll K H (vs.take n) (ds.take n)
  | _, _, 0, _ => .nil
  | [], _, n + 1, h => by cases h; exact .nil
  | d :: ds, _, n + 1, h => by
    cases h with
    | cons h1 h2 => exact .cons h1 (dpAll_take n h2)
theorem dpAll_drop {K : PySem.W.Frag} {H : Hp} : ∀ {ds : List PyData} {vs : List V} (n : Nat), DpAll K H vs ds → DpAll K H (vs.drop n) (ds.drop n)
  | _, _, 0, h => h
  | [], _, n + 1, h => by cases h; exact .nil
  | d :: ds, _, n + 1, h => by
    cases h with
    | cons h1 h2 => exact dpAll_drop n h2
theorem dpAll_set {K : PySem.W.Frag} {H : Hp} {v : V} {d : PyData} (h : Dp K H v d) : ∀ {ds : List PyData} {vs : List V} (n : Nat), DpAll K H vs ds → DpAll K H (vs.set n v) (ds.set n d)
  | [], _, _, q => by cases q; exact .nil
  | _ :: ds, _, 0, q => by
    cases q with
    | cons h1 h2 => exact .cons h h2
  | _ :: ds, _, n + 1, q => by
    cases q with
    | cons h1 h2 => exact .cons h1 (dpAll_set h n h2)
theorem dpAll_ints {K : PySem.W.Frag} {H : Hp} : ∀ {ns : List Int} {vs : List V}, DpAll K H vs (ns.map PyData.int) → vs = ns.map V.int
  | [], _, h => by cases h; rfl
  | n :: ns, _, h => by
    cases h with
    | cons h1 h2 =>
      cases h1
      rw [dpAll_ints h2]
      rfl
theorem ints_dpAll {K : PySem.W.Frag} {H : Hp} : ∀ (ns : List Int), DpAll K H (ns.map V.int) (ns.map PyData.int)
  | [] => .nil
  | n :: ns => .cons (.int n) (ints_dpAll ns)
theorem dpAll_bools {K : PySem.W.Frag} {H : Hp} : ∀ {ns : List Bool} {vs : List V}, DpAll K H vs (ns.map PyData.bool) → vs = ns.map V.bl
  | [], _, h => by cases h; rfl
  | n :: ns, _, h => by
    cases h with
    | cons h1 h2 =>
      cases h1
      rw [dpAll_bools h2]
      rfl
theorem dpAll_strs {K : PySem.W.Frag} {H : Hp} : ∀ {ns : List Str} {vs : List V}, DpAll K H vs (ns.map PyData.str) → vs = ns.map V.str
  | [], _, h => by cases h; rfl
  | n :: ns, _, h => by
    cases h with
    | cons h1 h2 =>
      cases h1
      rw [dpAll_strs h2]
      rfl
theorem strs_dpAll {K : PySem.W.Frag} {H : Hp} : ∀ (ns : List Str), DpAll K H (ns.map V.str) (ns.map PyData.str)
  | [] => .nil
  | n :: ns => .cons (.str n) (strs_dpAll ns)

/-! ### the slots -/
/-- what is known of a thing of one's own: of the heap, and of what is no one's to change -/
structure Fac where
  φ : Hp → Hp → Prop
  mono : ∀ {H H2 D D2 : Hp}, Same H H2 → Same D D2 → φ H D → φ H2 D2
  away : ∀ {H D : Hp} {a : Addr} {vs us : List V}, H a = some (.lst vs) → φ H D → φ (upd H a (.lst us)) D
inductive SD where
  | d (x : PyData)
  | own (xs : List PyData)
  | raw (w : V)
  | fac (w : V) (as : List Addr) (f : Fac)
abbrev Gm := List (Option SD)
/-- what is kept: what others own (F), the heap at the entry -/
structure Bs where
  F : Addr → Prop
  H : Hp
def SlotOk (K : PySem.W.Frag) (B : Bs) (O : Addr → Prop) (H : Hp) (v : V) : SD → Prop
  | .d x => Dp K (hid O H) v x
  | .own xs => ∃ p vs, v = .ref p ∧ O p ∧ B.H p = none ∧ H p = some (.lst vs) ∧ DpAll K (hid O H) vs xs
  | .raw w => v = w
  | .fac w as f => v = w ∧ (∀ a ∈ as, O a ∧ B.H a = none ∧ ∃ o, H a = some o ∧ ∀ vs, o ≠ .lst vs) ∧ f.φ H (hid O H)
structure Sg (K : PySem.W.Frag) (B : Bs) (O : Addr → Prop) (H : Hp) (σ : St) (Γ : Gm) : Prop where
  ext : Same B.H H
  fo : ∀ a, O a → B.F a ∨ B.H a = none
  fs : ∀ a, B.F a → O a ∧ ∃ o, B.H a = some o
  live : ∀ a, O a → ∃ o, H a = some o
  len : σ.length = Γ.length
  slot : ∀ (i : Nat) s, Γ[i]? = some (some s) → ∃ v, σ[i]? = some (some v) ∧ SlotOk K B O H v s
  inj : ∀ (i j : Nat) xs ys p, Γ[i]? = some (some (.own xs)) → Γ[j]? = some (some (.own ys)) → σ[i]? = some (some (V.ref p)) → σ[j]? = some (some (V.ref p)) → i = j

section
variable {K : PySem.W.Frag} {B : Bs} {H H2 : Hp} {O : Addr → Prop} {σ : St} {Γ : Gm}
theorem Sg.fresh (g : Sg K B O H σ Γ) {p : Addr} (h : H p = none) : ¬ O p := fun q => by
  obtain ⟨o, e⟩ := g.live p q
  rw [h] at e
  cases e
theorem SlotOk.mono {v : V} {s : SD} (e : Same H H2) (h : SlotOk K B O H v s) : SlotOk K B O H2 v s := by
  cases s with
  | d x => exact dp_mono (hid_mono e) _ _ h
  | raw w => first | assumption | exact h
  | fac w as f => exact ⟨h.1, fun a ha => let ⟨q1, q2, o, q3, q4⟩ := h.2.1 a ha; ⟨q1, q2, o, e _ _ q3, q4⟩, f.mono e (hid_mono e) h.2.2⟩
  | own xs =>
    obtain ⟨p, vs, h1, h2, h0, h3, h4⟩ := h
    exact ⟨p, vs, h1, h2, h0, e _ _ h3, dpAll_mono (hid_mono e) _ _ h4⟩
theorem Sg.step (g : Sg K B O H σ Γ) (e : Same H H2) : Sg K B O H2 σ Γ :=
  ⟨g.ext.trans e, g.fo, g.fs, fun a h => let ⟨o, q⟩ := g.live a h; ⟨o, e _ _ q⟩, g.len, fun i s h => let ⟨v, h1, h2⟩ := g.slot i s h; ⟨v, h1, h2.mono e⟩, g.inj⟩
/-- at a def's entry -/
theorem Sg.entry {Γ : Gm} (lv : ∀ a, O a → ∃ o, H a = some o) (hl : σ.length = Γ.length) (h : ∀ (i : Nat) s, Γ[i]? = some (some s) → ∃ v x, σ[i]? = some (some v) ∧ s = .d x ∧ Dp K (hid O H) v x) : Sg K ⟨O, H⟩ O H σ Γ :=
  ⟨Same.refl H, fun a h => .inl h, fun a h => ⟨h, lv a h⟩, lv, hl, fun i s e => by
    obtain ⟨v, x, h1, rfl, h2⟩ := h i s e
    exact ⟨v, h1, h2⟩, fun i j xs ys p h1 h2 h3 h4 => by
    obtain ⟨v, x, q1, q2, q3⟩ := h i _ h1
    cases q2⟩
/-- what is owned by a slot -/
def Ow (σ : St) (Γ : Gm) (a : Addr) : Prop := (∃ (i : Nat) (xs : List PyData), Γ[i]? = some (some (.own xs)) ∧ σ[i]? = some (some (V.ref a))) ∨ ∃ (i : Nat) (w : V) (as : List Addr) (f : Fac), Γ[i]? = some (some (.fac w as f)) ∧ a ∈ as
theorem Sg.ow (g : Sg K B O H σ Γ) {a : Addr} (h : Ow σ Γ a) : O a ∧ B.H a = none := by
  rcases h with ⟨i, xs, h1, h2⟩ | ⟨i, w, as, f, h1, h2⟩
  · obtain ⟨v, q1, p, vs, rfl, r2, r0, r3, r4⟩ := g.slot i _ h1
    rw [h2] at q1
    cases q1
    exact ⟨r2, r0⟩
  · obtain ⟨v, q1, q2, q3, q4⟩ := g.slot i _ h1
    exact ⟨(q3 a h2).1, (q3 a h2).2.1⟩
noncomputable def reb (O : Addr → Prop) (H : Hp) (σ : St) (Γ : Gm) : Bs := ⟨fun a => O a ∧ ¬ Ow σ Γ a, hid (Ow σ Γ) H⟩
theorem Sg.rebase (g : Sg K B O H σ Γ) : Sg K (reb O H σ Γ) O H σ Γ := by
  refine ⟨hid_sub, fun a h => ?_, fun a h => ?_, g.live, g.len, fun i s h => ?_, g.inj⟩
  · by_cases q : Ow σ Γ a
    · refine .inr ?_
      show hid (Ow σ Γ) H a = none
      cases e : hid (Ow σ Γ) H a with
      | none => rfl
      | some o => exact absurd q (hid_iff.mp e).1
    · exact .inl ⟨h, q⟩
  · refine ⟨h.1, ?_⟩
    obtain ⟨o, q⟩ := g.live a h.1
    exact ⟨o, hid_iff.mpr ⟨h.2, q⟩⟩
  · obtain ⟨v, h1, h2⟩ := g.slot i s h
    refine ⟨v, h1, ?_⟩
    cases s with
    | d x => exact h2
    | raw w => first | assumption | exact h
    | fac w as f =>
      refine ⟨h2.1, fun a ha => ⟨(h2.2.1 a ha).1, ?_, (h2.2.1 a ha).2.2⟩, h2.2.2⟩
      show hid (Ow σ Γ) H a = none
      cases e : hid (Ow σ Γ) H a with
      | none => rfl
      | some o => exact absurd (.inr ⟨i, w, as, f, h, ha⟩) (hid_iff.mp e).1
    | own xs =>
      obtain ⟨p, vs, rfl, r2, r0, r3, r4⟩ := h2
      refine ⟨p, vs, rfl, r2, ?_, r3, r4⟩
      show hid (Ow σ Γ) H p = none
      cases e : hid (Ow σ Γ) H p with
      | none => rfl
      | some o => exact absurd (.inl ⟨i, xs, h, h1⟩) (hid_iff.mp e).1
/-- back to the base ahead of a loop -/
theorem Sg.back {O' : Addr → Prop} {H' : Hp} {σ' : St} {Γ' : Gm} (g : Sg K B O H σ Γ) (g' : Sg K (reb O H σ Γ) O' H' σ' Γ') : Sg K B O' H' σ' Γ' := by
  have sm : Same B.H (hid (Ow σ Γ) H) := fun b o e => hid_iff.mpr ⟨fun h => (by rw [(g.ow h).2] at e; cases e), g.ext b o e⟩
  refine ⟨sm.trans g'.ext, fun a h => ?_, fun a h => ?_, g'.live, g'.len, fun i s h => ?_, g'.inj⟩
  · rcases g'.fo a h with q | q
    · exact g.fo a q.1
    · exact .inr (sm.free q)
  · refine ⟨(g'.fs a ⟨(g.fs a h).1, fun q => ?_⟩).1, (g.fs a h).2⟩
    obtain ⟨o, e⟩ := (g.fs a h).2
    rw [(g.ow q).2] at e
    cases e
  · obtain ⟨v, h1, h2⟩ := g'.slot i s h
    refine ⟨v, h1, ?_⟩
    cases s with
    | d x => exact h2
    | raw w => first | assumption | exact h
    | fac w as f => exact ⟨h2.1, fun a ha => ⟨(h2.2.1 a ha).1, sm.free (h2.2.1 a ha).2.1, (h2.2.1 a ha).2.2⟩, h2.2.2⟩
    | own xs =>
      obtain ⟨p, vs, rfl, r2, r0, r3, r4⟩ := h2
      exact ⟨p, vs, rfl, r2, sm.free r0, r3, r4⟩
/-- what was there ahead of a loop, and not owned, is there in it -/
theorem Sg.keeps {O' : Addr → Prop} {H' : Hp} {σ' : St} {Γ' : Gm} (g : Sg K B O H σ Γ) (g' : Sg K (reb O H σ Γ) O' H' σ' Γ') : Same (hid O H) (hid O' H') := fun b o e => by
  have e1 := hid_iff.mp e
  have e2 : hid (Ow σ Γ) H b = some o := hid_iff.mpr ⟨fun h => e1.1 (g.ow h).1, e1.2⟩
  refine hid_iff.mpr ⟨fun h => ?_, g'.ext b o e2⟩
  rcases g'.fo b h with q | q
  · exact e1.1 q.1
  · have q' : hid (Ow σ Γ) H b = none := q
    rw [e2] at q'
    cases q'
theorem get_set_ne {α : Type} {l : List α} {i j : Nat} {x : α} (h : j ≠ i) : (l.set i x)[j]? = l[j]? := by
  rw [List.getElem?_set]
  rw [if_neg (fun e => h e.symm)]
theorem get_set_eq {α : Type} {l : List α} {i : Nat} {x y : α} (h : (l.set i x)[i]? = some y) : y = x ∧ i < l.length := by
  rw [List.getElem?_set] at h
  rw [if_pos rfl] at h
  by_cases q : i < l.length
  · rw [if_pos q] at h
    exact ⟨(Option.some.inj h).symm, q⟩
  · rw [if_neg q] at h
    cases h
theorem get_set_of {α : Type} {l : List α} {i : Nat} {x : α} (h : i < l.length) : (l.set i x)[i]? = some x := by
  rw [List.getElem?_set, if_pos rfl, if_pos h]
/-- a slot is set to data -/
theorem Sg.setD (g : Sg K B O H σ Γ) {i : Nat} {v : V} {x : PyData} (h : Dp K (hid O H) v x) : Sg K B O H (σ.set i (some v)) (Γ.set i (some (.d x))) := by
  refine ⟨g.ext, g.fo, g.fs, g.live, by rw [List.length_set, List.length_set, g.len], fun j s e => ?_, fun j k xs ys p h1 h2 h3 h4 => ?_⟩
  · by_cases q : j = i
    · subst q
      obtain ⟨e1, e2⟩ := get_set_eq e
      cases e1
      exact ⟨v, get_set_of (by rw [g.len]; exact e2), h⟩
    · rw [get_set_ne q] at e ⊢
      exact g.slot j s e
  · have nj : j ≠ i := fun q => by
      subst q
      have := (get_set_eq h1).1
      cases this
    have nk : k ≠ i := fun q => by
      subst q
      have := (get_set_eq h2).1
      cases this
    rw [get_set_ne nj] at h1 h3
    rw [get_set_ne nk] at h2 h4
    exact g.inj j k xs ys p h1 h2 h3 h4
/-- a slot is forgotten -/
theorem Sg.drop (g : Sg K B O H σ Γ) {i : Nat} {w : Option V} : Sg K B O H (σ.set i w) (Γ.set i none) := by
  refine ⟨g.ext, g.fo, g.fs, g.live, by rw [List.length_set, List.length_set, g.len], fun j s e => ?_, fun j k xs ys p h1 h2 h3 h4 => ?_⟩
  · by_cases q : j = i
    · subst q
      have := (get_set_eq e).1
      cases this
    · rw [get_set_ne q] at e ⊢
      exact g.slot j s e
  · have nj : j ≠ i := fun q => by
      subst q
      have := (get_set_eq h1).1
      cases this
    have nk : k ≠ i := fun q => by
      subst q
      have := (get_set_eq h2).1
      cases this
    rw [get_set_ne nj] at h1 h3
    rw [get_set_ne nk] at h2 h4
    exact g.inj j k xs ys p h1 h2 h3 h4
/-- fewer things are said -/
theorem Sg.weak (g : Sg K B O H σ Γ) {Γ' : Gm} (hl : Γ'.length = Γ.length) (h : ∀ (i : Nat) s, Γ'[i]? = some (some s) → Γ[i]? = some (some s)) : Sg K B O H σ Γ' :=
  ⟨g.ext, g.fo, g.fs, g.live, by rw [g.len, hl], fun i s e => g.slot i s (h i s e), fun i j xs ys p h1 h2 h3 h4 => g.inj i j xs ys p (h i _ h1) (h j _ h2) h3 h4⟩
/-- the owned part grows by p, of which nothing is known yet -/
theorem Sg.grow (g : Sg K B O H σ Γ) {p : Addr} (hp : H p = none) {H2 : Hp} (e : Same H H2) (h2 : ∃ o, H2 p = some o) : Sg K B (fun a => O a ∨ a = p) H2 σ Γ := by
  have sub : Same (hid O H) (hid (fun a => O a ∨ a = p) H2) := fun b o q => by
    have := hid_iff.mp q
    refine hid_iff.mpr ⟨fun z => ?_, e b o this.2⟩
    rcases z with z | z
    · exact this.1 z
    · subst z
      rw [hp] at this
      cases this.2
  refine ⟨g.ext.trans e, fun a h => ?_, fun a h => ⟨.inl (g.fs a h).1, (g.fs a h).2⟩, fun a h => ?_, g.len, fun i s q => ?_, g.inj⟩
  · rcases h with h | h
    · exact g.fo a h
    · subst h
      exact .inr (g.ext.free hp)
  · rcases h with h | h
    · obtain ⟨o, q⟩ := g.live a h
      exact ⟨o, e _ _ q⟩
    · subst h
      exact h2
  · obtain ⟨v, h1, h3⟩ := g.slot i s q
    refine ⟨v, h1, ?_⟩
    cases s with
    | d x => exact dp_mono sub _ _ h3
    | raw w => first | assumption | exact h
    | fac w as f => exact ⟨h3.1, fun a ha => let ⟨q1, q2, o, q3, q4⟩ := h3.2.1 a ha; ⟨.inl q1, q2, o, e _ _ q3, q4⟩, f.mono e sub h3.2.2⟩
    | own xs =>
      obtain ⟨p', vs, r1, r2, r0, r3, r4⟩ := h3
      exact ⟨p', vs, r1, .inl r2, r0, e _ _ r3, dpAll_mono sub _ _ r4⟩
/-- a slot is set to a new list -/
theorem Sg.setOwn (g : Sg K B O H σ Γ) {i : Nat} {p : Addr} {vs : List V} {xs : List PyData} (hp : H p = none) (e : Same H H2) (h : H2 p = some (.lst vs)) (ha : DpAll K (hid (fun a => O a ∨ a = p) H2) vs xs) :
    Sg K B (fun a => O a ∨ a = p) H2 (σ.set i (some (.ref p))) (Γ.set i (some (.own xs))) := by
  have g2 := g.grow hp e ⟨_, h⟩
  have away : ∀ (j : Nat) ys, Γ[j]? = some (some (.own ys)) → σ[j]? ≠ some (some (V.ref p)) := fun j ys q z => by
    obtain ⟨v, h1, p', vs', r1, r2, r0, r3, r4⟩ := g.slot j _ q
    rw [z] at h1
    cases h1
    cases r1
    exact g.fresh hp r2
  refine ⟨g2.ext, g2.fo, g2.fs, g2.live, by rw [List.length_set, List.length_set, g.len], fun j s q => ?_, fun j k ys zs a h1 h2 h3 h4 => ?_⟩
  · by_cases z : j = i
    · subst z
      obtain ⟨e1, e2⟩ := get_set_eq q
      cases e1
      exact ⟨.ref p, get_set_of (by rw [g.len]; exact e2), p, vs, rfl, .inr rfl, g.ext.free hp, h, ha⟩
    · rw [get_set_ne z] at q ⊢
      exact g2.slot j s q
  · by_cases zj : j = i
    · by_cases zk : k = i
      · rw [zj, zk]
      · rw [get_set_ne zk] at h2 h4
        subst zj
        have e3 := (get_set_eq h3).1
        cases e3
        exact absurd h4 (away k _ h2)
    · rw [get_set_ne zj] at h1 h3
      by_cases zk : k = i
      · subst zk
        have e4 := (get_set_eq h4).1
        cases e4
        exact absurd h3 (away j _ h1)
      · rw [get_set_ne zk] at h2 h4
        exact g.inj j k ys zs a h1 h2 h3 h4
/-- an owned list is changed -/
theorem Sg.mutOwn (g : Sg K B O H σ Γ) {i : Nat} {p : Addr} {xs ys : List PyData} {us : List V} (hi : Γ[i]? = some (some (.own xs))) (hs : σ[i]? = some (some (.ref p))) (ha : DpAll K (hid O H) us ys) :
    Sg K B O (upd H p (.lst us)) σ (Γ.set i (some (.own ys))) := by
  obtain ⟨hO, hB⟩ := g.ow (.inl ⟨i, xs, hi, hs⟩)
  obtain ⟨us0, hus0⟩ : ∃ us0, H p = some (.lst us0) := by
    obtain ⟨v, q1, p', vs', rfl, r2, r0, r3, r4⟩ := g.slot i _ hi
    rw [hs] at q1
    cases q1
    exact ⟨vs', r3⟩
  have hh : hid O (upd H p (.lst us)) = hid O H := by
    funext a
    unfold hid
    by_cases h : O a
    · rw [if_pos h, if_pos h]
    · rw [if_neg h, if_neg h, upd_ne (fun z : a = p => h (z.symm ▸ hO))]
  refine ⟨fun b o e => ?_, g.fo, g.fs, fun a h => ?_, by rw [List.length_set, g.len], fun j s q => ?_, fun j k zs ws a h1 h2 h3 h4 => ?_⟩
  · rw [upd_ne (fun z => by rw [z, hB] at e; cases e)]
    exact g.ext b o e
  · by_cases z : a = p
    · subst z
      exact ⟨_, upd_same⟩
    · rw [upd_ne z]
      exact g.live a h
  · by_cases z : j = i
    · subst z
      have e1 := (get_set_eq q).1
      cases e1
      exact ⟨.ref p, hs, p, us, rfl, hO, hB, upd_same, by rw [hh]; exact ha⟩
    · rw [get_set_ne z] at q
      obtain ⟨v, h1, h3⟩ := g.slot j s q
      refine ⟨v, h1, ?_⟩
      cases s with
      | d x =>
        show Dp K (hid O (upd H p (.lst us))) v x
        rw [hh]
        exact h3
      | raw w => first | assumption | exact h
      | fac w as f => exact ⟨h3.1, fun a ha => let ⟨q1, q2, o, q3, q4⟩ := h3.2.1 a ha; ⟨q1, q2, o, (upd_ne (fun z => by rw [z, hus0] at q3; cases q3; exact q4 _ rfl)).trans q3, q4⟩, by rw [hh]; exact f.away hus0 h3.2.2⟩
      | own zs =>
        obtain ⟨p', vs', r1, r2, r0, r3, r4⟩ := h3
        refine ⟨p', vs', r1, r2, r0, ?_, by rw [hh]; exact r4⟩
        rw [upd_ne (fun w => ?_)]
        · exact r3
        · subst w
          subst r1
          exact z (g.inj j i zs xs _ q hi h1 hs)
  · have f : ∀ (m : Nat) ts, (Γ.set i (some (SD.own ys)))[m]? = some (some (.own ts)) → ∃ ts', Γ[m]? = some (some (.own ts')) := fun m ts q => by
      by_cases z : m = i
      · subst z
        exact ⟨xs, hi⟩
      · rw [get_set_ne z] at q
        exact ⟨ts, q⟩
    obtain ⟨t1, f1⟩ := f j zs h1
    obtain ⟨t2, f2⟩ := f k ws h2
    exact g.inj j k t1 t2 a f1 f2 h3 h4
/-- an owned list is let go: from now on it is data -/
theorem Sg.share (g : Sg K B O H σ Γ) {i : Nat} {xs : List PyData} (hi : Γ[i]? = some (some (.own xs))) : ∃ O', Sg K B O' H σ (Γ.set i (some (.d (.list xs)))) := by
  obtain ⟨v, h1, p, vs, rfl, r2, r0, r3, r4⟩ := g.slot i _ hi
  have sub : Same (hid O H) (hid (fun a => O a ∧ a ≠ p) H) := fun b o q => hid_iff.mpr ⟨fun z => (hid_iff.mp q).1 z.1, (hid_iff.mp q).2⟩
  refine ⟨fun a => O a ∧ a ≠ p, g.ext, fun a h => g.fo a h.1, fun a h => ⟨⟨(g.fs a h).1, fun z => ?_⟩, (g.fs a h).2⟩, fun a h => g.live a h.1, by rw [List.length_set, g.len], fun j s q => ?_, fun j k zs ws a e1 e2 e3 e4 => ?_⟩
  · obtain ⟨o, e⟩ := (g.fs a h).2
    rw [z, r0] at e
    cases e
  · by_cases z : j = i
    · subst z
      have e1 := (get_set_eq q).1
      cases e1
      exact ⟨_, h1, .lst (.inl (.inl (hid_iff.mpr ⟨fun z => z.2 rfl, r3⟩))) (dpAll_mono sub _ _ r4)⟩
    · rw [get_set_ne z] at q
      obtain ⟨v, q1, q3⟩ := g.slot j s q
      refine ⟨v, q1, ?_⟩
      cases s with
      | d x => exact dp_mono sub _ _ q3
      | raw w => first | assumption | exact h
      | fac w as f => exact ⟨q3.1, fun a ha => let ⟨t1, t2, o, t3, t4⟩ := q3.2.1 a ha; ⟨⟨t1, fun w => by subst w; rw [r3] at t3; cases t3; exact t4 _ rfl⟩, t2, o, t3, t4⟩, f.mono (Same.refl H) sub q3.2.2⟩
      | own zs =>
        obtain ⟨p', vs', t1, t2, t0, t3, t4⟩ := q3
        subst t1
        exact ⟨p', vs', rfl, ⟨t2, fun w => by subst w; exact z (g.inj j i zs xs _ q hi q1 h1)⟩, t0, t3, dpAll_mono sub _ _ t4⟩
  · have nj : j ≠ i := fun q => by
      subst q
      have := (get_set_eq e1).1
      cases this
    have nk : k ≠ i := fun q => by
      subst q
      have := (get_set_eq e2).1
      cases this
    rw [get_set_ne nj] at e1
    rw [get_set_ne nk] at e2
    exact g.inj j k zs ws a e1 e2 e3 e4
/-- an owned list goes from one name to another (the first is forgotten) -/
theorem Sg.move (g : Sg K B O H σ Γ) {i j : Nat} {xs : List PyData} {v : V} (hi : Γ[i]? = some (some (.own xs))) (hv : σ[i]? = some (some v)) (hj : j < Γ.length) : Sg K B O H (σ.set j (some v)) ((Γ.set i none).set j (some (.own xs))) := by
  obtain ⟨v', h1, p, vs, rfl, r2, r0, r3, r4⟩ := g.slot i _ hi
  rw [h1] at hv
  cases hv
  refine ⟨g.ext, g.fo, g.fs, g.live, by rw [List.length_set, List.length_set, List.length_set, g.len], fun m s q => ?_, fun m k zs ws a e1 e2 e3 e4 => ?_⟩
  · by_cases z : m = j
    · subst z
      have e1 := (get_set_eq q).1
      cases e1
      exact ⟨_, get_set_of (by rw [g.len]; exact hj), p, vs, rfl, r2, r0, r3, r4⟩
    · rw [get_set_ne z] at q ⊢
      by_cases y : m = i
      · subst y
        have e1 := (get_set_eq q).1
        cases e1
      · rw [get_set_ne y] at q
        exact g.slot m s q
  · have f : ∀ (n : Nat) ts, ((Γ.set i none).set j (some (SD.own xs)))[n]? = some (some (.own ts)) → (σ.set j (some (V.ref p)))[n]? = some (some (V.ref a)) → (n = j ∧ a = p) ∨ (n ≠ j ∧ n ≠ i ∧ Γ[n]? = some (some (.own ts)) ∧ σ[n]? = some (some (V.ref a))) := fun n ts q w => by
      by_cases z : n = j
      · subst z
        have := (get_set_eq w).1
        cases this
        exact .inl ⟨rfl, rfl⟩
      · rw [get_set_ne z] at q w
        by_cases y : n = i
        · subst y
          have e1 := (get_set_eq q).1
          cases e1
        · rw [get_set_ne y] at q
          exact .inr ⟨z, y, q, w⟩
    rcases f m zs e1 e3 with ⟨z1, z2⟩ | ⟨z1, z2, z3, z4⟩
    · rcases f k ws e2 e4 with ⟨y1, y2⟩ | ⟨y1, y2, y3, y4⟩
      · rw [z1, y1]
      · subst z2
        exact absurd (g.inj k i _ _ _ y3 hi y4 h1) y2
    · rcases f k ws e2 e4 with ⟨y1, y2⟩ | ⟨y1, y2, y3, y4⟩
      · subst y2
        exact absurd (g.inj m i _ _ _ z3 hi z4 h1) z2
      · exact g.inj m k _ _ _ z3 y3 z4 y4
end
end EY
set_option autoImplicit false
set_option maxHeartbeats 1000000
namespace EY
open PySem L2
/-! ### weakest readings -/
structure wE (X : Cx) (e : Expr) (σ : L2.St) (H : Hp) (Q : VK) : Prop where
  run : ∀ (pins : List (Addr × Obj)) (s : Shared), Inv X pins σ H s → wpAny (model X.prog X.w) X.A (eval e X.env) (EP X pins σ Q) X.xe s
structure wT (X : Cx) (e : Expr) (σ : L2.St) (H : Hp) (Q : Bool → Hp → Prop) : Prop where
  run : ∀ (pins : List (Addr × Obj)) (s : Shared), Inv X pins σ H s → wpAny (model X.prog X.w) X.A (isTrue e X.env (eval e X.env)) (TP X pins σ Q) X.xe s
structure wW (X : Cx) (e : Expr) (σ : L2.St) (H : Hp) (Q : Bool → Hp → Prop) : Prop where
  run : ∀ (whole : Sem Value) (pins : List (Addr × Obj)) (s : Shared), Inv X pins σ H s → wpAny (model X.prog X.w) X.A (isTrue e X.env whole) (TP X pins σ Q) X.xe s
structure wA (X : Cx) (es : List Expr) (σ : L2.St) (H : Hp) (Q : List V → Hp → Prop) : Prop where
  run : ∀ (pos : Pos) (pins : List (Addr × Obj)) (s : Shared), Inv X pins σ H s → wpAny (model X.prog X.w) X.A (spliced (backTo pos (starEach es X.env))) (AP X pins σ Q) X.xe s
structure wS (X : Cx) (st : Stmt) (D : Ends) (σ : L2.St) (H : Hp) : Prop where
  run : ∀ (pins : List (Addr × Obj)) (s : Shared), Inv X pins σ H s → wpAny (model X.prog X.w) X.A (exec st X.env) (SP X pins D) X.xe s
structure wB (X : Cx) (st : List Stmt) (D : Ends) (σ : L2.St) (H : Hp) : Prop where
  run : ∀ (pins : List (Addr × Obj)) (s : Shared), Inv X pins σ H s → wpAny (model X.prog X.w) X.A (execs st X.env) (SP X pins D) X.xe s
structure wO (X : Cx) (e : Option Expr) (σ : L2.St) (H : Hp) (Q : Option Int → Hp → Prop) : Prop where
  run : ∀ (pins : List (Addr × Obj)) (s : Shared), Inv X pins σ H s → wpAny (model X.prog X.w) X.A (evalPart e X.env) (fun u s' => ∃ o H', Inv X pins σ H' s' ∧ IsPart u o ∧ Q o H') X.xe s
structure wI (X : Cx) (tg iter : Expr) (σ : L2.St) (H : Hp) (R : It → Hp → Prop) : Prop where
  run : ∀ (pins : List (Addr × Obj)) (s : Shared), Inv X pins σ H s → wpAny (model X.prog X.w) X.A (eval iter X.env) (fun v s1 => wpAny (model X.prog X.w) X.A (pyIter v) (PIE X pins σ tg R) X.xe s1) X.xe s
section
variable {X : Cx} {e : Expr} {es : List Expr} {st : Stmt} {sts : List Stmt} {σ : L2.St} {H : Hp}
theorem pe_w : PE X e (wE X e) := ⟨fun pins s _ _ _ I h => h.run pins s I⟩
theorem pt_w : PT X e (wT X e) := ⟨fun pins s _ _ _ I h => h.run pins s I⟩
theorem pw_w : PW X e (wW X e) := ⟨fun w pins s _ _ _ I h => h.run w pins s I⟩
theorem pa_w : PA X es (wA X es) := ⟨fun pos pins s _ _ _ I h => h.run pos pins s I⟩
theorem ps_w : PS X st (wS X st) := ⟨fun pins s _ _ _ I h => h.run pins s I⟩
theorem pss_w : PSs X sts (wB X sts) := ⟨fun pins s _ _ _ I h => h.run pins s I⟩
theorem po_w {o : Option Expr} : PO X o (wO X o) := ⟨fun pins s _ _ _ I h => h.run pins s I⟩
theorem pi_w {tg : Expr} : PI X tg e (wI X tg e) := ⟨fun pins s _ _ _ I h => h.run pins s I⟩
theorem wE_of {t : TE} {Q : VK} (h : PE X e t) (q : t σ H Q) : wE X e σ H Q := ⟨fun pins s I => h.run pins s σ H Q I q⟩
theorem wT_of {t : TT} {Q : Bool → Hp → Prop} (h : PT X e t) (q : t σ H Q) : wT X e σ H Q := ⟨fun pins s I => h.run pins s σ H Q I q⟩
theorem wW_of {t : TT} {Q : Bool → Hp → Prop} (h : PW X e t) (q : t σ H Q) : wW X e σ H Q := ⟨fun w pins s I => h.run w pins s σ H Q I q⟩
theorem wA_of {t : TA} {Q : List V → Hp → Prop} (h : PA X es t) (q : t σ H Q) : wA X es σ H Q := ⟨fun pos pins s I => h.run pos pins s σ H Q I q⟩
theorem wS_of {t : TS} {D : Ends} (h : PS X st t) (q : t D σ H) : wS X st D σ H := ⟨fun pins s I => h.run pins s σ H D I q⟩
theorem wB_of {t : TS} {D : Ends} (h : PSs X sts t) (q : t D σ H) : wB X sts D σ H := ⟨fun pins s I => h.run pins s σ H D I q⟩
theorem wO_of {o : Option Expr} {t : TO} {Q : Option Int → Hp → Prop} (h : PO X o t) (q : t σ H Q) : wO X o σ H Q := ⟨fun pins s I => h.run pins s σ H Q I q⟩
theorem wI_of {tg : Expr} {t : TI} {R : It → Hp → Prop} (h : PI X tg e t) (q : t σ H R) : wI X tg e σ H R := ⟨fun pins s I => h.run pins s σ H R I q⟩
end

/-! ### the judgements -/
abbrev Live (O : Addr → Prop) (H : Hp) : Prop := ∀ a, O a → ∃ o, H a = some o
def DE (X : Cx) (e : Expr) (Γ : Gm) (d : PyData) : Prop := ∀ (H0 : Bs) (O : Addr → Prop) (H : Hp) (σ : L2.St) (Q : VK), Sg X.K H0 O H σ Γ → (∀ v H2, Same H H2 → Dp X.K (hid O H2) v d → Q v H2) → wE X e σ H Q
/-- a list to be read; one that is tracked; a new one -/
def DR (X : Cx) (e : Expr) (Γ : Gm) (xs : List PyData) : Prop := ∀ (H0 : Bs) (O : Addr → Prop) (H : Hp) (σ : L2.St) (Q : VK), Sg X.K H0 O H σ Γ → (∀ p vs H2, Same H H2 → SqL X.K H2 p vs → DpAll X.K (hid O H2) vs xs → Q (.ref p) H2) → wE X e σ H Q
def DB (X : Cx) (e : Expr) (Γ : Gm) (xs : List PyData) : Prop := ∀ (H0 : Bs) (O : Addr → Prop) (H : Hp) (σ : L2.St) (Q : VK), Sg X.K H0 O H σ Γ → (∀ p vs H2, Same H H2 → H2 p = some (.lst vs) → DpAll X.K (hid O H2) vs xs → Q (.ref p) H2) → wE X e σ H Q
def DL (X : Cx) (e : Expr) (Γ : Gm) (xs : List PyData) : Prop := ∀ (H0 : Bs) (O : Addr → Prop) (H : Hp) (σ : L2.St) (Q : VK), Sg X.K H0 O H σ Γ →
  (∀ p vs H2, H p = none → Same H H2 → H2 p = some (.lst vs) → DpAll X.K (hid (fun a => O a ∨ a = p) H2) vs xs → Q (.ref p) H2) → wE X e σ H Q
def DT (X : Cx) (e : Expr) (Γ : Gm) (b : Bool) : Prop := ∀ (H0 : Bs) (O : Addr → Prop) (H : Hp) (σ : L2.St) (Q : Bool → Hp → Prop), Sg X.K H0 O H σ Γ → (∀ H2, Same H H2 → Q b H2) → wT X e σ H Q
def DW (X : Cx) (e : Expr) (Γ : Gm) (b : Bool) : Prop := ∀ (H0 : Bs) (O : Addr → Prop) (H : Hp) (σ : L2.St) (Q : Bool → Hp → Prop), Sg X.K H0 O H σ Γ → (∀ H2, Same H H2 → Q b H2) → wW X e σ H Q
def DA (X : Cx) (es : List Expr) (Γ : Gm) (ds : List PyData) : Prop := ∀ (H0 : Bs) (O : Addr → Prop) (H : Hp) (σ : L2.St) (Q : List V → Hp → Prop), Sg X.K H0 O H σ Γ → (∀ vs H2, Same H H2 → DpAll X.K (hid O H2) vs ds → Q vs H2) → wA X es σ H Q
def DO (X : Cx) (e : Option Expr) (Γ : Gm) (o : Option Int) : Prop := ∀ (H0 : Bs) (O : Addr → Prop) (H : Hp) (σ : L2.St) (Q : Option Int → Hp → Prop), Sg X.K H0 O H σ Γ → (∀ H2, Same H H2 → Q o H2) → wO X e σ H Q

section
variable {X : Cx} {Γ : Gm} {a b c e : Expr} {es : List Expr} {pos : Pos} {d d1 d2 : PyData} {xs ys : List PyData}
theorem DE.is {d' : PyData} (h : DE X e Γ d) (q : d = d') : DE X e Γ d' := q ▸ h
theorem DT.is {k k' : Bool} (h : DT X e Γ k) (q : k = k') : DT X e Γ k' := q ▸ h
theorem DL.is {ys : List PyData} (h : DL X e Γ xs) (q : xs = ys) : DL X e Γ ys := q ▸ h
theorem DR.is {ys : List PyData} (h : DR X e Γ xs) (q : xs = ys) : DR X e Γ ys := q ▸ h
theorem hid_grow {O : Addr → Prop} {p : Addr} {H : Hp} : Same (hid (fun a => O a ∨ a = p) H) (hid O H) := fun b o q => hid_iff.mpr ⟨fun z => (hid_iff.mp q).1 (.inl z), (hid_iff.mp q).2⟩
theorem DL.db (h : DL X e Γ xs) : DB X e Γ xs := fun H0 O H σ Q g q => h H0 O H σ Q g fun p vs H2 _ s h1 h2 => q p vs H2 s h1 (dpAll_mono hid_grow _ _ h2)
theorem DB.dr (h : DB X e Γ xs) : DR X e Γ xs := fun H0 O H σ Q g q => h H0 O H σ Q g fun p vs H2 s h1 h2 => q p vs H2 s (.inl (.inl h1)) h2
theorem DL.dr (h : DL X e Γ xs) : DR X e Γ xs := h.db.dr
theorem DE.dr (h : DE X e Γ (.list xs)) : DR X e Γ xs := fun H0 O H σ Q g q => h H0 O H σ Q g fun v H2 s hd => by
  cases hd with
  | lst hs ha => exact q _ _ H2 s (hid_sub.seq hs) ha
theorem DL.de (h : DL X e Γ xs) : DE X e Γ (.list xs) := fun H0 O H σ Q g q => h H0 O H σ Q g fun p vs H2 hp s h1 h2 =>
  q _ H2 s (.lst (.inl (.inl (hid_iff.mpr ⟨g.fresh hp, h1⟩))) (dpAll_mono hid_grow _ _ h2))

/-! ### names and constants -/
theorem de_var (i : Nat) {x : Str} (h : Γ[i]? = some (some (.d d))) (hN : X.N[i]? = some x := by rfl) (hv : Vis X.env.scope x := by first | exact Or.inl rfl | exact Or.inr (Or.inl rfl) | exact Or.inr (Or.inr rfl))
    (hd : (x == ("__debug__" : Str)) = false := by decide) (hcd : (x == ("__classdict__" : Str)) = false := by decide) : DE X (.Name x pos) Γ d := fun H0 O H σ Q g q => by
  obtain ⟨v, h1, h2⟩ := g.slot i _ h
  exact wE_of (pv i hN hv hd hcd) ⟨v, h1, q v H (Same.refl H) h2⟩
theorem db_var (i : Nat) {x : Str} (h : Γ[i]? = some (some (.own xs))) (hN : X.N[i]? = some x := by rfl) (hv : Vis X.env.scope x := by first | exact Or.inl rfl | exact Or.inr (Or.inl rfl) | exact Or.inr (Or.inr rfl))
    (hd : (x == ("__debug__" : Str)) = false := by decide) (hcd : (x == ("__classdict__" : Str)) = false := by decide) : DB X (.Name x pos) Γ xs := fun H0 O H σ Q g q => by
  obtain ⟨v, h1, p, vs, rfl, r2, r0, r3, r4⟩ := g.slot i _ h
  exact wE_of (pv i hN hv hd hcd) ⟨_, h1, q p vs H (Same.refl H) r3 r4⟩
theorem de_int {i : Int} {j : Nat} : DE X (.Constant (.int i) j pos) Γ (.int i) := fun H0 O H σ Q g q => wE_of pe_int (q _ H (Same.refl H) (.int i))
theorem de_bool {i : Bool} {j : Nat} : DE X (.Constant (.bool i) j pos) Γ (.bool i) := fun H0 O H σ Q g q => wE_of pe_bl (q _ H (Same.refl H) (.bl i))
theorem de_none {j : Nat} : DE X (.Constant .none j pos) Γ .none := fun H0 O H σ Q g q => wE_of pe_non (q _ H (Same.refl H) .non)
theorem de_str {i : Str} {j : Nat} : DE X (.Constant (.str i) j pos) Γ (.str i) := fun H0 O H σ Q g q => wE_of pe_str (q _ H (Same.refl H) (.str i))
/-- a module's constant -/
theorem de_globI {x : Str} {n : Int} {t : Tok} (hm : X.mg x = some (.int n t)) (hg : Gl X x := by rfl) (hdb : (x == ("__debug__" : Str)) = false := by decide) : DE X (.Name x pos) Γ (.int n) := fun H0 O H σ Q g q =>
  wE_of (pe_glob hg hm (v := .int n) ⟨t, rfl⟩ hdb) (q _ H (Same.refl H) (.int n))

/-! ### operators -/
theorem de_bin {op : Operator} {r : R2} (ho : OpR X (binaryOp op) r) (ha : DE X a Γ d1) (hb : DE X b Γ d2)
    (hr : ∀ (O : Addr → Prop) H x y (Q : VK), Live O H → Dp X.K (hid O H) x d1 → Dp X.K (hid O H) y d2 → (∀ v H2, Same H H2 → Dp X.K (hid O H2) v d → Q v H2) → r x y H Q) : DE X (.BinOp a op b pos) Γ d := fun H0 O H σ Q g q =>
  wE_of (pe_op ho pe_w pe_w) (ha H0 O H σ _ g fun v H2 s2 d2 => hb H0 O H2 σ _ (g.step s2) fun u H3 s3 d3 => hr O H3 v u Q (g.step (s2.trans s3)).live (dp_mono (hid_mono s3) _ _ d2) d3 fun z H4 s4 q4 => q z H4 ((s2.trans s3).trans s4) q4)
/-- a op b -/
def wR (X : Cx) (f : Value → Value → Sem Value) : R2 := fun x y H Q => ∀ (pins : List (Addr × Obj)) (s : Shared) (σ : L2.St) (v u : Value), Inv X pins σ H s → RelV x v → RelV y u → wpAny (model X.prog X.w) X.A (f v u) (EP X pins σ Q) X.xe s
theorem opr_w {f : Value → Value → Sem Value} : OpR X f (wR X f) := fun pins s σ _ _ _ v u _ I r1 r2 h => h pins s σ v u I r1 r2
theorem wR_of {f : Value → Value → Sem Value} {r : R2} {x y : V} {H : Hp} {Q : VK} (h : OpR X f r) (q : r x y H Q) : wR X f x y H Q := fun pins s σ v u I r1 r2 => h pins s σ H x y v u Q I r1 r2 q
def CE (X : Cx) (a : Expr) (op : CmpOp) (b : Expr) (Γ : Gm) (k : Bool) : Prop := ∀ (H0 : Bs) (O : Addr → Prop) (H : Hp) (σ : L2.St) (Q : VK), Sg X.K H0 O H σ Γ → (∀ H2, Same H H2 → Q (.bl k) H2) →
  wE X a σ H fun x H1 => wE X b σ H1 fun y H2 => wR X (compareOp op) x y H2 Q
theorem CE.is {op : CmpOp} {k k' : Bool} (h : CE X a op b Γ k) (q : k = k') : CE X a op b Γ k' := q ▸ h
theorem CE.de {op : CmpOp} {k : Bool} (h : CE X a op b Γ k) (hm : behindInMarks op b = false := by first | exact nomark _ | with_unfolding_all rfl) : DE X (.Compare a [op] [b] pos) Γ (.bool k) := fun H0 O H σ Q g q =>
  wE_of (pe_cmpR opr_w pe_w pe_w hm) (h H0 O H σ Q g fun H2 s2 => q _ H2 s2 (.bl k))
theorem CE.dt {op : CmpOp} {k : Bool} (h : CE X a op b Γ k) (hm : behindInMarks op b = false := by first | exact nomark _ | with_unfolding_all rfl) : DT X (.Compare a [op] [b] pos) Γ k := fun H0 O H σ Q g q =>
  wT_of (pt_cmpR opr_w pe_w pe_w hm) (h H0 O H σ _ g fun H2 s2 => ⟨k, rfl, q H2 s2⟩)
theorem ce_of {op : CmpOp} {k : Bool} {r : R2} (ho : OpR X (compareOp op) r) (ha : DE X a Γ d1) (hb : DE X b Γ d2)
    (hr : ∀ (O : Addr → Prop) H x y (Q : VK), Dp X.K (hid O H) x d1 → Dp X.K (hid O H) y d2 → Q (.bl k) H → r x y H Q) : CE X a op b Γ k := fun H0 O H σ Q g q =>
  ha H0 O H σ _ g fun v H2 s2 d2 => hb H0 O H2 σ _ (g.step s2) fun u H3 s3 d3 => wR_of ho (hr O H3 v u Q (dp_mono (hid_mono s3) _ _ d2) d3 (q H3 (s2.trans s3)))
variable {i j : Int}
theorem de_add (ha : DE X a Γ (.int i)) (hb : DE X b Γ (.int j)) : DE X (.BinOp a .Add b pos) Γ (.int (i + j)) := de_bin op_add ha hb fun O H x y Q _ h1 h2 q => by
  cases h1; cases h2; exact ⟨_, _, rfl, rfl, q _ H (Same.refl H) (.int _)⟩
theorem de_sub (ha : DE X a Γ (.int i)) (hb : DE X b Γ (.int j)) : DE X (.BinOp a .Sub b pos) Γ (.int (i - j)) := de_bin op_sub ha hb fun O H x y Q _ h1 h2 q => by
  cases h1; cases h2; exact ⟨_, _, rfl, rfl, q _ H (Same.refl H) (.int _)⟩
theorem de_mul (ha : DE X a Γ (.int i)) (hb : DE X b Γ (.int j)) (hc : CMul i j) : DE X (.BinOp a .Mult b pos) Γ (.int (i * j)) := de_bin op_mul ha hb fun O H x y Q _ h1 h2 q => by
  cases h1; cases h2; exact ⟨_, _, rfl, rfl, hc, q _ H (Same.refl H) (.int _)⟩
theorem de_mod (ha : DE X a Γ (.int i)) (hb : DE X b Γ (.int j)) (hc : 0 < j) : DE X (.BinOp a .Mod b pos) Γ (.int (i % j)) := de_bin op_mod ha hb fun O H x y Q _ h1 h2 q => by
  cases h1; cases h2; exact ⟨_, _, rfl, rfl, hc, q _ H (Same.refl H) (.int _)⟩
theorem de_fdiv (ha : DE X a Γ (.int i)) (hb : DE X b Γ (.int j)) (hc : CDiv i j) : DE X (.BinOp a .FloorDiv b pos) Γ (.int (i / j)) := de_bin op_fdiv ha hb fun O H x y Q _ h1 h2 q => by
  cases h1; cases h2; exact ⟨_, _, rfl, rfl, hc, q _ H (Same.refl H) (.int _)⟩
theorem de_pow (ha : DE X a Γ (.int i)) (hb : DE X b Γ (.int j)) (hc : CPow i j) : DE X (.BinOp a .Pow b pos) Γ (.int (i ^ j.toNat)) := de_bin op_pow ha hb fun O H x y Q _ h1 h2 q => by
  cases h1; cases h2; exact ⟨_, _, rfl, rfl, hc, q _ H (Same.refl H) (.int _)⟩
theorem de_neg (ha : DE X a Γ (.int i)) : DE X (.UnaryOp .USub a pos) Γ (.int (-i)) := fun H0 O H σ Q g q =>
  wE_of (pe_un un_neg pe_w) (ha H0 O H σ _ g fun v H2 s2 d2 => by cases d2; exact ⟨_, rfl, q _ H2 s2 (.int _)⟩)
theorem ce_lt (ha : DE X a Γ (.int i)) (hb : DE X b Γ (.int j)) : CE X a .Lt b Γ (decide (i < j)) := ce_of op_lt ha hb fun O H x y Q h1 h2 q => by
  cases h1; cases h2; exact ⟨_, _, rfl, rfl, q⟩
theorem ce_le (ha : DE X a Γ (.int i)) (hb : DE X b Γ (.int j)) : CE X a .LtE b Γ (decide (i ≤ j)) := ce_of op_le ha hb fun O H x y Q h1 h2 q => by
  cases h1; cases h2; exact ⟨_, _, rfl, rfl, q⟩
theorem ce_gt (ha : DE X a Γ (.int i)) (hb : DE X b Γ (.int j)) : CE X a .Gt b Γ (decide (j < i)) := ce_of op_gt ha hb fun O H x y Q h1 h2 q => by
  cases h1; cases h2; exact ⟨_, _, rfl, rfl, q⟩
theorem ce_ge (ha : DE X a Γ (.int i)) (hb : DE X b Γ (.int j)) : CE X a .GtE b Γ (decide (j ≤ i)) := ce_of op_ge ha hb fun O H x y Q h1 h2 q => by
  cases h1; cases h2; exact ⟨_, _, rfl, rfl, q⟩
theorem dec_int (i j : Int) : decide (V.int i = V.int j) = decide (i = j) := by
  by_cases h : i = j
  · subst h; rw [decide_eq_true rfl, decide_eq_true rfl]
  · rw [decide_eq_false h, decide_eq_false (fun z => h (V.int.inj z))]
theorem dec_bl (i j : Bool) : decide (V.bl i = V.bl j) = decide (i = j) := by
  cases i <;> cases j <;> rfl
theorem dec_str (i j : Str) : decide (V.str i = V.str j) = decide (i = j) := by
  by_cases h : i = j
  · subst h; rw [decide_eq_true rfl, decide_eq_true rfl]
  · rw [decide_eq_false h, decide_eq_false (fun z => h (V.str.inj z))]
theorem ce_eq (ha : DE X a Γ (.int i)) (hb : DE X b Γ (.int j)) : CE X a .Eq b Γ (decide (i = j)) := ce_of op_eq ha hb fun O H x y Q h1 h2 q => by
  cases h1; cases h2; refine ⟨rfl, ?_⟩; rw [dec_int]; exact q
theorem ce_ne (ha : DE X a Γ (.int i)) (hb : DE X b Γ (.int j)) : CE X a .NotEq b Γ (!decide (i = j)) := ce_of op_ne ha hb fun O H x y Q h1 h2 q => by
  cases h1; cases h2; refine ⟨rfl, ?_⟩; rw [dec_int]; exact q
theorem ce_eqB {i j : Bool} (ha : DE X a Γ (.bool i)) (hb : DE X b Γ (.bool j)) : CE X a .Eq b Γ (decide (i = j)) := ce_of op_eq ha hb fun O H x y Q h1 h2 q => by
  cases h1; cases h2; refine ⟨rfl, ?_⟩; rw [dec_bl]; exact q
theorem ce_neB {i j : Bool} (ha : DE X a Γ (.bool i)) (hb : DE X b Γ (.bool j)) : CE X a .NotEq b Γ (!decide (i = j)) := ce_of op_ne ha hb fun O H x y Q h1 h2 q => by
  cases h1; cases h2; refine ⟨rfl, ?_⟩; rw [dec_bl]; exact q
theorem ce_eqS {i j : Str} (ha : DE X a Γ (.str i)) (hb : DE X b Γ (.str j)) : CE X a .Eq b Γ (decide (i = j)) := ce_of op_eq ha hb fun O H x y Q h1 h2 q => by
  cases h1; cases h2; refine ⟨rfl, ?_⟩; rw [dec_str]; exact q
theorem ce_neS {i j : Str} (ha : DE X a Γ (.str i)) (hb : DE X b Γ (.str j)) : CE X a .NotEq b Γ (!decide (i = j)) := ce_of op_ne ha hb fun O H x y Q h1 h2 q => by
  cases h1; cases h2; refine ⟨rfl, ?_⟩; rw [dec_str]; exact q
/-- == and != of data -/
theorem ce_eqD {k : Nat} (hr : Room k X.A) (ha : DE X a Γ d1) (hb : DE X b Γ d2) (s1 : SeqAt.shaped d1 = true) (s2 : SeqAt.shaped d2 = true) : CE X a .Eq b Γ (PyData.eqv d1 d2) :=
  ce_of (op_eqD hr.units) ha hb fun O H x y Q h1 h2 q => ⟨_, _, dp_mono hid_sub _ _ h1, dp_mono hid_sub _ _ h2, s1, s2, q⟩
theorem ce_neD {k : Nat} (hr : Room k X.A) (ha : DE X a Γ d1) (hb : DE X b Γ d2) (s1 : SeqAt.shaped d1 = true) (s2 : SeqAt.shaped d2 = true) : CE X a .NotEq b Γ (!PyData.eqv d1 d2) :=
  ce_of (op_neD hr.units) ha hb fun O H x y Q h1 h2 q => ⟨_, _, dp_mono hid_sub _ _ h1, dp_mono hid_sub _ _ h2, s1, s2, q⟩
/-- of lists to be read -/
theorem ce_eqL {k : Nat} (hr : Room k X.A) (ha : DR X a Γ xs) (hb : DR X b Γ ys) (s1 : SeqAt.shaped (.list xs) = true) (s2 : SeqAt.shaped (.list ys) = true) : CE X a .Eq b Γ (PyData.eqv (.list xs) (.list ys)) := fun H0 O H σ Q g q =>
  ha H0 O H σ _ g fun p vs H2 e2 l2 a2 => hb H0 O H2 σ _ (g.step e2) fun p' vs' H3 e3 l3 a3 => wR_of (op_eqD hr.units)
    ⟨_, _, .lst (e3.seq l2) (dpAll_mono (hid_sub.trans e3) _ _ a2), .lst l3 (dpAll_mono hid_sub _ _ a3), s1, s2, q H3 (e2.trans e3)⟩
theorem ce_neL {k : Nat} (hr : Room k X.A) (ha : DR X a Γ xs) (hb : DR X b Γ ys) (s1 : SeqAt.shaped (.list xs) = true) (s2 : SeqAt.shaped (.list ys) = true) : CE X a .NotEq b Γ (!PyData.eqv (.list xs) (.list ys)) := fun H0 O H σ Q g q =>
  ha H0 O H σ _ g fun p vs H2 e2 l2 a2 => hb H0 O H2 σ _ (g.step e2) fun p' vs' H3 e3 l3 a3 => wR_of (op_neD hr.units)
    ⟨_, _, .lst (e3.seq l2) (dpAll_mono (hid_sub.trans e3) _ _ a2), .lst l3 (dpAll_mono hid_sub _ _ a3), s1, s2, q H3 (e2.trans e3)⟩
def isNone : PyData → Bool
  | .none => true
  | _ => false
theorem dp_non {K : PySem.W.Frag} {H : Hp} {v : V} (h : Dp K H v d) : decide (v = .non) = isNone d := by
  cases h <;> rfl
theorem ce_isN {k' : Nat} {p' : Pos} (ha : DE X a Γ d) : CE X a .Is (.Constant .none k' p') Γ (isNone d) := ce_of op_isN ha de_none fun O H x y Q h1 h2 q => by
  cases h2; refine ⟨rfl, ?_⟩; rw [dp_non h1]; exact q
theorem ce_notN {k' : Nat} {p' : Pos} (ha : DE X a Γ d) : CE X a .IsNot (.Constant .none k' p') Γ (!isNone d) := ce_of op_notN ha de_none fun O H x y Q h1 h2 q => by
  cases h2; refine ⟨rfl, ?_⟩; rw [dp_non h1]; exact q
/-- a op b op' c of ints -/
def CH (X : Cx) (a b c : Expr) (op op' : CmpOp) (Γ : Gm) (k : Bool) : Prop := ∃ (r r' : R2), OpR X (compareOp op) r ∧ OpR X (compareOp op') r' ∧ ∀ (H0 : Bs) (O : Addr → Prop) (H : Hp) (σ : L2.St) (Q : VK), Sg X.K H0 O H σ Γ → (∀ H2, Same H H2 → Q (.bl k) H2) → tChain r r' (wE X a) (wE X b) (wE X c) σ H Q
theorem CH.de {op op' : CmpOp} {k : Bool} (h : CH X a b c op op' Γ k) (hm : lastMarks [op, op'] [b, c] = false := by with_unfolding_all rfl) : DE X (.Compare a [op, op'] [b, c] pos) Γ (.bool k) := fun H0 O H σ Q g q => by
  obtain ⟨r, r', h1, h2, h3⟩ := h
  exact wE_of (pe_chain h1 h2 pe_w pe_w pe_w hm) (h3 H0 O H σ Q g fun H2 s2 => q _ H2 s2 (.bl k))
theorem CH.dt {op op' : CmpOp} {k : Bool} (h : CH X a b c op op' Γ k) (hm : lastMarks [op, op'] [b, c] = false := by with_unfolding_all rfl) : DT X (.Compare a [op, op'] [b, c] pos) Γ k := fun H0 O H σ Q g q => by
  obtain ⟨r, r', h1, h2, h3⟩ := h
  exact wT_of (pt_chain h1 h2 pe_w pe_w pe_w hm) (h3 H0 O H σ _ g fun H2 s2 => ⟨k, rfl, q H2 s2⟩)
theorem ch_ints {op op' : CmpOp} {f f' : Int → Int → Bool} {m : Int} (ho : OpR X (compareOp op) (rI0 fun i j => .bl (f i j))) (ho' : OpR X (compareOp op') (rI0 fun i j => .bl (f' i j))) (ha : DE X a Γ (.int i)) (hb : DE X b Γ (.int j)) (hc : DE X c Γ (.int m)) :
    CH X a b c op op' Γ (f i j && f' j m) := ⟨_, _, ho, ho', fun H0 O H σ Q g q =>
  ha H0 O H σ _ g fun v H2 s2 d2 => hb H0 O H2 σ _ (g.step s2) fun u H3 s3 d3 => by
    cases d2
    cases d3
    refine ⟨_, _, rfl, rfl, _, rfl, ?_⟩
    cases hf : f i j with
    | true =>
      rw [if_pos rfl]
      refine hc H0 O H3 σ _ (g.step (s2.trans s3)) fun w H4 s4 d4 => ?_
      cases d4
      refine ⟨_, _, rfl, rfl, ?_⟩
      have := q H4 ((s2.trans s3).trans s4)
      rw [hf] at this
      exact this
    | false =>
      rw [if_neg Bool.false_ne_true]
      have := q H3 (s2.trans s3)
      rw [hf] at this
      exact this⟩
theorem ch_le_lt {m : Int} (ha : DE X a Γ (.int i)) (hb : DE X b Γ (.int j)) (hc : DE X c Γ (.int m)) : CH X a b c .LtE .Lt Γ (decide (i ≤ j) && decide (j < m)) :=
  ch_ints (f := fun i j => decide (i ≤ j)) (f' := fun i j => decide (i < j)) op_le op_lt ha hb hc
theorem ch_le_le {m : Int} (ha : DE X a Γ (.int i)) (hb : DE X b Γ (.int j)) (hc : DE X c Γ (.int m)) : CH X a b c .LtE .LtE Γ (decide (i ≤ j) && decide (j ≤ m)) :=
  ch_ints (f := fun i j => decide (i ≤ j)) (f' := fun i j => decide (i ≤ j)) op_le op_le ha hb hc
theorem ch_lt_lt {m : Int} (ha : DE X a Γ (.int i)) (hb : DE X b Γ (.int j)) (hc : DE X c Γ (.int m)) : CH X a b c .Lt .Lt Γ (decide (i < j) && decide (j < m)) :=
  ch_ints (f := fun i j => decide (i < j)) (f' := fun i j => decide (i < j)) op_lt op_lt ha hb hc

/-! ### truths -/
variable {k k' : Bool} {rest : List Expr}
theorem dt_of (h : DE X e Γ (.bool k)) (he : ∀ whole, isTrue e X.env whole = (do let v ← whole; standAt e.pos; holding [v] (truthy v)) := by intro _; rfl) : DT X e Γ k := fun H0 O H σ Q g q =>
  wT_of (pt_val pe_w he) (h H0 O H σ _ g fun v H2 s2 d2 => by cases d2; exact ⟨_, rfl, q H2 s2⟩)
theorem DW.dt (h : DW X e Γ k) : DT X e Γ k := fun H0 O H σ Q g q => ⟨fun pins s I => (h H0 O H σ Q g q).run _ pins s I⟩
theorem dw_and1 (h : DT X a Γ k) : DW X (.BoolOp .And [a] pos) Γ k := fun H0 O H σ Q g q => wW_of (pw_and1 pt_w) (h H0 O H σ Q g q)
theorem dw_or1 (h : DT X a Γ k) : DW X (.BoolOp .Or [a] pos) Γ k := fun H0 O H σ Q g q => wW_of (pw_or1 pt_w) (h H0 O H σ Q g q)
theorem dw_and (h1 : DT X a Γ k) (h2 : k = true → DW X (.BoolOp .And (b :: rest) pos) Γ k') : DW X (.BoolOp .And (a :: b :: rest) pos) Γ (k && k') := fun H0 O H σ Q g q =>
  wW_of (pw_and pt_w pw_w) (h1 H0 O H σ _ g fun H2 s2 => by
    cases k with
    | true => rw [if_pos rfl]; exact h2 rfl H0 O H2 σ Q (g.step s2) fun H3 s3 => q H3 (s2.trans s3)
    | false => rw [if_neg Bool.false_ne_true]; exact q H2 s2)
theorem dw_or (h1 : DT X a Γ k) (h2 : k = false → DW X (.BoolOp .Or (b :: rest) pos) Γ k') : DW X (.BoolOp .Or (a :: b :: rest) pos) Γ (k || k') := fun H0 O H σ Q g q =>
  wW_of (pw_or pt_w pw_w) (h1 H0 O H σ _ g fun H2 s2 => by
    cases k with
    | true => rw [if_pos rfl]; exact q H2 s2
    | false => rw [if_neg Bool.false_ne_true]; exact h2 rfl H0 O H2 σ Q (g.step s2) fun H3 s3 => q H3 (s2.trans s3))
theorem dt_not (h : DT X a Γ k) : DT X (.UnaryOp .Not a pos) Γ (!k) := fun H0 O H σ Q g q => wT_of (pt_not pt_w) (h H0 O H σ _ g q)
theorem de_one {op : BoolOp} (h : DE X a Γ d) : DE X (.BoolOp op [a] pos) Γ d := fun H0 O H σ Q g q => wE_of (pe_one pe_w) (h H0 O H σ Q g q)
theorem de_and (h1 : DE X a Γ (.bool k)) (h2 : k = true → DE X (.BoolOp .And (b :: rest) pos) Γ (.bool k')) : DE X (.BoolOp .And (a :: b :: rest) pos) Γ (.bool (k && k')) := fun H0 O H σ Q g q =>
  wE_of (pe_and pe_w pe_w) (h1 H0 O H σ _ g fun v H2 s2 d2 => by
    cases d2
    refine ⟨k, rfl, ?_⟩
    cases k with
    | true => rw [if_pos rfl]; exact h2 rfl H0 O H2 σ Q (g.step s2) fun v H3 s3 d3 => q v H3 (s2.trans s3) d3
    | false => rw [if_neg Bool.false_ne_true]; exact q _ H2 s2 (.bl _))
theorem de_or (h1 : DE X a Γ (.bool k)) (h2 : k = false → DE X (.BoolOp .Or (b :: rest) pos) Γ (.bool k')) : DE X (.BoolOp .Or (a :: b :: rest) pos) Γ (.bool (k || k')) := fun H0 O H σ Q g q =>
  wE_of (pe_or pe_w pe_w) (h1 H0 O H σ _ g fun v H2 s2 d2 => by
    cases d2
    refine ⟨k, rfl, ?_⟩
    cases k with
    | true => rw [if_pos rfl]; exact q _ H2 s2 (.bl _)
    | false => rw [if_neg Bool.false_ne_true]; exact h2 rfl H0 O H2 σ Q (g.step s2) fun v H3 s3 d3 => q v H3 (s2.trans s3) d3)
theorem de_not (h : DE X a Γ (.bool k)) : DE X (.UnaryOp .Not a pos) Γ (.bool (!k)) := fun H0 O H σ Q g q => wE_of (pe_not pe_w) (h H0 O H σ _ g fun v H2 s2 d2 => by cases d2; exact ⟨k, rfl, q _ H2 s2 (.bl _)⟩)

/-! ### arguments, displays -/
theorem da_nil : DA X [] Γ [] := fun H0 O H σ Q g q => wA_of pa_nil (q [] H (Same.refl H) .nil)
theorem da_cons {ds : List PyData} (ha : DE X e Γ d) (hr : DA X es Γ ds) (hs : starEach (e :: es) X.env = (false, eval e X.env) :: starEach es X.env := by rfl) : DA X (e :: es) Γ (d :: ds) := fun H0 O H σ Q g q =>
  wA_of (pa_cons pe_w pa_w hs) (ha H0 O H σ _ g fun v H2 s2 d2 => hr H0 O H2 σ _ (g.step s2) fun vs H3 s3 d3 => q _ H3 (s2.trans s3) (.cons (dp_mono (hid_mono s3) _ _ d2) d3))
theorem sqT_new {K : PySem.W.Frag} {O : Addr → Prop} {H : Hp} {p : Addr} {vs : List V} (hO : ¬ O p) : SqT K (hid O (upd H p (.tup vs))) p vs := .inl (.inl (hid_iff.mpr ⟨hO, upd_same⟩))
theorem de_tup {x1 : Nat} {ds : List PyData} (h : DA X es Γ ds) (hl : ds.length ≤ 1000) : DE X (.Tuple es x1 pos) Γ (.tuple ds) := fun H0 O H σ Q g q =>
  wE_of (pe_tup pa_w) (h H0 O H σ _ g fun vs H2 s2 d2 => ⟨Nat.le_of_lt (small1000 (by rw [dpAll_len d2]; exact hl)), fun p hp => q _ _ (s2.trans (same_upd hp)) (.tup (sqT_new ((g.step s2).fresh hp)) (dpAll_mono (hid_mono (same_upd hp)) _ _ d2))⟩)
theorem hid_ext {O : Addr → Prop} {p : Addr} {H H2 : Hp} (hp : H p = none) (s : Same H H2) : Same (hid O H) (hid (fun a => O a ∨ a = p) H2) := fun b o q => by
  have := hid_iff.mp q
  refine hid_iff.mpr ⟨fun z => ?_, s b o this.2⟩
  rcases z with z | z
  · exact this.1 z
  · subst z
    rw [hp] at this
    cases this.2
theorem dl_lst {ds : List PyData} (h : DA X es Γ ds) (hl : ds.length ≤ 1000) : DL X (.List es pos) Γ ds := fun H0 O H σ Q g q =>
  wE_of (pe_lst pa_w) (h H0 O H σ _ g fun vs H2 s2 d2 => ⟨Nat.le_of_lt (small1000 (by rw [dpAll_len d2]; exact hl)), fun p hp => q p vs _ (s2.free hp) (s2.trans (same_upd hp)) upd_same (dpAll_mono (hid_ext hp (same_upd hp)) _ _ d2)⟩)

/-! ### subscripts, slices -/
theorem atI_dp {K : PySem.W.Frag} {H : Hp} {ds : List PyData} {vs : List V} (h : DpAll K H vs ds) {i : Int} {d : PyData} (e : atI ds i = some d) : ∃ v, atI vs i = some v ∧ Dp K H v d := by
  unfold atI at e ⊢
  rw [dpAll_len h]
  cases q : ixN ds.length i with
  | none => rw [q] at e; cases e
  | some j =>
    rw [q] at e
    exact dpAll_get h e
theorem de_ixT {ds : List PyData} (ha : DE X a Γ (.tuple ds)) (hb : DE X b Γ (.int i)) (h : atI ds i = some d) (hs : PlainIx b := by intro _ _; rfl) : DE X (.Subscript a b pos) Γ d := fun H0 O H σ Q g q =>
  wE_of (pe_ix ix_tup pe_w pe_w hs) (ha H0 O H σ _ g fun v H2 s2 d2 => hb H0 O H2 σ _ (g.step s2) fun u H3 s3 d3 => by
    cases d2 with
    | tup hs ha =>
      cases d3
      obtain ⟨w, h1, h2⟩ := atI_dp ha h
      exact ⟨_, _, _, w, rfl, rfl, Same.seqT (hid_sub.trans s3) hs, h1, q _ H3 (s2.trans s3) (dp_mono (hid_mono s3) _ _ h2)⟩)
theorem de_ixL {ds : List PyData} (ha : DR X a Γ ds) (hb : DE X b Γ (.int i)) (h : atI ds i = some d) (hs : PlainIx b := by intro _ _; rfl) : DE X (.Subscript a b pos) Γ d := fun H0 O H σ Q g q =>
  wE_of (pe_ix ix_list pe_w pe_w hs) (ha H0 O H σ _ g fun p vs H2 s2 l2 a2 => hb H0 O H2 σ _ (g.step s2) fun u H3 s3 d3 => by
    cases d3
    obtain ⟨w, h1, h2⟩ := atI_dp a2 h
    exact ⟨_, _, _, w, rfl, rfl, s3.seq l2, h1, q _ H3 (s2.trans s3) (dp_mono (hid_mono s3) _ _ h2)⟩)
theorem do_none : DO X none Γ none := fun H0 O H σ Q g q => wO_of po_none (q H (Same.refl H))
theorem do_some (h : DE X e Γ (.int i)) : DO X (some e) Γ (some i) := fun H0 O H σ Q g q => wO_of (po_some pe_w) (h H0 O H σ _ g fun v H2 s2 d2 => by cases d2; exact ⟨_, rfl, q H2 s2⟩)
/-- xs[lo:hi] -/
def cut {α : Type} (xs : List α) (lo hi : Option Int) : List α := (xs.drop (HT.sIx xs.length 0 lo)).take (HT.sIx xs.length xs.length hi - HT.sIx xs.length 0 lo)
theorem cut_dp {K : PySem.W.Frag} {H : Hp} {ds : List PyData} {vs : List V} (h : DpAll K H vs ds) (lo hi : Option Int) : DpAll K H (cutV vs lo hi) (cut ds lo hi) := by
  unfold cutV cut
  rw [dpAll_len h]
  exact dpAll_take _ (dpAll_drop _ h)
theorem cut_map {α β : Type} (f : α → β) (xs : List α) (lo hi : Option Int) : cut (xs.map f) lo hi = (cut xs lo hi).map f := by
  unfold cut
  rw [List.length_map, List.map_take, List.map_drop]
theorem de_slT {ds : List PyData} {lo hi : Option Expr} {l h : Option Int} {p2 : Pos} (ha : DE X a Γ (.tuple ds)) (hl : DO X lo Γ l) (hh : DO X hi Γ h) : DE X (.Subscript a (.Slice lo hi none p2) pos) Γ (.tuple (cut ds l h)) := fun H0 O H σ Q g q =>
  wE_of (pe_slice sl_tupA pe_w po_w po_w) (ha H0 O H σ _ g fun v H2 s2 d2 => hl H0 O H2 σ _ (g.step s2) fun H3 s3 => hh H0 O H3 σ _ (g.step (s2.trans s3)) fun H4 s4 => by
    cases d2 with
    | tup hs ha =>
      rename_i p vs
      have s34 := s3.trans s4
      refine ⟨_, _, rfl, Same.seqT (hid_sub.trans s34) hs, fun hw => ?_, fun _ p' hp => ?_⟩
      · refine q _ H4 (s2.trans s34) (.tup (Same.seqT (hid_mono s34) hs) ?_)
        have e : cut ds l h = ds := by
          unfold cut
          rw [← dpAll_len ha, hw.1, hw.2]
          rw [List.drop_zero, Nat.sub_zero, dpAll_len ha, List.take_length]
        rw [e]
        exact dpAll_mono (hid_mono s34) _ _ ha
      · have g4 := g.step (s2.trans s34)
        exact q _ _ ((s2.trans s34).trans (same_upd hp)) (.tup (sqT_new (g4.fresh hp)) (dpAll_mono (hid_mono (s34.trans (same_upd hp))) _ _ (cut_dp ha l h))))
theorem dl_slL {ds : List PyData} {lo hi : Option Expr} {l h : Option Int} {p2 : Pos} (ha : DR X a Γ ds) (hl : DO X lo Γ l) (hh : DO X hi Γ h) : DL X (.Subscript a (.Slice lo hi none p2) pos) Γ (cut ds l h) := fun H0 O H σ Q g q =>
  wE_of (pe_slice sl_list pe_w po_w po_w) (ha H0 O H σ _ g fun p vs H2 s2 l2 a2 => hl H0 O H2 σ _ (g.step s2) fun H3 s3 => hh H0 O H3 σ _ (g.step (s2.trans s3)) fun H4 s4 => by
    have s34 := s3.trans s4
    refine ⟨_, _, rfl, s34.seq l2, fun p' hp => ?_⟩
    exact q p' _ _ ((s2.trans s34).free hp) ((s2.trans s34).trans (same_upd hp)) upd_same (dpAll_mono ((hid_mono s34).trans (hid_ext hp (same_upd hp))) _ _ (cut_dp a2 l h)))

/-! ### + and * of tuples and lists -/
theorem de_catT {ds es' : List PyData} (ha : DE X a Γ (.tuple ds)) (hb : DE X b Γ (.tuple es')) (hl : ds.length + es'.length ≤ 1000) : DE X (.BinOp a .Add b pos) Γ (.tuple (ds ++ es')) :=
  de_bin op_catA ha hb fun O H x y Q lv h1 h2 q => by
    cases h1 with
    | tup hs1 ha1 =>
      cases h2 with
      | tup hs2 ha2 =>
        rename_i p1 vs1 p2 vs2
        have l1 := dpAll_len ha1
        have l2 := dpAll_len ha2
        refine ⟨_, _, _, _, rfl, rfl, Same.seqT hid_sub hs1, Same.seqT hid_sub hs2, Nat.le_of_lt (small1000 (by omega)), fun e => ?_, fun _ e => ?_, fun _ _ p hp => ?_⟩
        · have : ds = [] := List.eq_nil_of_length_eq_zero (by rw [← l1, e]; rfl)
          subst this
          exact q _ H (Same.refl H) (.tup hs2 ha2)
        · have : es' = [] := List.eq_nil_of_length_eq_zero (by rw [← l2, e]; rfl)
          subst this
          rw [List.append_nil] at q
          exact q _ H (Same.refl H) (.tup hs1 ha1)
        · refine q _ _ (same_upd hp) (.tup (sqT_new (fun z => ?_)) (dpAll_mono (hid_mono (same_upd hp)) _ _ (dpAll_app ha1 ha2)))
          obtain ⟨o, e⟩ := lv p z
          rw [hp] at e
          cases e
theorem dl_cat {ds es' : List PyData} (ha : DB X a Γ ds) (hb : DB X b Γ es') (hl : ds.length + es'.length ≤ 100000) : DL X (.BinOp a .Add b pos) Γ (ds ++ es') := fun H0 O H σ Q g q =>
  wE_of (pe_op op_cat pe_w pe_w) (ha H0 O H σ _ g fun p vs H2 s2 l2 a2 => hb H0 O H2 σ _ (g.step s2) fun p' vs' H3 s3 l3 a3 => by
    refine ⟨_, _, _, _, rfl, rfl, s3 _ _ l2, l3, ?_, fun p'' hp => ?_⟩
    · rw [dpAll_len a2, dpAll_len a3]
      exact Nat.le_trans hl (by decide)
    · exact q p'' _ _ ((s2.trans s3).free hp) ((s2.trans s3).trans (same_upd hp)) upd_same (dpAll_mono (hid_ext hp (same_upd hp)) _ _ (dpAll_app (dpAll_mono (hid_mono s3) _ _ a2) a3)))
theorem dpAll_rep {K : PySem.W.Frag} {H : Hp} {ds : List PyData} {vs : List V} (h : DpAll K H vs ds) : ∀ n : Nat, DpAll K H (List.replicate n vs).flatten (List.replicate n ds).flatten
  | 0 => .nil
  | n + 1 => by
    rw [List.replicate_succ, List.replicate_succ, List.flatten_cons, List.flatten_cons]
    exact dpAll_app h (dpAll_rep h n)
theorem dl_rep {ds : List PyData} (ha : DB X a Γ ds) (hb : DE X b Γ (.int i)) (h1 : -100000 ≤ i) (h2 : ds.length * i.toNat ≤ 100000) (h3 : i ≤ 100000) : DL X (.BinOp a .Mult b pos) Γ (List.replicate i.toNat ds).flatten := fun H0 O H σ Q g q =>
  wE_of (pe_op op_rep pe_w pe_w) (ha H0 O H σ _ g fun p vs H2 s2 l2 a2 => hb H0 O H2 σ _ (g.step s2) fun u H3 s3 d3 => by
    cases d3
    refine ⟨_, _, _, rfl, rfl, s3 _ _ l2, by omega, by omega, ?_, fun p'' hp => ?_⟩
    · rw [dpAll_len a2]
      exact Nat.le_trans h2 (by decide)
    · exact q p'' _ _ ((s2.trans s3).free hp) ((s2.trans s3).trans (same_upd hp)) upd_same (dpAll_mono ((hid_mono s3).trans (hid_ext hp (same_upd hp))) _ _ (dpAll_rep a2 _)))
end
end EY
set_option autoImplicit false
set_option maxHeartbeats 1000000
namespace EY
open PySem L2
/-! ### calls -/
/-- that the built-in names are not the module's own -/
structure Blt (mg : Str → Option Value) : Prop where
  len : mg "len" = none
  sum : mg "sum" = none
  all : mg "all" = none
  range : mg "range" = none
  enumerate : mg "enumerate" = none
  zip : mg "zip" = none
  max : mg "max" = none
  min : mg "min" = none
  int : mg "int" = none
  str : mg "str" = none
  bool : mg "bool" = none
  tuple : mg "tuple" = none
  list : mg "list" = none
  isinstance : mg "isinstance" = none
  sorted : mg "sorted" = none
  valueError : mg "ValueError" = none
section
variable {X : Cx} {Γ : Gm} {a b c e : Expr} {es : List Expr} {p pos : Pos} {d d1 d2 : PyData} {xs ys : List PyData} {i j : Int} {x : Str}
theorem wE_callB {σ : L2.St} {H : Hp} {Q : VK} {id : String} {r : List V → Hp → VK → Prop} (hc : CallR X (.builtin id) r) (hm : X.mg x = none) (hv : bootBuiltins x = some (.builtin id)) (hg : Gl X x) (h : wA X (e :: es) σ H fun vs H1 => r vs H1 Q)
    (hn : x ≠ "__name__") (hdb : (x == ("__debug__" : Str)) = false) (he : starEach (e :: es) X.env = (false, eval e X.env) :: starEach es X.env) (hpl : (backTo pos (starEach es X.env)).any (·.1) = false) :
    wE X (.Call (.Name x p) (e :: es) [] pos) σ H Q := wE_of (pe_callB hc hg hm hv pa_w hn hdb he hpl) h
theorem wE_callTy {σ : L2.St} {H : Hp} {Q : VK} {T : String} {r : List V → Hp → VK → Prop} (hc : CallR X (.type T) r) (hm : X.mg x = none) (hv : bootBuiltins x = some (.type T)) (hg : Gl X x) (h : wA X (e :: es) σ H fun vs H1 => r vs H1 Q)
    (hn : x ≠ "__name__") (hdb : (x == ("__debug__" : Str)) = false) (he : starEach (e :: es) X.env = (false, eval e X.env) :: starEach es X.env) (hpl : (backTo pos (starEach es X.env)).any (·.1) = false) :
    wE X (.Call (.Name x p) (e :: es) [] pos) σ H Q := wE_of (pe_callTy hc hg hm hv pa_w hn hdb he hpl) h
theorem wA_one {σ : L2.St} {H : Hp} {Q : List V → Hp → Prop} (he : starEach [e] X.env = (false, eval e X.env) :: starEach [] X.env) (h : wE X e σ H fun x H1 => Q [x] H1) : wA X [e] σ H Q := wA_of (pa_cons pe_w pa_nil he) h
theorem sqL_len {K : PySem.W.Frag} {H : Hp} {vs : List V} {xs : List PyData} (h : DpAll K H vs xs) : ((vs.length : Nat) : Int) = ((xs.length : Nat) : Int) := by rw [dpAll_len h]

theorem de_lenL (hm : X.mg "len" = none) (h : DR X e Γ xs) (hg : Gl X "len" := by rfl) (he : starEach [e] X.env = (false, eval e X.env) :: starEach [] X.env := by rfl) : DE X (.Call (.Name "len" p) [e] [] pos) Γ (.int xs.length) := fun B O H σ Q g q =>
  wE_callB call_len_seq hm PySem.boot_len hg (wA_one he (h B O H σ _ g fun a vs H2 s2 l2 a2 => ⟨a, vs, rfl, .inl l2, by rw [sqL_len a2]; exact q _ H2 s2 (.int _)⟩)) (by decide) (by decide) he rfl
theorem de_lenT (hm : X.mg "len" = none) (h : DE X e Γ (.tuple xs)) (hg : Gl X "len" := by rfl) (he : starEach [e] X.env = (false, eval e X.env) :: starEach [] X.env := by rfl) : DE X (.Call (.Name "len" p) [e] [] pos) Γ (.int xs.length) := fun B O H σ Q g q =>
  wE_callB call_len_seq hm PySem.boot_len hg (wA_one he (h B O H σ _ g fun v H2 s2 d2 => by
    cases d2 with
    | tup hs ha => exact ⟨_, _, rfl, .inr (Same.seqT hid_sub hs), by rw [sqL_len ha]; exact q _ H2 s2 (.int _)⟩)) (by decide) (by decide) he rfl
theorem de_lenS (hm : X.mg "len" = none) {z : Str} (h : DE X e Γ (.str z)) (hz : z.length ≤ 100000) (hg : Gl X "len" := by rfl) (he : starEach [e] X.env = (false, eval e X.env) :: starEach [] X.env := by rfl) : DE X (.Call (.Name "len" p) [e] [] pos) Γ (.int z.length) := fun B O H σ Q g q =>
  wE_callB call_len_str hm PySem.boot_len hg (wA_one he (h B O H σ _ g fun v H2 s2 d2 => by
    cases d2
    exact ⟨_, rfl, Nat.le_trans hz (by decide), q _ H2 s2 (.int _)⟩)) (by decide) (by decide) he rfl
theorem de_sum {ns : List Int} (hm : X.mg "sum" = none) (h : DR X e Γ (ns.map .int)) (hc : X.calm = true := by rfl) (hg : Gl X "sum" := by rfl) (he : starEach [e] X.env = (false, eval e X.env) :: starEach [] X.env := by rfl) : DE X (.Call (.Name "sum" p) [e] [] pos) Γ (.int ns.sum) := fun B O H σ Q g q =>
  wE_callB (cr_sum hc) hm PyProof.Rows.boot_sum hg (wA_one he (h B O H σ _ g fun a vs H2 s2 l2 a2 => ⟨a, ns, rfl, by rw [← dpAll_ints a2]; exact l2, q _ H2 s2 (.int _)⟩)) (by decide) (by decide) he rfl
theorem de_all {ns : List Bool} (hm : X.mg "all" = none) (h : DR X e Γ (ns.map .bool)) (hc : X.calm = true := by rfl) (hg : Gl X "all" := by rfl) (he : starEach [e] X.env = (false, eval e X.env) :: starEach [] X.env := by rfl) : DE X (.Call (.Name "all" p) [e] [] pos) Γ (.bool (ns.all id)) := fun B O H σ Q g q =>
  wE_callB (cr_all hc) hm PyProof.Rows.boot_all hg (wA_one he (h B O H σ _ g fun a vs H2 s2 l2 a2 => ⟨a, ns, rfl, by rw [← dpAll_bools a2]; exact l2, q _ H2 s2 (.bl _)⟩)) (by decide) (by decide) he rfl
theorem de_max2 (hm : X.mg "max" = none) (ha : DE X a Γ (.int i)) (hb : DE X b Γ (.int j)) (hc : X.calm = true := by rfl) (hg : Gl X "max" := by rfl) (he : starEach [a, b] X.env = (false, eval a X.env) :: starEach [b] X.env := by rfl) (he2 : starEach [b] X.env = (false, eval b X.env) :: starEach [] X.env := by rfl) (hpl : (backTo pos (starEach [b] X.env)).any (·.1) = false := by rfl) :
    DE X (.Call (.Name "max" p) [a, b] [] pos) Γ (.int (max i j)) := fun B O H σ Q g q =>
  wE_callB (call_max2 hc) hm PyProof.Rows.boot_max hg (da_cons ha (da_cons hb da_nil he2) he B O H σ _ g fun vs H2 s2 d2 => by
    cases d2 with
    | cons h1 h2 =>
      cases h2 with
      | cons h2 h3 =>
        cases h3
        cases h1
        cases h2
        refine ⟨i, j, rfl, ?_⟩
        have e : (if j > i then j else i) = max i j := by
          split <;> omega
        rw [e]
        exact q _ H2 s2 (.int _)) (by decide) (by decide) he hpl
theorem de_min2 (hm : X.mg "min" = none) (ha : DE X a Γ (.int i)) (hb : DE X b Γ (.int j)) (hc : X.calm = true := by rfl) (hg : Gl X "min" := by rfl) (he : starEach [a, b] X.env = (false, eval a X.env) :: starEach [b] X.env := by rfl) (he2 : starEach [b] X.env = (false, eval b X.env) :: starEach [] X.env := by rfl) (hpl : (backTo pos (starEach [b] X.env)).any (·.1) = false := by rfl) :
    DE X (.Call (.Name "min" p) [a, b] [] pos) Γ (.int (min i j)) := fun B O H σ Q g q =>
  wE_callB (call_min2 hc) hm PyProof.Rows.boot_min hg (da_cons ha (da_cons hb da_nil he2) he B O H σ _ g fun vs H2 s2 d2 => by
    cases d2 with
    | cons h1 h2 =>
      cases h2 with
      | cons h2 h3 =>
        cases h3
        cases h1
        cases h2
        refine ⟨i, j, rfl, ?_⟩
        have e : (if j < i then j else i) = min i j := by
          split <;> omega
        rw [e]
        exact q _ H2 s2 (.int _)) (by decide) (by decide) he hpl
def b2z (k : Bool) : Int := if k then 1 else 0
theorem de_intB {k : Bool} (hm : X.mg "int" = none) (h : DE X e Γ (.bool k)) (hg : Gl X "int" := by rfl) (he : starEach [e] X.env = (false, eval e X.env) :: starEach [] X.env := by rfl) : DE X (.Call (.Name "int" p) [e] [] pos) Γ (.int (b2z k)) := fun B O H σ Q g q =>
  wE_callTy call_int1 hm PyProof.Rows.boot_int hg (wA_one he (h B O H σ _ g fun v H2 s2 d2 => by cases d2; exact .inr ⟨k, rfl, q _ H2 s2 (.int _)⟩)) (by decide) (by decide) he rfl
theorem de_tupleL (hm : X.mg "tuple" = none) (h : DR X e Γ xs) (hg : Gl X "tuple" := by rfl) (he : starEach [e] X.env = (false, eval e X.env) :: starEach [] X.env := by rfl) : DE X (.Call (.Name "tuple" p) [e] [] pos) Γ (.tuple xs) := fun B O H σ Q g q =>
  wE_callTy call_tuple_of hm PyProof.Rows.boot_tuple hg (wA_one he (h B O H σ _ g fun a vs H2 s2 l2 a2 => ⟨a, vs, rfl, .inl ⟨l2, fun l hl => q _ _ (s2.trans (same_upd hl)) (.tup (sqT_new ((g.step s2).fresh hl)) (dpAll_mono (hid_mono (same_upd hl)) _ _ a2))⟩⟩)) (by decide) (by decide) he rfl
theorem dl_listL (hm : X.mg "list" = none) (h : DR X e Γ xs) (hg : Gl X "list" := by rfl) (he : starEach [e] X.env = (false, eval e X.env) :: starEach [] X.env := by rfl) : DL X (.Call (.Name "list" p) [e] [] pos) Γ xs := fun B O H σ Q g q =>
  wE_callTy call_list_of hm PyProof.Rows.boot_list hg (wA_one he (h B O H σ _ g fun a vs H2 s2 l2 a2 => ⟨a, vs, rfl, .inl l2, fun l hl => q l vs _ (s2.free hl) (s2.trans (same_upd hl)) upd_same (dpAll_mono (hid_ext hl (same_upd hl)) _ _ a2)⟩)) (by decide) (by decide) he rfl
theorem dl_listT (hm : X.mg "list" = none) (h : DE X e Γ (.tuple xs)) (hg : Gl X "list" := by rfl) (he : starEach [e] X.env = (false, eval e X.env) :: starEach [] X.env := by rfl) : DL X (.Call (.Name "list" p) [e] [] pos) Γ xs := fun B O H σ Q g q =>
  wE_callTy call_list_of hm PyProof.Rows.boot_list hg (wA_one he (h B O H σ _ g fun v H2 s2 d2 => by
    cases d2 with
    | tup hs ha => exact ⟨_, _, rfl, .inr (Same.seqT hid_sub hs), fun l hl => q l _ _ (s2.free hl) (s2.trans (same_upd hl)) upd_same (dpAll_mono (hid_ext hl (same_upd hl)) _ _ ha)⟩)) (by decide) (by decide) he rfl

/-! ### own defs -/
structure Has (P : Program) (w : World) (K : PySem.W.Frag) (mg : Str → Option Value) (base : Heap) (k : Nat) (x : Str) (ps : List Str) (sp : Sp) : Prop where
  ex : ∃ f fd, FnOk P w K mg base CX0 k f fd ps sp ∧ mg x = some (.ref f) ∧ PySem.W.keepIn K (.ref f) = true ∧ Binds K fd ps []
def spD (K : PySem.W.Frag) (R : List PyData → PyData → Prop) : Sp := fun vs H Q _ => ∃ (O : Addr → Prop) (ds : List PyData) (d : PyData), Live O H ∧ DpAll K (hid O H) vs ds ∧ R ds d ∧ ∀ v H2, Same H H2 → Dp K (hid O H2) v d → Q v H2
theorem de_call {k n : Nat} {ps : List Str} {R : List PyData → PyData → Prop} {ds : List PyData} (h : Has X.prog X.w X.K X.mg X.base k x ps (spD X.K R)) (hr : Room n X.A) (ha : DA X (e :: es) Γ ds) (hR : R ds d) (hk : k ≤ n := by decide) (hg : Gl X x := by rfl)
    (hdb : (x == ("__debug__" : Str)) = false := by decide) (he : starEach (e :: es) X.env = (false, eval e X.env) :: starEach es X.env := by rfl) (hpl : (backTo pos (starEach es X.env)).any (·.1) = false := by rfl) :
    DE X (.Call (.Name x p) (e :: es) [] pos) Γ d := fun B O H σ Q g q => by
  obtain ⟨f, fd, F, hm, hkp, hb⟩ := h.ex
  exact wE_of (pe_call F (hr.mono hk) hg hm hkp hb .nil pass0 pa_w hdb he hpl) (ha B O H σ _ g fun vs H2 s2 d2 => ⟨O, ds, d, (g.step s2).live, by rw [List.append_nil]; exact d2, hR, fun v H3 s3 d3 => q v H3 (s2.trans s3) d3⟩)
end

/-! ### what is walked -/
def WalkC (K : PySem.W.Frag) (O : Addr → Prop) (H2 : Hp) (J : It) (n : Nat) (it : Nat → PyData) : Prop := ∀ (H3 : Hp) (O3 : Addr → Prop), Same H2 H3 → (∀ a, O3 a → O a ∨ H2 a = none) → Live O3 H3 →
  (∀ i, i < n → J.go i H3) ∧ J.stop n H3 ∧ ∀ i, i < n → ∀ x H4, J.yld i H3 x H4 → Same H3 H4 ∧ Dp K (hid O3 H4) x (it i)
def WalkF (K : PySem.W.Frag) (O : Addr → Prop) (H2 : Hp) (J : It) (n : Nat) (it : Nat → PyData) : Prop := ∀ (H3 : Hp) (O3 : Addr → Prop), Same (hid O H2) (hid O3 H3) → Live O3 H3 →
  (∀ i, i < n → J.go i H3) ∧ J.stop n H3 ∧ ∀ i, i < n → ∀ x H4, J.yld i H3 x H4 → Same H3 H4 ∧ Dp K (hid O3 H4) x (it i)
theorem WalkF.c {K : PySem.W.Frag} {O : Addr → Prop} {H2 : Hp} {J : It} {n : Nat} {it : Nat → PyData} (h : WalkF K O H2 J n it) : WalkC K O H2 J n it := fun H3 O3 s o lv => h H3 O3 (fun b u e => by
  have e' := hid_iff.mp e
  refine hid_iff.mpr ⟨fun z => ?_, s b u e'.2⟩
  rcases o b z with y | y
  · exact e'.1 y
  · rw [e'.2] at y; cases y) lv
def DIC (X : Cx) (tg iter : Expr) (Γ : Gm) (n : Nat) (it : Nat → PyData) : Prop := ∀ (B : Bs) (O : Addr → Prop) (H : Hp) (σ : L2.St) (R : It → Hp → Prop), Sg X.K B O H σ Γ → (∀ J H2, Same H H2 → WalkC X.K O H2 J n it → R J H2) → wI X tg iter σ H R
def DIF (X : Cx) (tg iter : Expr) (Γ : Gm) (n : Nat) (it : Nat → PyData) : Prop := ∀ (B : Bs) (O : Addr → Prop) (H : Hp) (σ : L2.St) (R : It → Hp → Prop), Sg X.K B O H σ Γ → (∀ J H2, Same H H2 → WalkF X.K O H2 J n it → R J H2) → wI X tg iter σ H R
section
variable {X : Cx} {Γ : Gm} {a b c e tg : Expr} {es : List Expr} {p pos : Pos} {d d1 d2 : PyData} {xs ys : List PyData} {i j : Int} {x : Str}
theorem DIF.dic {n : Nat} {it : Nat → PyData} (h : DIF X tg e Γ n it) : DIC X tg e Γ n it := fun B O H σ R g q => h B O H σ R g fun J H2 s w => q J H2 s w.c
theorem live_not {O : Addr → Prop} {H : Hp} {p : Addr} (lv : Live O H) (h : H p = none) : ¬ O p := fun z => by
  obtain ⟨o, e⟩ := lv p z
  rw [h] at e
  cases e
theorem getD_of {ds : List PyData} {i : Nat} {d : PyData} (h : ds[i]? = some d) : ds.getD i .none = d := by
  rw [List.getD_eq_getElem?_getD, h]
  rfl
theorem dif_tup (h : DE X e Γ (.tuple xs)) : DIF X tg e Γ xs.length (fun i => xs.getD i .none) := fun B O H σ R g q =>
  wI_of (pi_tup pe_w) (h B O H σ _ g fun v H2 s2 d2 => by
    cases d2 with
    | tup hs ha =>
      rename_i l vs
      refine ⟨l, rfl, ⟨vs, Same.seqT hid_sub hs⟩, q _ H2 s2 fun H3 O3 s3 lv => ?_⟩
      have w := walk_tup (K := X.K) (a := l) (xs := vs)
      have G : SqT X.K H3 l vs := Same.seqT (s3.trans hid_sub) hs
      rw [← dpAll_len ha]
      refine ⟨fun i hi => w.goes i H3 hi G, w.stops H3 G, fun i hi x H4 y => ?_⟩
      obtain ⟨rfl, e⟩ := w.yields i H3 x H4 hi G y
      obtain ⟨d, e1, e2⟩ := dpAll_getV ha e
      simp only []
      rw [getD_of e1]
      exact ⟨Same.refl _, dp_mono s3 _ _ e2⟩)
theorem dif_list (h : DE X e Γ (.list xs)) : DIF X tg e Γ xs.length (fun i => xs.getD i .none) := fun B O H σ R g q =>
  wI_of (pi_list pe_w) (h B O H σ _ g fun v H2 s2 d2 => by
    cases d2 with
    | lst hs ha =>
      rename_i l vs
      refine ⟨l, rfl, ⟨vs, hid_sub.seq hs⟩, q _ H2 s2 fun H3 O3 s3 lv => ?_⟩
      have w := walk_list (K := X.K) (a := l) (xs := vs)
      have G : SqL X.K H3 l vs := (s3.trans hid_sub).seq hs
      rw [← dpAll_len ha]
      refine ⟨fun i hi => w.goes i H3 hi G, w.stops H3 G, fun i hi x H4 y => ?_⟩
      obtain ⟨rfl, e⟩ := w.yields i H3 x H4 hi G y
      obtain ⟨d, e1, e2⟩ := dpAll_getV ha e
      simp only []
      rw [getD_of e1]
      exact ⟨Same.refl _, dp_mono s3 _ _ e2⟩)
theorem hid_c {O O3 : Addr → Prop} {H2 H3 : Hp} (s : Same H2 H3) (o : ∀ a, O3 a → O a ∨ H2 a = none) : Same (hid O H2) (hid O3 H3) := fun b u e => by
  have e' := hid_iff.mp e
  refine hid_iff.mpr ⟨fun z => ?_, s b u e'.2⟩
  rcases o b z with y | y
  · exact e'.1 y
  · rw [e'.2] at y; cases y
theorem dic_list (h : DR X e Γ xs) : DIC X tg e Γ xs.length (fun i => xs.getD i .none) := fun B O H σ R g q =>
  wI_of (pi_list pe_w) (h B O H σ _ g fun l vs H2 s2 l2 a2 => by
    refine ⟨l, rfl, ⟨vs, l2⟩, q _ H2 s2 fun H3 O3 s3 o3 lv => ?_⟩
    have w := walk_list (K := X.K) (a := l) (xs := vs)
    have G : SqL X.K H3 l vs := s3.seq l2
    rw [← dpAll_len a2]
    refine ⟨fun i hi => w.goes i H3 hi G, w.stops H3 G, fun i hi x H4 y => ?_⟩
    obtain ⟨rfl, e⟩ := w.yields i H3 x H4 hi G y
    obtain ⟨d, e1, e2⟩ := dpAll_getV a2 e
    simp only []
    rw [getD_of e1]
    exact ⟨Same.refl _, dp_mono (hid_c s3 o3) _ _ e2⟩)
theorem dif_range1 (hm : X.mg "range" = none) (h : DE X a Γ (.int j)) (h1 : -1000000 ≤ j) (h2 : j ≤ 1000000) (hg : Gl X "range" := by rfl) (he : starEach [a] X.env = (false, eval a X.env) :: starEach [] X.env := by rfl) : DIF X tg (.Call (.Name "range" p) [a] [] pos) Γ j.toNat (fun i => .int i) := fun B O H σ R g q =>
  wI_of (pi_range1 hg hm pa_w he) (wA_one he (h B O H σ _ g fun v H2 s2 d2 => by
    cases d2
    refine ⟨j, rfl, by omega, by omega, q _ H2 s2 fun H3 O3 s3 lv => ?_⟩
    refine ⟨fun i hi => hi, Nat.le_refl _, fun i hi x H4 y => ?_⟩
    obtain ⟨rfl, rfl⟩ := y
    rw [Int.zero_add]
    exact ⟨Same.refl _, .int _⟩))
theorem dif_range2 (hm : X.mg "range" = none) (ha : DE X a Γ (.int i)) (hb : DE X b Γ (.int j)) (h1 : -1000000 ≤ i ∧ i ≤ 1000000) (h2 : -1000000 ≤ j ∧ j ≤ 1000000) (hg : Gl X "range" := by rfl) (he : starEach [a, b] X.env = (false, eval a X.env) :: starEach [b] X.env := by rfl) (he2 : starEach [b] X.env = (false, eval b X.env) :: starEach [] X.env := by rfl) (hpl : (backTo pos (starEach [b] X.env)).any (·.1) = false := by rfl) :
    DIF X tg (.Call (.Name "range" p) [a, b] [] pos) Γ (j - i).toNat (fun k => .int (i + k)) := fun B O H σ R g q =>
  wI_of (pi_range2 hg hm pa_w (by rw [he, he2]; rfl) (by rw [he2]; rfl)) (da_cons ha (da_cons hb da_nil he2) he B O H σ _ g fun vs H2 s2 d2 => by
    cases d2 with
    | cons q1 q2 =>
      cases q2 with
      | cons q2 q3 =>
        cases q3
        cases q1
        cases q2
        refine ⟨i, j, rfl, ⟨by omega, by omega, by omega, by omega⟩, q _ H2 s2 fun H3 O3 s3 lv => ?_⟩
        refine ⟨fun i hi => hi, Nat.le_refl _, fun i hi x H4 y => ?_⟩
        obtain ⟨rfl, rfl⟩ := y
        exact ⟨Same.refl _, .int _⟩)
/-- zip of two tuples -/
theorem dif_zipT {tpos : Pos} {kk : Nat} (hm : X.mg "zip" = none) (ha : DE X a Γ (.tuple xs)) (hb : DE X b Γ (.tuple ys)) (hg : Gl X "zip" := by rfl) (he : starEach [a, b] X.env = (false, eval a X.env) :: starEach [b] X.env := by rfl) (he2 : starEach [b] X.env = (false, eval b X.env) :: starEach [] X.env := by rfl) (hpl : (backTo pos (starEach [b] X.env)).any (·.1) = false := by rfl) :
    DIF X (.Tuple es kk tpos) (.Call (.Name "zip" p) [a, b] [] pos) Γ (min xs.length ys.length) (fun i => .tuple [xs.getD i .none, ys.getD i .none]) := fun B O H σ R g q =>
  wI_of (RZ.pi_zipA hg hm pa_w he hpl) (da_cons ha (da_cons hb da_nil he2) he B O H σ _ g fun vs H2 s2 d2 => by
    cases d2 with
    | cons q1 q2 =>
      cases q2 with
      | cons q2 q3 =>
        cases q3
        cases q1 with
        | tup hs1 ha1 =>
          cases q2 with
          | tup hs2 ha2 =>
            rename_i l1 vs1 l2 vs2
            refine ⟨l1, l2, vs1, vs2, rfl, .inr ⟨Same.seqT hid_sub hs1, Same.seqT hid_sub hs2, q _ H2 s2 fun H3 O3 s3 lv => ?_⟩⟩
            have G1 : SqT X.K H3 l1 vs1 := Same.seqT (s3.trans hid_sub) hs1
            have G2 : SqT X.K H3 l2 vs2 := Same.seqT (s3.trans hid_sub) hs2
            have n1 := dpAll_len ha1
            have n2 := dpAll_len ha2
            refine ⟨fun i hi => ?_, ?_, fun i hi x H4 y => ?_⟩
            · exact ⟨vs1, vs2, vs1[i]'(by omega), vs2[i]'(by omega), G1, G2, by simp, by simp⟩
            · exact ⟨vs1, vs2, G1, G2, by omega⟩
            · obtain ⟨T, x1, x2, rfl, nT, rfl, f1, f2⟩ := y
              have e1 := f1 _ G1
              have e2 := f2 _ G2
              obtain ⟨d1, r1, r2⟩ := dpAll_getV ha1 e1
              obtain ⟨d2, t1, t2⟩ := dpAll_getV ha2 e2
              simp only []
              rw [getD_of r1, getD_of t1]
              have sm := s3.trans (hid_mono (O := O3) (same_upd (o := .tup [x1, x2]) nT))
              exact ⟨same_upd nT, .tup (sqT_new (live_not lv nT)) (.cons (dp_mono sm _ _ r2) (.cons (dp_mono sm _ _ t2) .nil))⟩)
/-- zip of two lists to be read -/
theorem dic_zipL {tpos : Pos} {kk : Nat} (hm : X.mg "zip" = none) (ha : DR X a Γ xs) (hb : DR X b Γ ys) (hg : Gl X "zip" := by rfl) (he : starEach [a, b] X.env = (false, eval a X.env) :: starEach [b] X.env := by rfl) (he2 : starEach [b] X.env = (false, eval b X.env) :: starEach [] X.env := by rfl) (hpl : (backTo pos (starEach [b] X.env)).any (·.1) = false := by rfl) :
    DIC X (.Tuple es kk tpos) (.Call (.Name "zip" p) [a, b] [] pos) Γ (min xs.length ys.length) (fun i => .tuple [xs.getD i .none, ys.getD i .none]) := fun B O H σ R g q =>
  wI_of (RZ.pi_zipA hg hm (pa_cons pe_w (pa_cons pe_w pa_nil he2) he) he hpl) (ha B O H σ _ g fun l1 vs1 H1 s1 g1 ha1 => hb B O H1 σ _ (g.step s1) fun l2 vs2 H2 s2 g2 ha2 => by
    refine ⟨l1, l2, vs1, vs2, rfl, .inl ⟨s2.seq g1, g2, q _ H2 (s1.trans s2) fun H3 O3 s3 o3 lv => ?_⟩⟩
    have G1 : SqL X.K H3 l1 vs1 := (s2.trans s3).seq g1
    have G2 : SqL X.K H3 l2 vs2 := s3.seq g2
    have n1 := dpAll_len ha1
    have n2 := dpAll_len ha2
    refine ⟨fun i hi => ?_, ?_, fun i hi x H4 y => ?_⟩
    · exact ⟨vs1, vs2, vs1[i]'(by omega), vs2[i]'(by omega), G1, G2, by simp, by simp⟩
    · exact ⟨vs1, vs2, G1, G2, by omega⟩
    · obtain ⟨T, x1, x2, rfl, nT, rfl, f1, f2⟩ := y
      have e1 := f1 _ G1
      have e2 := f2 _ G2
      obtain ⟨d1, r1, r2⟩ := dpAll_getV ha1 e1
      obtain ⟨d2, t1, t2⟩ := dpAll_getV ha2 e2
      simp only []
      rw [getD_of r1, getD_of t1]
      have sm := (hid_c s3 o3).trans (hid_mono (O := O3) (same_upd (o := .tup [x1, x2]) nT))
      exact ⟨same_upd nT, .tup (sqT_new (live_not lv nT)) (.cons (dp_mono ((hid_mono s2).trans sm) _ _ r2) (.cons (dp_mono sm _ _ t2) .nil))⟩)
/-- enumerate of a list to be read -/
theorem dic_enumL {tpos : Pos} {kk : Nat} (hm : X.mg "enumerate" = none) (ha : DR X a Γ xs) (hg : Gl X "enumerate" := by rfl) (he : starEach [a] X.env = (false, eval a X.env) :: starEach [] X.env := by rfl) :
    DIC X (.Tuple es kk tpos) (.Call (.Name "enumerate" p) [a] [] pos) Γ xs.length (fun i => .tuple [.int i, xs.getD i .none]) := fun B O H σ R g q =>
  wI_of (pi_enum hg hm pa_w he) (wA_one he (ha B O H σ _ g fun l1 vs1 H2 s2 g1 ha1 => by
    refine ⟨l1, vs1, rfl, g1, q _ H2 s2 fun H3 O3 s3 o3 lv => ?_⟩
    have G1 : SqL X.K H3 l1 vs1 := s3.seq g1
    have n1 := dpAll_len ha1
    refine ⟨fun i hi => ?_, ?_, fun i hi x H4 y => ?_⟩
    · exact ⟨vs1, vs1[i]'(by omega), G1, by simp⟩
    · exact ⟨vs1, G1, by omega⟩
    · obtain ⟨T, x1, rfl, nT, rfl, f1⟩ := y
      have e1 := f1 _ G1
      obtain ⟨d1, r1, r2⟩ := dpAll_getV ha1 e1
      simp only []
      rw [getD_of r1]
      have sm := (hid_c s3 o3).trans (hid_mono (O := O3) (same_upd (o := .tup [.int (i : Nat), x1]) nT))
      exact ⟨same_upd nT, .tup (sqT_new (live_not lv nT)) (.cons (.int _) (.cons (dp_mono sm _ _ r2) .nil))⟩))
end
end EY
set_option maxHeartbeats 1000000
/-! enumerate(tuple) -/
namespace EY
open PySem PySem.Spec PyProof.Rows L2
theorem meets_enum1 {v : Value} {o : Obj} {H : Heap → Prop} (B : Begins v o H) :
    Meets (Builtin.«enumerate.__new__» ⟨[.type "enumerate", v], []⟩) (fun _ R s => H s.heap ∧
      R (.ok (.ret (.ref (s.heap.push o).objs.size))) { s with heap := (s.heap.push o).push { cls := .type "enumerate", data := .fields #[.none, .bool false, .ref s.heap.objs.size, rawInt 0, .none, .none] } }) :=
  .of_wp fun prog w A R s h => by
    obtain ⟨hp, g, d, tk, os⟩ := s; obtain ⟨h1, h⟩ := h
    have hsub := sub_enumerate
    have q1 : ∀ {A' : Around} {E : Value → Shared → Prop} {Q : Value → Shared → Prop}, Q (.ref hp.objs.size) ⟨hp.push o, g, d, tk, os⟩ → wpAny (model prog w) A' (pyIter v) Q E ⟨hp, g, d, tk, os⟩ :=
      fun q => B.iter prog w _ _ ⟨hp, g, d, tk, os⟩ _ h1 q
    wp_walk using q1
    refine wpAny_stack_any fun st => wpAny_pure ?_
    split
    · rename_i c _ _ _ _ _
      cases (c == Value.type "enumerate")
      · wp_walk using q1
        exact ⟨_, rfl, h⟩
      · wp_walk using q1
        exact ⟨_, rfl, h⟩
    · wp_walk using q1
      exact ⟨_, rfl, h⟩
section
variable {prog : Program} {w : World} {A : Around} {E : Value → Shared → Prop} {s : Shared}
theorem enum_begins1 {v : Value} {o : Obj} {H : Heap → Prop} {Q : Value → Shared → Prop} (B : Begins v o H) (h1 : H s.heap)
    (h : ∀ h', IsEnum h' (s.heap.objs.size + 1) s.heap.objs.size 0 .none → h'.get? s.heap.objs.size = some o → h'.objs.size = s.heap.objs.size + 2 →
      (∀ b o, s.heap.get? b = some o → h'.get? b = some o) → Q (.ref (s.heap.objs.size + 1)) { s with heap := h' }) :
    wpAny (model prog w) A (call (.type "enumerate") [v]) Q E s := by
  refine callType_new F.called_enumerate (by decide) (F.typeCall_enumerate_1 _) (F.newCall_enumerate_1 _) (fun obj => F.args_object_init_2 obj _) F.entry_enumerate_new
    (meets_enum1 B) ⟨h1, ?_⟩
  have hz : (s.heap.push o).objs.size = s.heap.objs.size + 1 := Heap.size_push ..
  show _ ∧ _
  rw [hz]
  have he : IsEnum ((s.heap.push o).push { cls := .type "enumerate", data := .fields #[.none, .bool false, .ref s.heap.objs.size, rawInt 0, .none, .none] }) (s.heap.objs.size + 1) s.heap.objs.size 0 .none := by
    have := Heap.get?_push_size (s.heap.push o) (o := { cls := .type "enumerate", data := .fields #[.none, .bool false, .ref s.heap.objs.size, rawInt 0, .none, .none] }) rfl
    rw [hz] at this; exact this
  refine ⟨⟨_, he, rfl⟩, h _ he (Heap.get?_push_of_some _ (Heap.get?_push_size _ B.free)) (by rw [Heap.size_push, hz]) fun b o x => Heap.get?_push_of_some _ (Heap.get?_push_of_some _ x)⟩
end
def IteT (K : PySem.W.Frag) (a : Addr) : It :=
  ⟨fun i H => ∃ (xs : List V) (x : V), SqT K H a xs ∧ xs[i]? = some x, fun i H v H' => ∃ T x, v = .ref T ∧ H T = none ∧ H' = upd H T (.tup [.int (i : Nat), x]) ∧ ∀ xs, SqT K H a xs → xs[i]? = some x, fun i H => ∃ xs : List V, SqT K H a xs ∧ xs.length = i⟩
theorem turn_enumT {P : Program} {w : World} {K : PySem.W.Frag} {elts : List Expr} {kk : Nat} {tpos : Pos} (a e it : Addr) :
    Turn P w K (.Tuple elts kk tpos) (IteT K a) [e, it] e (fun i h => (∃ old, IsEnum h e it ((i : Nat) : Int) old) ∧ h.IsTupleIter it a i ∧ e ≠ it) where
  mem := by simp
  obj := fun i h st b hb => by
    obtain ⟨⟨old, he⟩, ⟨o, ho, hc, hd⟩, _⟩ := st
    have e' : b = e ∨ b = it := by simpa using hb
    rcases e' with z | z
    · rw [z]; exact ⟨_, he, fun v q => nomatch q⟩
    · rw [z]; exact ⟨o, ho, fun v q => by rw [hd] at q; cases q⟩
  keep := fun i h h' st k => let ⟨⟨old, he⟩, hi, hne⟩ := st; ⟨⟨old, k e (by simp) _ he⟩, hi.at fun o q => k it (by simp) o q, hne⟩
  item := by
    intro X hP hw hK hc i pins s σ H E I hf st hg
    subst hP hw hK
    obtain ⟨⟨old, he⟩, hit, hne⟩ := st
    obtain ⟨xs, x, hq, hx⟩ := hg
    obtain ⟨its, rv, p, hz⟩ := I.tuple hq
    obtain ⟨u, hu, ru⟩ := rv.get hx
    have hel : e < s.heap.objs.size := Heap.lt_size he
    have hil : it < s.heap.objs.size := by obtain ⟨_, q, _⟩ := hit; exact Heap.lt_size q
    have nat : a ≠ it := fun z => by
      obtain ⟨o1, q1, c1, _⟩ := hit
      obtain ⟨o2, q2, c2, _⟩ := p
      rw [z, q1] at q2
      cases q2
      rw [c1] at c2
      exact absurd c2 (by decide)
    have nae : e ≠ a := fun z => by
      obtain ⟨o2, q2, c2, _⟩ := p
      have he' : s.heap.get? e = some _ := he
      rw [← z, he'] at q2
      cases q2
      have c3 : Value.type "enumerate" = Value.type "tuple" := c2
      exact absurd c3 (by decide)
    have D := Draws.tuple (prog := X.prog) (w := X.w) (A := X.A.in1) (I.ok.hd hc) it a nat its.toArray
    have hu2 : its.toArray[i]? = some u := by simpa using hu
    refine wpAny_pyNext_enum_itemD D he ⟨hit, p⟩ (by
      have := (List.getElem?_eq_some_iff.mp hu).1
      simpa using this) hne (by simp [hne, nae]) fun x' h' tk hPx ho hst' hT hsz hk => ?_
    have ex : x' = u := by
      rw [hu2] at hPx
      exact (Option.some.inj hPx).symm
    subst ex
    refine ⟨_, rfl, wpAny_letOwnedTupleGo_enum (s := { s with heap := h', toks := tk + 1 }) ho fun h'' he' sb => ?_⟩
    have hT2 : h''.get? s.heap.objs.size = some { cls := .type "tuple", data := .seq #[.int i tk, x'] } := (sb.2 _ (Nat.ne_of_gt hel)).trans hT
    have new : ObjOk X.prog X.w (upd H s.heap.objs.size (.tup [.int (i : Nat), x])) h'' s.heap.objs.size (.tup [.int (i : Nat), x]) :=
      ⟨by show 2 ≤ sizeLine; decide, [.int i tk, x'], .cons ⟨_, rfl⟩ (.cons ru .nil), ⟨_, hT2, rfl, _, rfl⟩⟩
    have I1 : Inv X pins σ (upd H s.heap.objs.size (.tup [.int (i : Nat), x])) { s with heap := h'', toks := tk + 1 } :=
      I.turnedNew (ch := [e, it]) (fun b ob hb q => (sb.2 b (fun z => hb (by simp [z]))).trans (hk b ob (fun z => hb (by simp [z])) (fun z => hb (by simp [z])) q)) hf (Nat.le_refl _) new
    refine ⟨.ref s.heap.objs.size, _, I1, rfl, ⟨_, x, rfl, I.hok.fresh (Nat.le_refl _), rfl, fun ys hy => ?_⟩, ⟨⟨x', ?_⟩, hst'.1.at fun o q => (sb.2 it (Ne.symm hne)).trans q, hne⟩, fun b hb => ?_⟩
    · obtain ⟨its2, rv2, p2, _⟩ := I.tuple hy
      obtain ⟨o1, q1, c1, n1, d1⟩ := p
      obtain ⟨o2, q2, c2, n2, d2⟩ := p2
      rw [q1] at q2
      cases q2
      rw [I.tuple_inj hy hq]
      exact hx
    · have e1 : ((i + 1 : Nat) : Int) = (i : Int) + 1 := by omega
      rw [e1]; exact he'
    · have hb' : b < s.heap.objs.size := by
        have e' : b = e ∨ b = it := by simpa using hb
        rcases e' with z | z
        · rw [z]; exact hel
        · rw [z]; exact hil
      rw [upd_ne (Nat.ne_of_lt hb')]
      exact (hf b hb).1
  done := by
    intro X hP hw hK hc i pins s σ H E I hf st hg
    subst hP hw hK
    obtain ⟨⟨old, he⟩, hit, hne⟩ := st
    obtain ⟨xs, hq, hx⟩ := hg
    obtain ⟨its, rv, p, hz⟩ := I.tuple hq
    obtain ⟨f0, f1, f2, f3, f4, f5⟩ := hf it (by simp)
    have hl := rv.length
    have nat : a ≠ it := fun z => by
      obtain ⟨o1, q1, c1, _⟩ := hit
      obtain ⟨o2, q2, c2, _⟩ := p
      rw [z, q1] at q2
      cases q2
      rw [c1] at c2
      exact absurd c2 (by decide)
    have D := Draws.tuple (prog := X.prog) (w := X.w) (A := X.A.in1) (I.ok.hd hc) it a nat its.toArray
    have ei : its.toArray.size = i := by simp; omega
    rw [ei] at D
    exact wpAny_pyNext_enum_endD D he ⟨hit, p⟩ fun h' eb => ⟨rfl, I.turned (t' := s.toks) (fun b o hb q => eb b o hb q) f0 f1 f3 f4 f5⟩
  self := fun A i s Q E st h => let ⟨⟨_, he⟩, _⟩ := st; wpAny_pyIter_enum he h
def iEnumT (K : PySem.W.Frag) (ta : TA) : TI := fun σ H R => ta σ H fun vs H1 => ∃ a xs, vs = [.ref a] ∧ SqT K H1 a xs ∧ R (IteT K a) H1
theorem pi_enumT {X : Cx} {e : Expr} {ta : TA} {p pos tpos : Pos} {elts : List Expr} {kk : Nat} (hg : Gl X "enumerate") (hm : X.mg "enumerate" = none) (ha : PA X [e] ta) (hs : starEach [e] X.env = [(false, eval e X.env)] := by rfl) :
    PI X (.Tuple elts kk tpos) (.Call (.Name "enumerate" p) [e] [] pos) (iEnumT X.K ta) := by
  refine ⟨fun pins s σ H R I h => ?_⟩
  refine Call_ (ld_blt I hg hm boot_enumerate (PyProof.Rows.callWith_type1 (thn (ha.run pos pins s σ H _ I h) fun us s1 ⟨vs, H1, I1, r1, q1⟩ => ?_) hs rfl))
  obtain ⟨a, xs, ex, hq, q⟩ := q1
  subst ex
  cases r1 with
  | cons r rr =>
    cases rr
    cases r
    obtain ⟨its, rv, p', hz⟩ := I1.tuple hq
    refine enum_begins1 (begins_tuple a its.toArray) p' fun h' he hit hsz hk => wpAny_pyIter_enum he ?_
    have I2 : Inv X pins σ H1 { s1 with heap := h' } := I1.kept (t' := s1.toks) hk
    refine ⟨s1.heap.objs.size + 1, [s1.heap.objs.size + 1, s1.heap.objs.size], _, _, H1, rfl, I2, turn_enumT a (s1.heap.objs.size + 1) s1.heap.objs.size, ⟨⟨.none, he⟩, ⟨_, hit, rfl, rfl⟩, Nat.succ_ne_self _⟩, fun b hb => ?_, q⟩
    have e' : b = s1.heap.objs.size + 1 ∨ b = s1.heap.objs.size := by simpa using hb
    have hle : s1.heap.objs.size ≤ b := by
      rcases e' with z | z
      · rw [z]; exact Nat.le_add_right _ _
      · rw [z]; exact Nat.le_refl _
    exact I1.fpOk hle (I1.hok.fresh hle)
section
variable {X : Cx} {Γ : Gm} {a : Expr} {es : List Expr} {p pos : Pos} {xs : List PyData}
theorem dif_enumT {tpos : Pos} {kk : Nat} (hm : X.mg "enumerate" = none) (ha : DE X a Γ (.tuple xs)) (hg : Gl X "enumerate" := by rfl) (he : starEach [a] X.env = (false, eval a X.env) :: starEach [] X.env := by rfl) :
    DIF X (.Tuple es kk tpos) (.Call (.Name "enumerate" p) [a] [] pos) Γ xs.length (fun i => .tuple [.int i, xs.getD i .none]) := fun B O H σ R g q =>
  wI_of (pi_enumT hg hm pa_w he) (wA_one he (ha B O H σ _ g fun v H2 s2 d2 => by
    cases d2 with
    | tup hs1 ha1 =>
      rename_i l1 vs1
      refine ⟨l1, vs1, rfl, Same.seqT hid_sub hs1, q _ H2 s2 fun H3 O3 s3 lv => ?_⟩
      have G1 : SqT X.K H3 l1 vs1 := Same.seqT (s3.trans hid_sub) hs1
      have n1 := dpAll_len ha1
      refine ⟨fun i hi => ?_, ?_, fun i hi x H4 y => ?_⟩
      · exact ⟨vs1, vs1[i]'(by omega), G1, by simp⟩
      · exact ⟨vs1, G1, by omega⟩
      · obtain ⟨T, x1, rfl, nT, rfl, f1⟩ := y
        have e1 := f1 _ G1
        obtain ⟨d1, r1, r2⟩ := dpAll_getV ha1 e1
        simp only []
        rw [getD_of r1]
        have sm := s3.trans (hid_mono (O := O3) (same_upd (o := .tup [.int (i : Nat), x1]) nT))
        exact ⟨same_upd nT, .tup (sqT_new (live_not lv nT)) (.cons (.int _) (.cons (dp_mono sm _ _ r2) .nil))⟩))
end
end EY
set_option autoImplicit false
set_option maxHeartbeats 1000000
namespace EY
open PySem L2
/-! ### targets -/
structure wG (X : Cx) (tg : Expr) (v : V) (σ : L2.St) (H : Hp) (Q : L2.St → Hp → Prop) : Prop where
  run : ∀ (pins : List (Addr × Obj)) (s : Shared) (u : Value), Inv X pins σ H s → RelV v u → wpAny (model X.prog X.w) X.A (assign tg X.env u) (fun _ s' => ∃ σ' H', Inv X pins σ' H' s' ∧ Q σ' H') X.xe s
theorem pg_w {X : Cx} {tg : Expr} : PG X tg (wG X tg) := ⟨fun pins s _ _ _ u _ I r h => h.run pins s u I r⟩
theorem wG_of {X : Cx} {tg : Expr} {t : TG} {v : V} {σ : L2.St} {H : Hp} {Q : L2.St → Hp → Prop} (h : PG X tg t) (q : t v σ H Q) : wG X tg v σ H Q := ⟨fun pins s u I r => h.run pins s σ H v u Q I r q⟩
/-- the slots but those at js are as they were -/
def Agr (js : List Nat) (σ σ' : L2.St) : Prop := σ'.length = σ.length ∧ ∀ k : Nat, k ∉ js → σ'[k]? = σ[k]?
theorem Agr.set (σ : L2.St) (i : Nat) (w : Option V) : Agr [i] σ (σ.set i w) := ⟨List.length_set, fun k hk => get_set_ne (fun e => hk (by simp [e]))⟩
theorem Agr.trans {js ks : List Nat} {σ σ1 σ2 : L2.St} (a : Agr js σ σ1) (b : Agr ks σ1 σ2) : Agr (js ++ ks) σ σ2 := ⟨b.1.trans a.1, fun k hk => by
  have h1 : k ∉ js := fun z => hk (List.mem_append.mpr (.inl z))
  have h2 : k ∉ ks := fun z => hk (List.mem_append.mpr (.inr z))
  rw [b.2 k h2, a.2 k h1]⟩
def DG (X : Cx) (tg : Expr) (Γ : Gm) (d : PyData) (Γ' : Gm) (js : List Nat) : Prop := ∀ (B : Bs) (O : Addr → Prop) (H : Hp) (σ : L2.St) (v : V) (Q : L2.St → Hp → Prop), Sg X.K B O H σ Γ → Dp X.K (hid O H) v d →
  (∀ σ', Sg X.K B O H σ' Γ' → Agr js σ σ' → Q σ' H) → wG X tg v σ H Q
section
variable {X : Cx} {Γ Γ' Γ'' : Gm} {a b : Expr} {p pos : Pos} {d d1 d2 : PyData} {x : Str}
theorem dg_name (i : Nat) (hN : X.N.Nodup) (hi : X.N[i]? = some x := by rfl) (hx : Loc X.env.scope x := by first | exact Or.inl rfl | exact Or.inr rfl) (hf : X.fn x = true ∨ X.env.scope.names.lookup x = some .local := by first | exact .inl rfl | exact .inr rfl) :
    DG X (.Name x pos) Γ d (Γ.set i (some (.d d))) [i] := fun B O H σ v Q g hd q => wG_of (pg_name hN hi hx hf) (q _ (g.setD hd) (Agr.set σ i _))
theorem dg_tup2 {k : Nat} {js ks : List Nat} (ha : DG X a Γ d1 Γ' js) (hb : DG X b Γ' d2 Γ'' ks) (hc : X.calm = true := by rfl) (h1 : (assignEach [a, b] X.env).map (·.2) = assign a X.env :: (assignEach [b] X.env).map (·.2) := by rfl) (h2 : (assignEach [b] X.env).map (·.2) = assign b X.env :: (assignEach [] X.env).map (·.2) := by rfl)
    (hn : (assignEach [a, b] X.env).length = 2 := by rfl) (hst : (assignEach [a, b] X.env).findIdx? (·.1) = none := by rfl) : DG X (.Tuple [a, b] k pos) Γ (.tuple [d1, d2]) Γ'' (js ++ ks) := fun B O H σ v Q g hd q =>
  wG_of (pg_tup hc (pgs_cons pg_w (pgs_cons pg_w pgs_nil h2) h1) hn hst) (by
    cases hd with
    | tup hs ha' =>
      cases ha' with
      | cons q1 q2 =>
        cases q2 with
        | cons q2 q3 =>
          cases q3
          refine ⟨_, _, rfl, Same.seqT hid_sub hs, rfl, _, _, rfl, ?_⟩
          refine ha B O H σ _ _ g q1 fun σ1 g1 a1 => ⟨_, _, rfl, hb B O H σ1 _ _ g1 q2 fun σ2 g2 a2 => ⟨rfl, q σ2 g2 (a1.trans a2)⟩⟩)
end
/-! ### comprehensions -/
def wipeG (Γ : Gm) : List Nat → Gm
  | [] => Γ
  | v :: vs => (wipeG Γ vs).set v none
theorem Sg.wipe {K : PySem.W.Frag} {B : Bs} {O : Addr → Prop} {H : Hp} {σ : L2.St} {Γ : Gm} (g : Sg K B O H σ Γ) : ∀ vs : List Nat, Sg K B O H (L2.wipe σ vs) (wipeG Γ vs)
  | [] => g
  | v :: vs => (Sg.wipe g vs).drop
theorem wipe_get (σ : L2.St) : ∀ (vs : List Nat) (k : Nat), (L2.wipe σ vs)[k]? = if k ∈ vs then (if k < σ.length then some none else none) else σ[k]?
  | [], k => by simp [L2.wipe]
  | v :: vs, k => by
    show ((L2.wipe σ vs).set v none)[k]? = _
    by_cases h : k = v
    · subst h
      rw [List.getElem?_set, if_pos rfl, wipe_length]
      simp
    · rw [get_set_ne h, wipe_get σ vs k]
      simp [h]
theorem wipe_agr {js vs : List Nat} {σ σ' : L2.St} (h : ∀ j ∈ js, j ∈ vs) (a : Agr js (L2.wipe σ vs) σ') : L2.wipe σ' vs = L2.wipe σ vs := by
  apply List.ext_getElem?
  intro k
  have hl : σ'.length = σ.length := by rw [a.1, wipe_length]
  rw [wipe_get, wipe_get, hl]
  by_cases hk : k ∈ vs
  · rw [if_pos hk, if_pos hk]
  · rw [if_neg hk, if_neg hk, a.2 k (fun z => hk (h k z)), wipe_get, if_neg hk]
/-- a comprehension: what it makes -/
structure Comp (X : Cx) (elt tg iter : Expr) (ifs : List Expr) (scope : Scope) (Γ : Gm) (xs : List PyData) : Prop where
  ex : ∃ (own : List (Str × Nat)) (wi : TI) (g : TG) (tt : TT) (te : TE), X.calm = true ∧ X.N.Nodup ∧ PI X tg iter wi ∧ BlkOk X.N X.env.scope scope own ∧
    (∀ (s : Shared) (H : Hp) (C : Addr) (cl : List (Str × Addr)) (fp : List Addr), PG (X.blk s H scope (compEnvC scope cl C X.env) fp) tg g) ∧
    (∀ (s : Shared) (H : Hp) (C : Addr) (cl : List (Str × Addr)) (fp : List Addr), PTs (X.blk s H scope (compEnvC scope cl C X.env) fp) ifs tt) ∧
    (∀ (s : Shared) (H : Hp) (C : Addr) (cl : List (Str × Addr)) (fp : List Addr), PE (X.blk s H scope (compEnvC scope cl C X.env) fp) elt te) ∧
    (∀ x, foldedSetIterable iter X.env x = pure x) ∧
    ∀ (B : Bs) (O : Addr → Prop) (H : Hp) (σ : L2.St) (Q : VK), Sg X.K B O H σ Γ →
      (∀ p vs H2, H p = none → Same H H2 → H2 p = some (.lst vs) → DpAll X.K (hid (fun a => O a ∨ a = p) H2) vs xs → Q (.ref p) H2) → tLc wi g tt te (own.map (·.2)) σ H Q
def DTs (X : Cx) (ifs : List Expr) (Γ : Gm) (b : Bool) : Prop := ∀ (H0 : Bs) (O : Addr → Prop) (H : Hp) (σ : L2.St) (Q : Bool → Hp → Prop), Sg X.K H0 O H σ Γ → (∀ H2, Same H H2 → Q b H2) → ∃ t, PTs X ifs t ∧ t σ H Q
section
variable {X : Cx} {Γ : Gm} {elt tg iter c : Expr} {ifs : List Expr} {scope : Scope} {pos : Pos} {xs : List PyData}
theorem dts_nil : DTs X [] Γ true := fun B O H σ Q g q => ⟨_, pts_nil, q H (Same.refl H)⟩
theorem dts_one {b : Bool} (h : DT X c Γ b) : DTs X [c] Γ b := fun B O H σ Q g q => ⟨_, pts_one pt_w, h B O H σ Q g q⟩
/-- what a comprehension gathers -/
def gath (n : Nat) (f : Nat → Bool) (v : Nat → PyData) : List PyData := ((List.range n).filter f).map v
theorem gath_yes {n : Nat} {f : Nat → Bool} {v : Nat → PyData} (h : f n = true) : gath (n + 1) f v = gath n f v ++ [v n] := by
  unfold gath
  rw [List.range_succ, List.filter_append, List.map_append, List.filter_cons, if_pos h]
  rfl
theorem gath_no {n : Nat} {f : Nat → Bool} {v : Nat → PyData} (h : f n = false) : gath (n + 1) f v = gath n f v := by
  unfold gath
  rw [List.range_succ, List.filter_append, List.map_append, List.filter_cons, if_neg (by rw [h]; decide)]
  show _ ++ [] = _
  rw [List.append_nil]
theorem gath_len (n : Nat) (f : Nat → Bool) (v : Nat → PyData) : (gath n f v).length ≤ n := by
  unfold gath
  rw [List.length_map]
  have h := List.length_filter_le f (List.range n)
  rw [List.length_range] at h
  exact h
abbrev Blk (X : Cx) (scope : Scope) (X' : Cx) : Prop := ∃ (s : Shared) (H : Hp) (C : Addr) (cl : List (Str × Addr)) (fp : List Addr), X' = X.blk s H scope (compEnvC scope cl C X.env) fp
theorem comp_of {n : Nat} {it : Nat → PyData} {own : List (Str × Nat)} {js : List Nat} (hN : X.N.Nodup) (hi : DIC X tg iter Γ n it) (ok : BlkOk X.N X.env.scope scope own) (Γi : Nat → Gm) (f : Nat → Bool) (v : Nat → PyData) (hn : n ≤ 10000)
    (hg : ∀ i, i < n → ∀ (s : Shared) (H : Hp) (C : Addr) (cl : List (Str × Addr)) (fp : List Addr), DG (X.blk s H scope (compEnvC scope cl C X.env) fp) tg (wipeG Γ (own.map (·.2))) (it i) (Γi i) js) (hj : ∀ j ∈ js, j ∈ own.map (·.2))
    (ht : ∀ i, i < n → ∀ (s : Shared) (H : Hp) (C : Addr) (cl : List (Str × Addr)) (fp : List Addr), DTs (X.blk s H scope (compEnvC scope cl C X.env) fp) ifs (Γi i) (f i))
    (he : ∀ i, i < n → f i = true → ∀ (s : Shared) (H : Hp) (C : Addr) (cl : List (Str × Addr)) (fp : List Addr), DE (X.blk s H scope (compEnvC scope cl C X.env) fp) elt (Γi i) (v i))
    (hc : X.calm = true := by rfl) (hs : ∀ x, foldedSetIterable iter X.env x = pure x := by intro _; rfl) : Comp X elt tg iter ifs scope Γ (gath n f v) := by
  refine ⟨own, wI X tg iter, fun v σ H Q => ∀ (s : Shared) (H' : Hp) (C : Addr) (cl : List (Str × Addr)) (fp : List Addr), wG (X.blk s H' scope (compEnvC scope cl C X.env) fp) tg v σ H Q,
    fun σ H Q => ∀ (s : Shared) (H' : Hp) (C : Addr) (cl : List (Str × Addr)) (fp : List Addr), ∃ t, PTs (X.blk s H' scope (compEnvC scope cl C X.env) fp) ifs t ∧ t σ H Q,
    fun σ H Q => ∀ (s : Shared) (H' : Hp) (C : Addr) (cl : List (Str × Addr)) (fp : List Addr), wE (X.blk s H' scope (compEnvC scope cl C X.env) fp) elt σ H Q,
    hc, hN, pi_w, ok, fun s H C cl fp => ⟨fun pins s' σ H' v u Q I r h => (h s H C cl fp).run pins s' u I r⟩, fun s H C cl fp => ⟨fun pins s' σ H' Q I h => let ⟨t, h1, h2⟩ := h s H C cl fp; h1.run pins s' σ H' Q I h2⟩, fun s H C cl fp => ⟨fun pins s' σ H' Q I h => (h s H C cl fp).run pins s' I⟩, hs, fun B O H σ Q g q => ?_⟩
  refine hi B O H σ _ g fun J H1 s1 wk D hD => ?_
  -- the walk, the new list at D owned
  have g1 := g.step s1
  refine ⟨fun i m H' => m = n - i ∧ i ≤ n ∧ Same H1 H' ∧ ∃ vs, H' D = some (.lst vs) ∧ DpAll X.K (hid (fun a => O a ∨ a = D) H') vs (gath i f v), ⟨n, by simp, Nat.zero_le _, same_upd hD, [], upd_same, .nil⟩, ?_⟩
  rintro i m H' ⟨rfl, hin, sm, vs, hvs, hdp⟩
  have g2 : Sg X.K B (fun a => O a ∨ a = D) H' σ Γ := g1.grow hD sm ⟨_, hvs⟩
  have o2 : ∀ a, (O a ∨ a = D) → O a ∨ H1 a = none := fun a h => by
    rcases h with h | h
    · exact .inl h
    · subst h
      exact .inr hD
  obtain ⟨w1, w2, w3⟩ := wk H' (fun a => O a ∨ a = D) sm o2 g2.live
  by_cases hlt : i < n
  · refine .inr ⟨w1 i hlt, fun H' => i + 1 ≤ n ∧ Same H1 H' ∧ ∃ vs, H' D = some (.lst vs) ∧ DpAll X.K (hid (fun a => O a ∨ a = D) H') vs (gath (i + 1) f v), fun H2 h2 => ⟨n - (i + 1), by omega, rfl, h2⟩, fun x H3 hy => ?_⟩
    obtain ⟨s3, hx⟩ := w3 i hlt x H3 hy
    have g3 := (g2.step s3).wipe (own.map (·.2))
    intro s5 H5 C5 cl5 fp5
    refine hg i hlt s5 H5 C5 cl5 fp5 B _ H3 _ x _ g3 hx fun σ2 gs2 ag => ⟨wipe_agr hj ag, ?_⟩
    intro s6 H6 C6 cl6 fp6
    refine ht i hlt s6 H6 C6 cl6 fp6 B _ H3 σ2 _ gs2 fun H4 s4 => ?_
    cases hf : f i with
    | true =>
      rw [if_pos rfl]
      intro s7 H7 C7 cl7 fp7
      refine he i hlt hf s7 H7 C7 cl7 fp7 B _ H4 σ2 _ (gs2.step s4) fun y H8 s8 hy8 => ?_
      have sm8 := (s3.trans s4).trans s8
      refine ⟨vs, sm8 _ _ hvs, ?_, by omega, ?_, vs ++ [y], upd_same, ?_⟩
      · have := dpAll_len hdp
        have l2 := gath_len i f v
        exact Nat.lt_of_le_of_lt (show vs.length ≤ 10000 by omega) (by decide)
      · intro b o e
        rw [upd_ne (ne_of_none e hD)]
        exact sm8 _ _ (sm _ _ e)
      · rw [gath_yes hf]
        have hh : hid (fun a => O a ∨ a = D) (upd H8 D (.lst (vs ++ [y]))) = hid (fun a => O a ∨ a = D) H8 := by
          funext a
          unfold hid
          by_cases h : O a ∨ a = D
          · rw [if_pos h, if_pos h]
          · rw [if_neg h, if_neg h, upd_ne (fun z => h (.inr z))]
        rw [hh]
        exact dpAll_app (dpAll_mono (hid_mono sm8) _ _ hdp) (.cons hy8 .nil)
    | false =>
      rw [if_neg Bool.false_ne_true]
      refine ⟨by omega, sm.trans (s3.trans s4), vs, (s3.trans s4) _ _ hvs, ?_⟩
      rw [gath_no hf]
      exact dpAll_mono (hid_mono (s3.trans s4)) _ _ hdp
  · have e : i = n := by omega
    subst e
    exact .inl ⟨w2, q D vs H' (s1.free hD) (s1.trans sm) hvs hdp⟩
theorem Comp.dl (h : Comp X elt tg iter ifs scope Γ xs) : DL X (.ListComp elt [⟨tg, iter, ifs, 0⟩] scope pos) Γ xs := fun B O H σ Q g q => by
  obtain ⟨own, wi, gt, tt, te, h1, h2, h3, h4, h5, h6, h7, h8, h9⟩ := h.ex
  exact wE_of (pe_lc h1 h2 h3 h4 h5 h6 h7 h8) (h9 B O H σ Q g q)
theorem Comp.is {ys : List PyData} (h : Comp X elt tg iter ifs scope Γ xs) (q : xs = ys) : Comp X elt tg iter ifs scope Γ ys := q ▸ h
end

/-! ### statements -/
structure Po where
  nx : Gm → Prop
  rt : PyData → Prop
  bk : Gm → Prop := fun _ => False
  ct : Gm → Prop := fun _ => False
  /-- the class of an error that may leave -/
  xr : Value → Gm → Prop := fun _ _ => False
  /-- what is handed back, told of the very state -/
  rr : (Addr → Prop) → Hp → V → Gm → Prop := fun _ _ _ _ => False
structure Fits (X : Cx) (B : Bs) (P : Po) (D : Ends) : Prop where
  nx : ∀ O H σ Γ, P.nx Γ → Sg X.K B O H σ Γ → D.nx σ H
  rt : ∀ H v d, P.rt d → Same B.H H → Dp X.K (hid B.F H) v d → D.rt v H
  bk : ∀ O H σ Γ, P.bk Γ → Sg X.K B O H σ Γ → D.bk σ H
  ct : ∀ O H σ Γ, P.ct Γ → Sg X.K B O H σ Γ → D.ct σ H
  xr : ∀ C Γ, P.xr C Γ → ∃ W : WX, Takes X W ∧ ∀ O H σ, Sg X.K B O H σ Γ → W C none σ H
  rr : ∀ O H σ Γ v, P.rr O H v Γ → Sg X.K B O H σ Γ → D.rt v H
def D1 (X : Cx) (st : Stmt) (Γ : Gm) (P : Po) : Prop := ∀ (B : Bs) (O : Addr → Prop) (H : Hp) (σ : L2.St) (D : Ends), Sg X.K B O H σ Γ → Fits X B P D → wS X st D σ H
def DS (X : Cx) (sts : List Stmt) (Γ : Gm) (P : Po) : Prop := ∀ (B : Bs) (O : Addr → Prop) (H : Hp) (σ : L2.St) (D : Ends), Sg X.K B O H σ Γ → Fits X B P D → wB X sts D σ H
section
variable {X : Cx} {Γ Γ' : Gm} {a b c e tg iter : Expr} {st : Stmt} {rest body : List Stmt} {p p' pos : Pos} {d : PyData} {xs : List PyData} {x : Str} {P : Po}
theorem ds_nil (h : P.nx Γ) : DS X [] Γ P := fun B O H σ D g f => wB_of pss_nil (f.nx O H σ Γ h g)
theorem ds_cons {M : Gm → Prop} (h1 : D1 X st Γ { P with nx := M }) (h2 : ∀ Γ', M Γ' → DS X rest Γ' P) : DS X (st :: rest) Γ P := fun B O H σ D g f =>
  wB_of (pss_cons ps_w pss_w) (h1 B O H σ { D with nx := fun σ' H' => wB X rest D σ' H' } g ⟨fun O' H' σ' Γ' m g' => h2 Γ' m B O' H' σ' D g' f, f.rt, f.bk, f.ct, f.xr, f.rr⟩)
theorem DS.imp {P' : Po} (h : DS X rest Γ P) (hn : ∀ Γ, P.nx Γ → P'.nx Γ) (hr : ∀ d, P.rt d → P'.rt d) (hb : ∀ Γ, P.bk Γ → P'.bk Γ) (hc : ∀ Γ, P.ct Γ → P'.ct Γ) (hx : ∀ C Γ, P.xr C Γ → P'.xr C Γ := by exact fun _ _ h => h) (hR : ∀ O H v Γ, P.rr O H v Γ → P'.rr O H v Γ := by exact fun _ _ _ _ h => h) : DS X rest Γ P' := fun B O H σ D g f =>
  h B O H σ D g ⟨fun O' H' σ' Γ' m g' => f.nx O' H' σ' Γ' (hn _ m) g', fun H' v d m => f.rt H' v d (hr _ m), fun O' H' σ' Γ' m g' => f.bk O' H' σ' Γ' (hb _ m) g', fun O' H' σ' Γ' m g' => f.ct O' H' σ' Γ' (hc _ m) g', fun C Γ m => f.xr C Γ (hx C Γ m), fun O H σ Γ v m g => f.rr O H σ Γ v (hR O H v Γ m) g⟩
theorem ds_weak (Γ' : Gm) (hl : Γ'.length = Γ.length) (h : ∀ (i : Nat) s, Γ'[i]? = some (some s) → Γ[i]? = some (some s)) (k : DS X rest Γ' P) : DS X rest Γ P := fun B O H σ D g f => k B O H σ D (g.weak hl h) f
inductive Wk : Gm → Gm → Prop
  | nil : Wk [] []
  | drop {x : Option SD} {g h : Gm} : Wk g h → Wk (none :: g) (x :: h)
  | keep {x : Option SD} {g h : Gm} : Wk g h → Wk (x :: g) (x :: h)
theorem Wk.len : ∀ {g h : Gm}, Wk g h → g.length = h.length
  | _, _, .nil => rfl
  | _, _, .drop w => by rw [List.length_cons, List.length_cons, w.len]
  | _, _, .keep w => by rw [List.length_cons, List.length_cons, w.len]
theorem Wk.get : ∀ {g h : Gm}, Wk g h → ∀ (i : Nat) s, g[i]? = some (some s) → h[i]? = some (some s)
  | _, _, .nil, _, _, e => e
  | _, _, .drop w, 0, _, e => by cases e
  | _, _, .drop w, i + 1, s, e => Wk.get w i s e
  | _, _, .keep w, 0, _, e => e
  | _, _, .keep w, i + 1, s, e => Wk.get w i s e
theorem ds_wk {Γ' : Gm} (w : Wk Γ' Γ) (k : DS X rest Γ' P) : DS X rest Γ P := ds_weak Γ' w.len w.get k
/-- x = e -/
theorem ds_set (i : Nat) (hN : X.N.Nodup) (he : DE X e Γ d) (k : DS X rest (Γ.set i (some (.d d))) P) (hi : X.N[i]? = some x := by rfl) (hx : Loc X.env.scope x := by first | exact Or.inl rfl | exact Or.inr rfl)
    (hs : swapsWith e (some (.Name x p')) pos.line X.env = pure false := by rfl) (hf : X.fn x = true ∨ X.env.scope.names.lookup x = some .local := by first | exact .inl rfl | exact .inr rfl) : DS X (.Assign [.Name x p'] e pos :: rest) Γ P := fun B O H σ D g f =>
  wB_of (pss_cons (ps_set hN hi hx pe_w hs hf) pss_w) (he B O H σ _ g fun v H2 s2 d2 => k B O H2 _ D ((g.step s2).setD d2) f)
/-- x = a new list -/
theorem ds_own (i : Nat) (hN : X.N.Nodup) (he : DL X e Γ xs) (k : DS X rest (Γ.set i (some (.own xs))) P) (hi : X.N[i]? = some x := by rfl) (hx : Loc X.env.scope x := by first | exact Or.inl rfl | exact Or.inr rfl)
    (hs : swapsWith e (some (.Name x p')) pos.line X.env = pure false := by rfl) (hf : X.fn x = true ∨ X.env.scope.names.lookup x = some .local := by first | exact .inl rfl | exact .inr rfl) : DS X (.Assign [.Name x p'] e pos :: rest) Γ P := fun B O H σ D g f =>
  wB_of (pss_cons (ps_set hN hi hx pe_w hs hf) pss_w) (he B O H σ _ g fun q vs H2 hq s2 h2 a2 => k B _ H2 _ D (g.setOwn hq s2 h2 a2) f)
/-- x = [.. for ..] on one line -/
theorem ds_ownLc (i : Nat) {elt : Expr} {ifs : List Expr} {scope : Scope} {py spos : Pos} (he : Comp X elt tg iter ifs scope Γ xs) (k : DS X rest (Γ.set i (some (.own xs))) P) (hi : X.N[i]? = some x := by rfl) (hyl : X.env.scope.names.lookup x = some .local := by rfl)
    (hsw : swapsWith (.ListComp elt [⟨tg, iter, ifs, 0⟩] scope pos) (some (.Name x py)) spos.line X.env = pure true := by exact sw_true rfl rfl rfl (by decide +kernel)) : DS X (.Assign [.Name x py] (.ListComp elt [⟨tg, iter, ifs, 0⟩] scope pos) spos :: rest) Γ P := fun B O H σ D g f => by
  obtain ⟨own, wi, gt, tt, te, h1, h2, h3, h4, h5, h6, h7, h8, h9⟩ := he.ex
  exact wB_of (pss_cons (ps_setLc h1 h2 hi hyl hsw h3 h4 h5 h6 h7 h8) pss_w) (h9 B O H σ (fun v H1 => gName i v σ H1 (fun σ' H' => wB X rest D σ' H')) g fun q vs H2 hq s2 l2 a2 => k B _ H2 _ D (g.setOwn hq s2 l2 a2) f)
theorem ds_setLc (i : Nat) {elt : Expr} {ifs : List Expr} {scope : Scope} {py spos : Pos} (he : Comp X elt tg iter ifs scope Γ xs) (k : DS X rest (Γ.set i (some (.d (.list xs)))) P) (hi : X.N[i]? = some x := by rfl) (hyl : X.env.scope.names.lookup x = some .local := by rfl)
    (hsw : swapsWith (.ListComp elt [⟨tg, iter, ifs, 0⟩] scope pos) (some (.Name x py)) spos.line X.env = pure true := by exact sw_true rfl rfl rfl (by decide +kernel)) : DS X (.Assign [.Name x py] (.ListComp elt [⟨tg, iter, ifs, 0⟩] scope pos) spos :: rest) Γ P := fun B O H σ D g f => by
  obtain ⟨own, wi, gt, tt, te, h1, h2, h3, h4, h5, h6, h7, h8, h9⟩ := he.ex
  refine wB_of (pss_cons (ps_setLc h1 h2 hi hyl hsw h3 h4 h5 h6 h7 h8) pss_w) (h9 B O H σ (fun v H1 => gName i v σ H1 (fun σ' H' => wB X rest D σ' H')) g fun q vs H2 hq s2 l2 a2 => k B O H2 _ D ((g.step s2).setD ?_) f)
  exact .lst (.inl (.inl (hid_iff.mpr ⟨g.fresh hq, l2⟩))) (dpAll_mono hid_grow _ _ a2)
/-- a, b = e -/
theorem ds_tgt {js : List Nat} (he : DE X e Γ d) (hg : DG X tg Γ d Γ' js) (k : DS X rest Γ' P) (hs : swapsWithSole [tg] e pos.line X.env = pure false := by rfl) (hw : swappedStores [tg] e X.env = pure none := by rfl)
    (h1 : (assignEach [tg] X.env).map (·.2) = [assign tg X.env] := by rfl) : DS X (.Assign [tg] e pos :: rest) Γ P := fun B O H σ D g f =>
  wB_of (pss_cons (ps_asg pe_w pg_w hs hw h1) pss_w) (he B O H σ _ g fun v H2 s2 d2 => hg B O H2 σ v _ (g.step s2) d2 fun σ' g' _ => k B O H2 σ' D g' f)
/-- a, b = e1, e2 -/
theorem ds_par (i j : Nat) {y : Str} {px py pt pt2 : Pos} {kt k2 : Nat} {d1 d2 : PyData} (hN : X.N.Nodup) (h : DA X [a, b] Γ [d1, d2]) (k : DS X rest ((Γ.set i (some (.d d1))).set j (some (.d d2))) P)
    (hij : i ≠ j := by decide) (hc : X.calm = true := by rfl) (hi : X.N[i]? = some x := by rfl) (hj : X.N[j]? = some y := by rfl) (hx : X.env.scope.names.lookup x = some .local := by rfl) (hy : X.env.scope.names.lookup y = some .local := by rfl)
    (hw : swappedStores [.Tuple [.Name x px, .Name y py] kt pt] (.Tuple [a, b] k2 pt2) X.env = pure (some [x, y]) := by rfl) : DS X (.Assign [.Tuple [.Name x px, .Name y py] kt pt] (.Tuple [a, b] k2 pt2) pos :: rest) Γ P := fun B O H σ D g f =>
  wB_of (pss_cons (ps_par hc hN hi hj hij hx hy pa_w hw) pss_w) (h B O H σ _ g fun vs H2 s2 q2 => by
    cases q2 with
    | cons q1 q2 =>
      cases q2 with
      | cons q2 q3 =>
        cases q3
        refine ⟨_, _, rfl, ?_⟩
        first
          | exact k B O H2 _ D (((g.step s2).setD q1).setD q2) f
          | (have := k B O H2 _ D (((g.step s2).setD (i := i) q1).setD (i := j) q2) f
             rw [List.set_comm _ _ hij] at this
             exact this))
theorem ds_expr (he : DE X e Γ d) (k : DS X rest Γ P) (hs : swapsWith e none pos.line X.env = pure false := by rfl) : DS X (.Expr e pos :: rest) Γ P := fun B O H σ D g f =>
  wB_of (pss_cons (ps_expr pe_w hs) pss_w) (he B O H σ _ g fun v H2 s2 _ => k B O H2 σ D (g.step s2) f)
theorem ds_ret (he : DE X e Γ d) (h : P.rt d) : DS X (.Return (some e) pos :: rest) Γ P := fun B O H σ D g f =>
  wB_of (pss_cons (ps_ret pe_w) pss_w) (he B O H σ _ g fun v H2 s2 d2 => f.rt H2 v d h (g.ext.trans s2) (dp_mono (fun b o q => hid_iff.mpr ⟨fun z => (hid_iff.mp q).1 (g.fs b z).1, (hid_iff.mp q).2⟩) _ _ d2))
/-- return, told of the very state -/
theorem ds_retG (he : DE X e Γ d) (h : ∀ O H v, Dp X.K (hid O H) v d → P.rr O H v Γ) : DS X (.Return (some e) pos :: rest) Γ P := fun B O H σ D g f =>
  wB_of (pss_cons (ps_ret pe_w) pss_w) (he B O H σ _ g fun v H2 s2 d2 => f.rr O H2 σ Γ v (h O H2 v d2) (g.step s2))
/-- return x, x an owned list -/
theorem ds_retOwn (i : Nat) (hi : Γ[i]? = some (some (.own xs))) (h : DS X (.Return (some e) pos :: rest) (Γ.set i (some (.d (.list xs)))) P) : DS X (.Return (some e) pos :: rest) Γ P := fun B O H σ D g f => by
  obtain ⟨O', g'⟩ := g.share hi
  exact h B O' H σ D g' f
theorem ds_share (i : Nat) (hi : Γ[i]? = some (some (.own xs))) (h : DS X rest (Γ.set i (some (.d (.list xs)))) P) : DS X rest Γ P := fun B O H σ D g f => by
  obtain ⟨O', g'⟩ := g.share hi
  exact h B O' H σ D g' f
/-- y = x, both owned; x is forgotten -/
theorem ds_move (i j : Nat) {y : Str} {py : Pos} (hN : X.N.Nodup) (hi : Γ[i]? = some (some (.own xs))) (k : DS X rest ((Γ.set i none).set j (some (.own xs))) P) (hl : j < Γ.length := by decide) (hNi : X.N[i]? = some y := by rfl) (hv : Vis X.env.scope y := by first | exact Or.inl rfl | exact Or.inr (Or.inl rfl) | exact Or.inr (Or.inr rfl))
    (hd : (y == ("__debug__" : Str)) = false := by decide) (hcd : (y == ("__classdict__" : Str)) = false := by decide) (hj : X.N[j]? = some x := by rfl) (hx : Loc X.env.scope x := by first | exact Or.inl rfl | exact Or.inr rfl)
    (hs : swapsWith (.Name y py) (some (.Name x p')) pos.line X.env = pure false := by rfl) (hf : X.fn x = true ∨ X.env.scope.names.lookup x = some .local := by first | exact .inl rfl | exact .inr rfl) : DS X (.Assign [.Name x p'] (.Name y py) pos :: rest) Γ P := fun B O H σ D g f => by
  obtain ⟨v, h1, h2⟩ := g.slot i _ hi
  exact wB_of (pss_cons (ps_set hN hj hx (pv i hNi hv hd hcd) hs hf) pss_w) ⟨v, h1, k B O H _ D (g.move hi h1 hl) f⟩
/-- if -/
theorem ds_if {M : Gm → Prop} {k : Bool} {t u : List Stmt} (hc : DT X c Γ k) (h1 : k = true → DS X t Γ { P with nx := M }) (h2 : k = false → DS X u Γ { P with nx := M }) (h : ∀ Γ', M Γ' → DS X rest Γ' P) : DS X (.If c t u pos :: rest) Γ P := fun B O H σ D g f =>
  wB_of (pss_cons (ps_if pt_w pss_w pss_w) pss_w) (hc B O H σ _ g fun H2 s2 => by
    have F : Fits X B { P with nx := M } { D with nx := fun σ' H' => wB X rest D σ' H' } := ⟨fun O' H' σ' Γ' m g' => h Γ' m B O' H' σ' D g' f, f.rt, f.bk, f.ct, f.xr, f.rr⟩
    cases k with
    | true => rw [if_pos rfl]; exact h1 rfl B O H2 σ _ (g.step s2) F
    | false => rw [if_neg Bool.false_ne_true]; exact h2 rfl B O H2 σ _ (g.step s2) F)
/-- if c: .. that never goes on; without else -/
theorem ds_when {k : Bool} {t : List Stmt} (hc : DT X c Γ k) (h1 : k = true → DS X t Γ { P with nx := fun _ => False }) (h2 : k = false → DS X rest Γ P) : DS X (.If c t [] pos :: rest) Γ P := fun B O H σ D g f =>
  wB_of (pss_cons (ps_if pt_w pss_w pss_w) pss_w) (hc B O H σ _ g fun H2 s2 => by
    cases k with
    | true => rw [if_pos rfl]; exact h1 rfl B O H2 σ _ (g.step s2) ⟨fun _ _ _ _ m => m.elim, f.rt, f.bk, f.ct, f.xr, f.rr⟩
    | false => rw [if_neg Bool.false_ne_true]; exact wB_of pss_nil (h2 rfl B O H2 σ D (g.step s2) f))
/-- if c: ..; without else: what follows is shown on both ways -/
theorem ds_ifs {k : Bool} {t : List Stmt} (hc : DT X c Γ k) (h1 : k = true → DS X t Γ { P with nx := fun Γ' => DS X rest Γ' P }) (h2 : k = false → DS X rest Γ P) : DS X (.If c t [] pos :: rest) Γ P := fun B O H σ D g f =>
  wB_of (pss_cons (ps_if pt_w pss_w pss_w) pss_w) (hc B O H σ _ g fun H2 s2 => by
    cases k with
    | true => rw [if_pos rfl]; exact h1 rfl B O H2 σ _ (g.step s2) ⟨fun O' H' σ' Γ' m g' => m B O' H' σ' D g' f, f.rt, f.bk, f.ct, f.xr, f.rr⟩
    | false => rw [if_neg Bool.false_ne_true]; exact wB_of pss_nil (h2 rfl B O H2 σ D (g.step s2) f))
/-- while: I by a measure -/
theorem ds_while (I : Nat → Gm → Prop) (m0 : Nat) (h0 : I m0 Γ) (hs : ∀ m Γ', I m Γ' → ∃ k, DT X c Γ' k ∧ (k = true → DS X body Γ' { nx := fun Γ'' => ∃ m', m' < m ∧ I m' Γ'', rt := P.rt, bk := fun Γ'' => DS X rest Γ'' P, ct := fun Γ'' => ∃ m', m' < m ∧ I m' Γ'', xr := P.xr, rr := P.rr }) ∧ (k = false → DS X rest Γ' P))
    (hp : PassesOwn (model X.prog X.w) X.A X.env X.xe := by exact PassesOwn.never) : DS X (.While c body [] pos :: rest) Γ P := fun B O H σ D g f =>
  wB_of (pss_cons (ps_while hp pt_w pss_w) pss_w) (by
    refine ⟨fun m σ' H' => ∃ O' Γ', Sg X.K B O' H' σ' Γ' ∧ I m Γ', ⟨m0, O, Γ, g, h0⟩, fun m σ' H' h => ?_⟩
    obtain ⟨O', Γ', g', i'⟩ := h
    obtain ⟨k, t1, t2, t3⟩ := hs m Γ' i'
    refine t1 B O' H' σ' _ g' fun H2 s2 => ?_
    cases k with
    | true =>
      rw [if_pos rfl]
      exact ⟨fun σ2 H3 => ∃ m', m' < m ∧ ∃ O2 Γ2, Sg X.K B O2 H3 σ2 Γ2 ∧ I m' Γ2, fun σ2 H3 ⟨m', l, O2, Γ2, g2, i2⟩ => ⟨m', l, O2, Γ2, g2, i2⟩,
        t2 rfl B O' H2 σ' _ (g'.step s2) ⟨fun O2 H3 σ2 Γ2 ⟨m', l, i2⟩ g2 => ⟨m', l, O2, Γ2, g2, i2⟩, f.rt, fun O2 H3 σ2 Γ2 h g2 => h B O2 H3 σ2 D g2 f, fun O2 H3 σ2 Γ2 ⟨m', l, i2⟩ g2 => ⟨m', l, O2, Γ2, g2, i2⟩, f.xr, f.rr⟩⟩
    | false =>
      rw [if_neg Bool.false_ne_true]
      exact t3 rfl B O' H2 σ' D (g'.step s2) f)
/-- for: I by the turn -/
theorem ds_for {n : Nat} {it : Nat → PyData} (hi : DIF X tg iter Γ n it) (I : Nat → Gm → Prop) (h0 : I 0 Γ)
    (hs : ∀ i Γ', i < n → I i Γ' → ∃ Γ'' js, DG X tg Γ' (it i) Γ'' js ∧ DS X body Γ'' { nx := I (i + 1), rt := P.rt, bk := fun Γ2 => DS X rest Γ2 P, ct := I (i + 1), xr := P.xr, rr := P.rr }) (hd : ∀ Γ', I n Γ' → DS X rest Γ' P)
    (hp : PassesOwn (model X.prog X.w) X.A X.env X.xe := by exact PassesOwn.never) (hc : X.calm = true := by rfl) (hf : ∀ x, foldedSetIterable iter X.env x = pure x := by intro _; rfl) : DS X (.For tg iter body [] pos :: rest) Γ P := fun B O H σ D g f =>
  wB_of (pss_cons (ps_for hp hc pi_w pg_w pss_w hf) pss_w) (hi B O H σ _ g fun J H1 s1 wk => by
    have g1 := g.step s1
    refine ⟨fun i m σ' H' => m = n - i ∧ i ≤ n ∧ ∃ O' Γ', Sg X.K (reb O H1 σ Γ) O' H' σ' Γ' ∧ I i Γ', ⟨n, by simp, Nat.zero_le _, O, Γ, g1.rebase, h0⟩, ?_⟩
    rintro i m σ' H' ⟨rfl, hin, O', Γ', g', i'⟩
    obtain ⟨w1, w2, w3⟩ := wk H' O' (g1.keeps g') g'.live
    by_cases hlt : i < n
    · refine .inr ⟨w1 i hlt, fun σ2 H2 => i + 1 ≤ n ∧ ∃ O2 Γ2, Sg X.K (reb O H1 σ Γ) O2 H2 σ2 Γ2 ∧ I (i + 1) Γ2, fun σ2 H2 h2 => ⟨n - (i + 1), by omega, rfl, h2⟩, fun x H3 hy => ?_⟩
      obtain ⟨s3, hx⟩ := w3 i hlt x H3 hy
      obtain ⟨Γ2, js, t1, t2⟩ := hs i Γ' hlt i'
      refine t1 _ O' H3 σ' x _ (g'.step s3) hx fun σ2 g2 _ => t2 _ O' H3 σ2 _ g2 ⟨fun O4 H4 σ4 Γ4 i4 g4 => ⟨hlt, O4, Γ4, g4, i4⟩, fun H4 v d hr sm hdp => ?_, fun O4 H4 σ4 Γ4 h4 g4 => h4 B O4 H4 σ4 D (g1.back g4) f, fun O4 H4 σ4 Γ4 i4 g4 => ⟨hlt, O4, Γ4, g4, i4⟩, fun C Γ5 m => let ⟨W, t, q⟩ := f.xr C Γ5 m; ⟨W, t, fun O5 H5 σ5 g5 => q O5 H5 σ5 (g1.back g5)⟩, fun O5 H5 σ5 Γ5 v m g5 => f.rr O5 H5 σ5 Γ5 v m (g1.back g5)⟩
      have sB : Same B.H (hid (Ow σ Γ) H1) := fun b o e => hid_iff.mpr ⟨fun h => (by rw [(g1.ow h).2] at e; cases e), g1.ext b o e⟩
      refine f.rt H4 v d hr (sB.trans sm) (dp_mono (fun b o q => ?_) _ _ hdp)
      refine hid_iff.mpr ⟨fun z => (hid_iff.mp q).1 ⟨(g1.fs b z).1, fun w => ?_⟩, (hid_iff.mp q).2⟩
      obtain ⟨o', e'⟩ := (g1.fs b z).2
      rw [(g1.ow w).2] at e'
      cases e'
    · have e : i = n := by omega
      subst e
      exact .inl ⟨w2, hd Γ' i' B O' H' σ' D (g1.back g') f⟩)
theorem ds_brk (h : P.bk Γ) : DS X (.Break pos :: rest) Γ P := fun B O H σ D g f => wB_of (pss_cons ps_break pss_w) (f.bk O H σ Γ h g)
theorem ds_cont (h : P.ct Γ) : DS X (.Continue pos :: rest) Γ P := fun B O H σ D g f => wB_of (pss_cons ps_continue pss_w) (f.ct O H σ Γ h g)
/-- xs.append(e), xs owned -/
theorem ds_app (i : Nat) {px ap cp : Pos} (hi : Γ[i]? = some (some (.own xs))) (he : DE X e Γ d) (k : DS X rest (Γ.set i (some (.own (xs ++ [d])))) P) (hz : xs.length < 100000) (hN : X.N[i]? = some x := by rfl) (hv : Vis X.env.scope x := by first | exact Or.inl rfl | exact Or.inr (Or.inl rfl) | exact Or.inr (Or.inr rfl))
    (hd : (x == ("__debug__" : Str)) = false := by decide) (hcd : (x == ("__classdict__" : Str)) = false := by decide) (hbase : attributeBase (.Name x px) "append" X.env (eval (.Name x px) X.env) = eval (.Name x px) X.env := by rfl)
    (hfew : ((backTo cp (starEach [e] X.env)).all (fun x => !x.1) && (backToKw cp (keywordEach [] X.env)).all (fun x => x.1.isSome) && decide ([e].length + ([] : List Keyword).length + (if ([] : List Keyword).isEmpty then 0 else 1) < 30)) = true := by rfl)
    (hline : (ap.endLine == cp.line) = true := by rfl) (hs : starEach [e] X.env = (false, eval e X.env) :: starEach [] X.env := by rfl) : DS X (.Expr (.Call (.Attribute (.Name x px) "append" ap) [e] [] cp) pos :: rest) Γ P := fun B O H σ D g f => by
  obtain ⟨v, h1, q, vs, rfl, r2, r0, r3, r4⟩ := g.slot i _ hi
  refine wB_of (pss_cons (ps_expr (pe_bm PySem.F.plainAttrs_list PySem.F.slot_list_append PySem.F.type_list_append mt_append (pv i hN hv hd hcd) (pa_cons pe_w pa_nil hs) hbase hfew hline hs rfl)) pss_w) ⟨_, h1, .inl ⟨rfl, _, SqL.of r3⟩, ?_⟩
  refine he B O H σ _ g fun u H2 s2 d2 => ⟨q, vs, u, rfl, rfl, s2 _ _ r3, ?_, ?_⟩
  · rw [dpAll_len r4]
    exact Nat.lt_of_lt_of_le hz (by decide)
  · exact k B O _ σ D ((g.step s2).mutOwn hi h1 (dpAll_app (dpAll_mono (hid_mono s2) _ _ r4) (.cons d2 .nil))) f
/-- xs[b] = e, xs owned -/
theorem ds_seti (i : Nat) {px sp : Pos} {z : Int} {j : Nat} (hi : Γ[i]? = some (some (.own xs))) (he : DE X e Γ d) (hb : DE X b Γ (.int z)) (k : DS X rest (Γ.set i (some (.own (xs.set j d)))) P) (hj : ixN xs.length z = some j) (hN : X.N[i]? = some x := by rfl) (hv : Vis X.env.scope x := by first | exact Or.inl rfl | exact Or.inr (Or.inl rfl) | exact Or.inr (Or.inr rfl))
    (hd : (x == ("__debug__" : Str)) = false := by decide) (hcd : (x == ("__classdict__" : Str)) = false := by decide) (hs : swapsWithSole [.Subscript (.Name x px) b sp] e pos.line X.env = pure false := by rfl) (hw : swappedStores [.Subscript (.Name x px) b sp] e X.env = pure none := by rfl)
    (h1 : (assignEach [.Subscript (.Name x px) b sp] X.env).map (·.2) = [assign (.Subscript (.Name x px) b sp) X.env] := by rfl)
    (hsa : ∀ v, assign (.Subscript (.Name x px) b sp) X.env v = (do
      let ov ← holding [v] (eval (.Name x px) X.env)
      let iv ← holding [v, ov] (eval b X.env)
      standAt sp
      holding [v, ov, iv] (setItem ov iv v)
      release [v, ov, iv] []) := by intro _; rfl) : DS X (.Assign [.Subscript (.Name x px) b sp] e pos :: rest) Γ P := fun B O H σ D g f => by
  obtain ⟨v, h1', q, vs, rfl, r2, r0, r3, r4⟩ := g.slot i _ hi
  refine wB_of (pss_cons (ps_asg pe_w (pg_sub (pv i hN hv hd hcd) pe_w set_list hsa) hs hw h1) pss_w) (he B O H σ _ g fun u H2 s2 d2 => ⟨_, h1', hb B O H2 σ _ (g.step s2) fun y H3 s3 d3 => ?_⟩)
  cases d3
  refine ⟨q, vs, z, j, rfl, rfl, s3 _ _ (s2 _ _ r3), by rw [dpAll_len r4]; exact hj, ?_⟩
  exact k B O _ σ D ((g.step (s2.trans s3)).mutOwn hi h1' (dpAll_set (dp_mono (hid_mono s3) _ _ d2) j (dpAll_mono (hid_mono (s2.trans s3)) _ _ r4))) f
/-- y = xs.pop(), xs owned -/
theorem ds_pop (i l : Nat) {y : Str} {px ap cp : Pos} (hND : X.N.Nodup) (hi : Γ[i]? = some (some (.own (xs ++ [d])))) (k : DS X rest ((Γ.set i (some (.own xs))).set l (some (.d d))) P) (hN : X.N[i]? = some x := by rfl) (hv : Vis X.env.scope x := by first | exact Or.inl rfl | exact Or.inr (Or.inl rfl) | exact Or.inr (Or.inr rfl))
    (hd : (x == ("__debug__" : Str)) = false := by decide) (hcd : (x == ("__classdict__" : Str)) = false := by decide) (hbase : attributeBase (.Name x px) "pop" X.env (eval (.Name x px) X.env) = eval (.Name x px) X.env := by rfl)
    (hline : (ap.endLine == cp.line) = true := by rfl) (hl : X.N[l]? = some y := by rfl) (hy : Loc X.env.scope y := by first | exact Or.inl rfl | exact Or.inr rfl)
    (hs : swapsWith (.Call (.Attribute (.Name x px) "pop" ap) [] [] cp) (some (.Name y p')) pos.line X.env = pure false := by rfl) (hf : X.fn y = true ∨ X.env.scope.names.lookup y = some .local := by first | exact .inl rfl | exact .inr rfl) :
    DS X (.Assign [.Name y p'] (.Call (.Attribute (.Name x px) "pop" ap) [] [] cp) pos :: rest) Γ P := fun B O H σ D g f => by
  obtain ⟨v, h1, q, vs, rfl, r2, r0, r3, r4⟩ := g.slot i _ hi
  have hlen := dpAll_len r4
  rw [List.length_append, List.length_singleton] at hlen
  obtain ⟨w, hw1, hw2⟩ := dpAll_get r4 (i := xs.length) (d := d) (by simp)
  have hdl : DpAll X.K (hid O H) vs.dropLast xs := by
    have t := dpAll_take xs.length r4
    rw [List.take_left] at t
    rw [List.dropLast_eq_take, hlen]
    exact t
  refine wB_of (pss_cons (ps_set hND hl hy (pe_bm0 PySem.F.plainAttrs_list PySem.F.slot_list_pop PySem.F.type_list_pop mt_pop (pv i hN hv hd hcd) hbase hline) hs hf) pss_w) ⟨_, h1, .inl ⟨rfl, _, SqL.of r3⟩, q, vs, w, rfl, rfl, r3, by rw [hlen]; exact hw1, ?_⟩
  have g2 := g.mutOwn hi h1 hdl
  have hO := (g.ow (.inl ⟨i, _, hi, h1⟩)).1
  have hh : hid O (upd H q (.lst vs.dropLast)) = hid O H := by
    funext a
    unfold hid
    by_cases h : O a
    · rw [if_pos h, if_pos h]
    · rw [if_neg h, if_neg h, upd_ne (fun z : a = q => h (z.symm ▸ hO))]
  exact k B O _ _ D (g2.setD (by rw [hh]; exact hw2)) f
end
/-! ### a def -/
def envOf (N : List Str) (ds : List PyData) : Gm := ds.map (fun d => some (SD.d d)) ++ List.replicate (N.length - ds.length) none
theorem envOf_sg {K : PySem.W.Frag} {O : Addr → Prop} {H : Hp} {N : List Str} {vs : List V} {ds : List PyData} (lv : Live O H) (h : DpAll K (hid O H) vs ds) : Sg K ⟨O, H⟩ O H (L2.start N vs) (envOf N ds) := by
  have hl := dpAll_len h
  refine Sg.entry lv ?_ fun i s e => ?_
  · unfold L2.start envOf
    simp [hl]
  · unfold envOf at e
    unfold L2.start
    by_cases hi : i < ds.length
    · rw [List.getElem?_append_left (by simpa using hi), List.getElem?_map, List.getElem?_eq_getElem hi] at e
      have e' := Option.some.inj e
      cases e'
      obtain ⟨v, h1, h2⟩ := dpAll_get h (List.getElem?_eq_getElem hi)
      refine ⟨v, _, ?_, rfl, h2⟩
      rw [List.getElem?_append_left (by simpa [hl] using hi), List.getElem?_map, h1]
      rfl
    · rw [List.getElem?_append_right (by simpa using hi)] at e
      have := List.getElem?_replicate (a := (none : Option SD)) (n := N.length - ds.length) (i := i - (ds.map (fun d => some (SD.d d))).length)
      rw [this] at e
      split at e
      · cases e
      · cases e
section
variable {P : Program} {w : World} {K : PySem.W.Frag} {mg : Str → Option Value} {base : Heap}
theorem fn_of {x : Str} {st : Stmt} {f : Addr} {fd : FuncData} {N ps : List Str} {k : Nat} {R : List PyData → PyData → Prop} (F : Fun K x x st f fd) (S : FnScope N ps (defScope st)) (len : ∀ ds d, R ds d → ds.length = ps.length)
    (body : ∀ (X : Cx) (cdv : Value) (A : Around) (outer : List Env) (s : Shared) (H : Hp) (E : XK), X = (cxOf CX0 P w K mg base N x (defScope st) f cdv A outer s H E).nox → Room k X.A → ∀ ds d, R ds d → DS X (defBody st) (envOf N ds) { nx := fun _ => d = .none, rt := fun d' => d' = d }) : FnOk P w K mg base CX0 (k + 1) f fd ps (spD K R) := by
  refine F.ok S (fun vs H Q E h => ?_) (fun cdv A outer s H vs Q E hr h => ?_)
  · obtain ⟨O, ds, d, _, h1, h2, _⟩ := h
    rw [dpAll_len h1, len ds d h2]
  · obtain ⟨O, ds, d, lv, h1, h2, q⟩ := h
    refine ⟨_, pss_w, body _ cdv A outer s H E rfl hr ds d h2 ⟨O, H⟩ O H _ _ (envOf_sg lv h1) ⟨fun O' H' σ' Γ' e g' => ?_, fun H' v d' e sm hd => ?_, fun _ _ _ _ m => m.elim, fun _ _ _ _ m => m.elim, fun _ _ m => m.elim, fun _ _ _ _ _ m => m.elim⟩⟩
    · subst e
      exact q _ H' g'.ext .non
    · subst e
      exact q v H' sm hd
theorem Has.mk' {x : Str} {st : Stmt} {f : Addr} {fd : FuncData} {ps : List Str} {k : Nat} {sp : Sp} (h : FnOk P w K mg base CX0 k f fd ps sp) (F : Fun K x x st f fd) (hm : mg x = some (.ref f)) (hb : Binds K fd ps []) : Has P w K mg base k x ps sp := ⟨f, fd, h, hm, F.kp, hb⟩
/-- the law's promise at its call -/
theorem sp_law {K : PySem.W.Frag} {R : List PyData → PyData → Prop} {H : Hp} {a : Addr} {ns : List Int} {E : XK} (hS : SqL K H a (ns.map V.int)) (hR : R [.list (ns.map .int)] (.bool true)) : spD K R [.ref a] H (fun v _ => v = .bl true) E := by
  refine ⟨fun _ => False, _, _, fun _ h => h.elim, .cons (.lst (Same.seq (fun b o e => hid_iff.mpr ⟨fun z => z, e⟩) hS) (ints_dpAll ns)) .nil, hR, fun v H2 _ hd => ?_⟩
  cases hd
  rfl
end
end EY
set_option autoImplicit false
set_option maxHeartbeats 1000000
namespace EY
open PySem L2
/-! ### rows of ints -/
abbrev tupI (ns : List Int) : PyData := .tuple (ns.map .int)
abbrev lstI (ns : List Int) : PyData := .list (ns.map .int)
theorem canLay_ints : ∀ ns : List Int, PyData.canLayAll0 (ns.map .int) = true
  | [] => by simp [PyData.canLayAll0]
  | n :: ns => by simp [PyData.canLayAll0, PyData.canLay0, canLay_ints ns]
theorem depth_ints : ∀ ns : List Int, PyData.depthAll (ns.map .int) ≤ 1
  | [] => by simp [PyData.depthAll]
  | n :: ns => by
    have := depth_ints ns
    simp [PyData.depthAll, PyData.depth]
    omega
theorem shaped_tupI (ns : List Int) : SeqAt.shaped (tupI ns) = true := by
  have h1 := canLay_ints ns
  have h2 := depth_ints ns
  simp [SeqAt.shaped, PyData.canLay0, PyData.depth, h1]
  omega
theorem shaped_lstI (ns : List Int) : SeqAt.shaped (lstI ns) = true := by
  have h1 := canLay_ints ns
  have h2 := depth_ints ns
  simp [SeqAt.shaped, PyData.canLay0, PyData.depth, h1]
  omega
theorem eqvAll_ints : ∀ ns ms : List Int, PyData.eqvAll (ns.map .int) (ms.map .int) = decide (ns = ms)
  | [], [] => by simp [PyData.eqvAll]
  | [], _ :: _ => by simp [PyData.eqvAll]
  | _ :: _, [] => by simp [PyData.eqvAll]
  | n :: ns, m :: ms => by
    have := eqvAll_ints ns ms
    simp [PyData.eqvAll, PyData.eqv, this]
    by_cases h : n = m <;> simp [h]
theorem eqv_tupI (ns ms : List Int) : PyData.eqv (tupI ns) (tupI ms) = decide (ns = ms) := by
  rw [PyData.eqv]
  exact eqvAll_ints ns ms
theorem eqv_lstI (ns ms : List Int) : PyData.eqv (lstI ns) (lstI ms) = decide (ns = ms) := by
  rw [PyData.eqv]
  exact eqvAll_ints ns ms
theorem atI_map {α β : Type} (f : α → β) (xs : List α) (i : Int) : atI (xs.map f) i = (atI xs i).map f := by
  unfold atI
  rw [List.length_map]
  cases ixN xs.length i with
  | none => rfl
  | some j => simp
theorem getD_ints {ns : List Int} {i : Nat} (h : i < ns.length) : (ns.map PyData.int).getD i .none = .int (ns.getD i 0) := by
  rw [List.getD_eq_getElem?_getD, List.getD_eq_getElem?_getD, List.getElem?_map, List.getElem?_eq_getElem h]
  rfl
section
variable {X : Cx} {Γ : Gm} {a b c e tg iter elt : Expr} {es ifs : List Expr} {scope : Scope} {p pos : Pos} {d d1 d2 : PyData} {xs ys : List PyData} {i j : Int} {x : Str} {ns ms : List Int} {k : Nat}
theorem DIF.is {n : Nat} {it it' : Nat → PyData} (h : DIF X tg iter Γ n it) (q : ∀ i, i < n → it i = it' i) : DIF X tg iter Γ n it' := fun B O H σ R g r => h B O H σ R g fun J H2 s w => r J H2 s fun H3 O3 s3 lv => by
  obtain ⟨w1, w2, w3⟩ := w H3 O3 s3 lv
  refine ⟨w1, w2, fun i hi x H4 y => ?_⟩
  rw [← q i hi]
  exact w3 i hi x H4 y
theorem DIC.is {n : Nat} {it it' : Nat → PyData} (h : DIC X tg iter Γ n it) (q : ∀ i, i < n → it i = it' i) : DIC X tg iter Γ n it' := fun B O H σ R g r => h B O H σ R g fun J H2 s w => r J H2 s fun H3 O3 s3 o3 lv => by
  obtain ⟨w1, w2, w3⟩ := w H3 O3 s3 o3 lv
  refine ⟨w1, w2, fun i hi x H4 y => ?_⟩
  rw [← q i hi]
  exact w3 i hi x H4 y
theorem DIF.len {n m : Nat} {it : Nat → PyData} (h : DIF X tg iter Γ n it) (q : n = m) : DIF X tg iter Γ m it := q ▸ h
theorem DIC.len {n m : Nat} {it : Nat → PyData} (h : DIC X tg iter Γ n it) (q : n = m) : DIC X tg iter Γ m it := q ▸ h
theorem de_ixI {z : Int} (ha : DE X a Γ (tupI ns)) (hb : DE X b Γ (.int i)) (h : atI ns i = some z) (hs : PlainIx b := by intro _ _; rfl) : DE X (.Subscript a b pos) Γ (.int z) := de_ixT ha hb (by rw [atI_map, h]; rfl) hs
theorem de_ixLI {z : Int} (ha : DR X a Γ (ns.map .int)) (hb : DE X b Γ (.int i)) (h : atI ns i = some z) (hs : PlainIx b := by intro _ _; rfl) : DE X (.Subscript a b pos) Γ (.int z) := de_ixL ha hb (by rw [atI_map, h]; rfl) hs
theorem de_lenI (hm : X.mg "len" = none) (h : DE X e Γ (tupI ns)) (hg : Gl X "len" := by rfl) (he : starEach [e] X.env = (false, eval e X.env) :: starEach [] X.env := by rfl) : DE X (.Call (.Name "len" p) [e] [] pos) Γ (.int ns.length) := (de_lenT hm h hg he).is (by rw [List.length_map])
theorem de_lenLI (hm : X.mg "len" = none) (h : DR X e Γ (ns.map .int)) (hg : Gl X "len" := by rfl) (he : starEach [e] X.env = (false, eval e X.env) :: starEach [] X.env := by rfl) : DE X (.Call (.Name "len" p) [e] [] pos) Γ (.int ns.length) := (de_lenL hm h hg he).is (by rw [List.length_map])
theorem de_slI {lo hi : Option Expr} {l h : Option Int} {p2 : Pos} (ha : DE X a Γ (tupI ns)) (hl : DO X lo Γ l) (hh : DO X hi Γ h) : DE X (.Subscript a (.Slice lo hi none p2) pos) Γ (tupI (cut ns l h)) := (de_slT ha hl hh).is (by rw [cut_map])
theorem dl_slLI {lo hi : Option Expr} {l h : Option Int} {p2 : Pos} (ha : DR X a Γ (ns.map .int)) (hl : DO X lo Γ l) (hh : DO X hi Γ h) : DL X (.Subscript a (.Slice lo hi none p2) pos) Γ ((cut ns l h).map .int) := (dl_slL ha hl hh).is (by rw [cut_map])
theorem de_catI (ha : DE X a Γ (tupI ns)) (hb : DE X b Γ (tupI ms)) (hl : ns.length + ms.length ≤ 1000) : DE X (.BinOp a .Add b pos) Γ (tupI (ns ++ ms)) := (de_catT ha hb (by rw [List.length_map, List.length_map]; exact hl)).is (by rw [← List.map_append])
theorem dl_catI (ha : DB X a Γ (ns.map .int)) (hb : DB X b Γ (ms.map .int)) (hl : ns.length + ms.length ≤ 1000) : DL X (.BinOp a .Add b pos) Γ ((ns ++ ms).map .int) := (dl_cat ha hb (by rw [List.length_map, List.length_map]; omega)).is (by rw [← List.map_append])
theorem de_tupLI (hm : X.mg "tuple" = none) (h : DR X e Γ (ns.map .int)) (hg : Gl X "tuple" := by rfl) (he : starEach [e] X.env = (false, eval e X.env) :: starEach [] X.env := by rfl) : DE X (.Call (.Name "tuple" p) [e] [] pos) Γ (tupI ns) := de_tupleL hm h hg he
theorem ce_eqI (hr : Room k X.A) (ha : DE X a Γ (tupI ns)) (hb : DE X b Γ (tupI ms)) : CE X a .Eq b Γ (decide (ns = ms)) := (ce_eqD hr ha hb (shaped_tupI ns) (shaped_tupI ms)).is (eqv_tupI ns ms)
theorem ce_neI (hr : Room k X.A) (ha : DE X a Γ (tupI ns)) (hb : DE X b Γ (tupI ms)) : CE X a .NotEq b Γ (!decide (ns = ms)) := (ce_neD hr ha hb (shaped_tupI ns) (shaped_tupI ms)).is (by rw [eqv_tupI])
theorem ce_eqLI (hr : Room k X.A) (ha : DR X a Γ (ns.map .int)) (hb : DR X b Γ (ms.map .int)) : CE X a .Eq b Γ (decide (ns = ms)) := (ce_eqL hr ha hb (shaped_lstI ns) (shaped_lstI ms)).is (eqv_lstI ns ms)
theorem ce_neLI (hr : Room k X.A) (ha : DR X a Γ (ns.map .int)) (hb : DR X b Γ (ms.map .int)) : CE X a .NotEq b Γ (!decide (ns = ms)) := (ce_neL hr ha hb (shaped_lstI ns) (shaped_lstI ms)).is (by rw [eqv_lstI])
theorem dif_tupI (h : DE X e Γ (tupI ns)) : DIF X tg e Γ ns.length (fun i => .int (ns.getD i 0)) := ((dif_tup h).len (by rw [List.length_map])).is fun i hi => getD_ints hi
theorem dic_listI (h : DR X e Γ (ns.map .int)) : DIC X tg e Γ ns.length (fun i => .int (ns.getD i 0)) := ((dic_list h).len (by rw [List.length_map])).is fun i hi => getD_ints hi
theorem dif_listI (h : DE X e Γ (lstI ns)) : DIF X tg e Γ ns.length (fun i => .int (ns.getD i 0)) := ((dif_list h).len (by rw [List.length_map])).is fun i hi => getD_ints hi
theorem dif_enumI {tpos : Pos} {kk : Nat} (hm : X.mg "enumerate" = none) (ha : DE X a Γ (tupI ns)) (hg : Gl X "enumerate" := by rfl) (he : starEach [a] X.env = (false, eval a X.env) :: starEach [] X.env := by rfl) :
    DIF X (.Tuple es kk tpos) (.Call (.Name "enumerate" p) [a] [] pos) Γ ns.length (fun i => .tuple [.int i, .int (ns.getD i 0)]) := ((dif_enumT hm ha hg he).len (by rw [List.length_map])).is fun i hi => by rw [getD_ints hi]
theorem dic_enumLI {tpos : Pos} {kk : Nat} (hm : X.mg "enumerate" = none) (ha : DR X a Γ (ns.map .int)) (hg : Gl X "enumerate" := by rfl) (he : starEach [a] X.env = (false, eval a X.env) :: starEach [] X.env := by rfl) :
    DIC X (.Tuple es kk tpos) (.Call (.Name "enumerate" p) [a] [] pos) Γ ns.length (fun i => .tuple [.int i, .int (ns.getD i 0)]) := ((dic_enumL hm ha hg he).len (by rw [List.length_map])).is fun i hi => by rw [getD_ints hi]
theorem dif_zipI {tpos : Pos} {kk : Nat} (hm : X.mg "zip" = none) (ha : DE X a Γ (tupI ns)) (hb : DE X b Γ (tupI ms)) (hg : Gl X "zip" := by rfl) (he : starEach [a, b] X.env = (false, eval a X.env) :: starEach [b] X.env := by rfl) (he2 : starEach [b] X.env = (false, eval b X.env) :: starEach [] X.env := by rfl) (hpl : (backTo pos (starEach [b] X.env)).any (·.1) = false := by rfl) :
    DIF X (.Tuple es kk tpos) (.Call (.Name "zip" p) [a, b] [] pos) Γ (min ns.length ms.length) (fun i => .tuple [.int (ns.getD i 0), .int (ms.getD i 0)]) := ((dif_zipT hm ha hb hg he he2 hpl).len (by rw [List.length_map, List.length_map])).is fun i hi => by
      have h1 : i < ns.length := by omega
      have h2 : i < ms.length := by omega
      rw [getD_ints h1, getD_ints h2]
theorem dic_zipLI {tpos : Pos} {kk : Nat} (hm : X.mg "zip" = none) (ha : DR X a Γ (ns.map .int)) (hb : DR X b Γ (ms.map .int)) (hg : Gl X "zip" := by rfl) (he : starEach [a, b] X.env = (false, eval a X.env) :: starEach [b] X.env := by rfl) (he2 : starEach [b] X.env = (false, eval b X.env) :: starEach [] X.env := by rfl) (hpl : (backTo pos (starEach [b] X.env)).any (·.1) = false := by rfl) :
    DIC X (.Tuple es kk tpos) (.Call (.Name "zip" p) [a, b] [] pos) Γ (min ns.length ms.length) (fun i => .tuple [.int (ns.getD i 0), .int (ms.getD i 0)]) := ((dic_zipL hm ha hb hg he he2 hpl).len (by rw [List.length_map, List.length_map])).is fun i hi => by
      have h1 : i < ns.length := by omega
      have h2 : i < ms.length := by omega
      rw [getD_ints h1, getD_ints h2]
/-- comprehensions of ints: without and with a test -/
theorem comp_I {n : Nat} {f : Nat → Bool} {u : Nat → Int} {own : List (Str × Nat)} (h : Comp X elt tg iter ifs scope Γ (gath n f (fun i => .int (u i)))) : Comp X elt tg iter ifs scope Γ ((((List.range n).filter f).map u).map .int) := h.is (by unfold gath; rw [List.map_map]; rfl)
theorem filter_true {α : Type} (l : List α) : l.filter (fun _ => true) = l := List.filter_eq_self.mpr fun _ _ => rfl
theorem gathI (n : Nat) (u : Nat → Int) : gath n (fun _ => true) (fun i => .int (u i)) = ((List.range n).map u).map .int := by
  unfold gath
  rw [filter_true, List.map_map]
  rfl
theorem gathB (n : Nat) (u : Nat → Bool) : gath n (fun _ => true) (fun i => .bool (u i)) = ((List.range n).map u).map .bool := by
  unfold gath
  rw [filter_true, List.map_map]
  rfl
theorem gathF (n : Nat) (f : Nat → Bool) (u : Nat → Int) : gath n f (fun i => .int (u i)) = (((List.range n).filter f).map u).map .int := by
  unfold gath
  rw [List.map_map]
  rfl
theorem gath_congr {n : Nat} {f g : Nat → Bool} {u v : Nat → PyData} (h : ∀ i, i < n → f i = g i) (h' : ∀ i, i < n → f i = true → u i = v i) : gath n f u = gath n g v := by
  unfold gath
  have e : (List.range n).filter f = (List.range n).filter g := List.filter_congr fun i hi => h i (List.mem_range.mp hi)
  rw [← e]
  exact List.map_congr_left fun i hi => by
    have := List.mem_filter.mp hi
    exact h' i (List.mem_range.mp this.1) this.2
end
end EY
set_option autoImplicit false
set_option maxHeartbeats 1000000
namespace EY
open PySem L2
/-! ### isinstance -/
def tyName : PyData → String
  | .none => "NoneType"
  | .bool _ => "bool"
  | .int _ => "int"
  | .str _ => "str"
  | .list _ => "list"
  | .tuple _ => "tuple"
  | .dict _ => "dict"
def isIntD : PyData → Bool
  | .bool _ => true
  | .int _ => true
  | _ => false
def isBoolD : PyData → Bool
  | .bool _ => true
  | _ => false
def isTupD : PyData → Bool
  | .tuple _ => true
  | _ => false
def isStrD : PyData → Bool
  | .str _ => true
  | _ => false
theorem tyX_of {K : PySem.W.Frag} {H : Hp} {v : V} {d : PyData} (h : Dp K H v d) : TyX K H v (.type (tyName d)) := by
  cases h with
  | non => exact .base .non
  | bl b => exact .base (.bl b)
  | int i => exact .base (.int i)
  | str x => exact .base (.str x)
  | lst hs ha =>
    rcases hs with (h | ⟨o, h⟩) | ⟨o, its, n, h, c, _⟩
    · exact .base (.lst h)
    · exact .base (.frz h)
    · exact .kList h c
  | tup hs ha =>
    rcases hs with (h | ⟨o, h⟩) | ⟨o, its, n, h, c, _⟩
    · exact .base (.tup h)
    · exact .fTuple h
    · exact .kTuple h c
theorem kitB_int : ∀ d : PyData, kitB (tyName d) "int" = some (isIntD d)
  | .none => (by decide +kernel : kitB "NoneType" "int" = some false)
  | .bool _ => (by decide +kernel : kitB "bool" "int" = some true)
  | .int _ => (by decide +kernel : kitB "int" "int" = some true)
  | .str _ => (by decide +kernel : kitB "str" "int" = some false)
  | .list _ => (by decide +kernel : kitB "list" "int" = some false)
  | .tuple _ => (by decide +kernel : kitB "tuple" "int" = some false)
  | .dict _ => (by decide +kernel : kitB "dict" "int" = some false)
theorem kitB_bool : ∀ d : PyData, kitB (tyName d) "bool" = some (isBoolD d)
  | .none => (by decide +kernel : kitB "NoneType" "bool" = some false)
  | .bool _ => (by decide +kernel : kitB "bool" "bool" = some true)
  | .int _ => (by decide +kernel : kitB "int" "bool" = some false)
  | .str _ => (by decide +kernel : kitB "str" "bool" = some false)
  | .list _ => (by decide +kernel : kitB "list" "bool" = some false)
  | .tuple _ => (by decide +kernel : kitB "tuple" "bool" = some false)
  | .dict _ => (by decide +kernel : kitB "dict" "bool" = some false)
theorem kitB_tuple : ∀ d : PyData, kitB (tyName d) "tuple" = some (isTupD d)
  | .none => (by decide +kernel : kitB "NoneType" "tuple" = some false)
  | .bool _ => (by decide +kernel : kitB "bool" "tuple" = some false)
  | .int _ => (by decide +kernel : kitB "int" "tuple" = some false)
  | .str _ => (by decide +kernel : kitB "str" "tuple" = some false)
  | .list _ => (by decide +kernel : kitB "list" "tuple" = some false)
  | .tuple _ => (by decide +kernel : kitB "tuple" "tuple" = some true)
  | .dict _ => (by decide +kernel : kitB "dict" "tuple" = some false)
theorem kitB_str : ∀ d : PyData, kitB (tyName d) "str" = some (isStrD d)
  | .none => (by decide +kernel : kitB "NoneType" "str" = some false)
  | .bool _ => (by decide +kernel : kitB "bool" "str" = some false)
  | .int _ => (by decide +kernel : kitB "int" "str" = some false)
  | .str _ => (by decide +kernel : kitB "str" "str" = some true)
  | .list _ => (by decide +kernel : kitB "list" "str" = some false)
  | .tuple _ => (by decide +kernel : kitB "tuple" "str" = some false)
  | .dict _ => (by decide +kernel : kitB "dict" "str" = some false)
theorem boot_bool : bootBuiltins "bool" = some (.type "bool") := by decide +kernel
section
variable {X : Cx} {Γ : Gm} {a b c e : Expr} {es : List Expr} {p p2 pos : Pos} {d : PyData} {x : Str} {ns : List Int} {i : Int}
theorem de_isi {T : String} {k : Bool} (hm : X.mg "isinstance" = none) (hx : X.mg x = none) (hb : bootBuiltins x = some (.type T)) (hk : kitB (tyName d) T = some k) (h : DE X e Γ d) (hg2 : Gl X x) (hdx : (x == ("__debug__" : Str)) = false) (hnx : x ≠ "__name__") (hg : Gl X "isinstance")
    (he : starEach [e, .Name x p2] X.env = (false, eval e X.env) :: starEach [.Name x p2] X.env) (he2 : starEach [.Name x p2] X.env = (false, eval (.Name x p2) X.env) :: starEach [] X.env) (hpl : (backTo pos (starEach [.Name x p2] X.env)).any (·.1) = false) : DE X (.Call (.Name "isinstance" p) [e, .Name x p2] [] pos) Γ (.bool k) := fun B O H σ Q g q =>
  wE_of (pe_callB call_isi hg hm PyProof.Rows.boot_isinstance (pa_cons pe_w (pa_cons (pe_bltn (v := .ty T) hg2 hx hb rfl hnx hdx) pa_nil he2) he) (by decide) (by decide) he hpl)
    (h B O H σ _ g fun v H2 s2 d2 => ⟨v, .ty T, .type (tyName d), .type T, k, rfl, .ty T, tyX_of (dp_mono hid_sub _ _ d2), kit_ty hk, q _ H2 s2 (.bl k)⟩)
theorem de_isi_int (hm : X.mg "isinstance" = none) (hx : X.mg "int" = none) (h : DE X e Γ d) (hg2 : Gl X "int" := by rfl) (hg : Gl X "isinstance" := by rfl) (he : starEach [e, .Name "int" p2] X.env = (false, eval e X.env) :: starEach [.Name "int" p2] X.env := by rfl) (he2 : starEach [.Name "int" p2] X.env = (false, eval (.Name "int" p2) X.env) :: starEach [] X.env := by rfl) (hpl : (backTo pos (starEach [.Name "int" p2] X.env)).any (·.1) = false := by rfl) :
    DE X (.Call (.Name "isinstance" p) [e, .Name "int" p2] [] pos) Γ (.bool (isIntD d)) := de_isi hm hx PyProof.Rows.boot_int (kitB_int d) h hg2 (by decide) (by decide) hg he he2 hpl
theorem de_isi_bool (hm : X.mg "isinstance" = none) (hx : X.mg "bool" = none) (h : DE X e Γ d) (hg2 : Gl X "bool" := by rfl) (hg : Gl X "isinstance" := by rfl) (he : starEach [e, .Name "bool" p2] X.env = (false, eval e X.env) :: starEach [.Name "bool" p2] X.env := by rfl) (he2 : starEach [.Name "bool" p2] X.env = (false, eval (.Name "bool" p2) X.env) :: starEach [] X.env := by rfl) (hpl : (backTo pos (starEach [.Name "bool" p2] X.env)).any (·.1) = false := by rfl) :
    DE X (.Call (.Name "isinstance" p) [e, .Name "bool" p2] [] pos) Γ (.bool (isBoolD d)) := de_isi hm hx boot_bool (kitB_bool d) h hg2 (by decide) (by decide) hg he he2 hpl
theorem de_isi_tuple (hm : X.mg "isinstance" = none) (hx : X.mg "tuple" = none) (h : DE X e Γ d) (hg2 : Gl X "tuple" := by rfl) (hg : Gl X "isinstance" := by rfl) (he : starEach [e, .Name "tuple" p2] X.env = (false, eval e X.env) :: starEach [.Name "tuple" p2] X.env := by rfl) (he2 : starEach [.Name "tuple" p2] X.env = (false, eval (.Name "tuple" p2) X.env) :: starEach [] X.env := by rfl) (hpl : (backTo pos (starEach [.Name "tuple" p2] X.env)).any (·.1) = false := by rfl) :
    DE X (.Call (.Name "isinstance" p) [e, .Name "tuple" p2] [] pos) Γ (.bool (isTupD d)) := de_isi hm hx PyProof.Rows.boot_tuple (kitB_tuple d) h hg2 (by decide) (by decide) hg he he2 hpl
theorem de_isi_str (hm : X.mg "isinstance" = none) (hx : X.mg "str" = none) (h : DE X e Γ d) (hg2 : Gl X "str" := by rfl) (hg : Gl X "isinstance" := by rfl) (he : starEach [e, .Name "str" p2] X.env = (false, eval e X.env) :: starEach [.Name "str" p2] X.env := by rfl) (he2 : starEach [.Name "str" p2] X.env = (false, eval (.Name "str" p2) X.env) :: starEach [] X.env := by rfl) (hpl : (backTo pos (starEach [.Name "str" p2] X.env)).any (·.1) = false := by rfl) :
    DE X (.Call (.Name "isinstance" p) [e, .Name "str" p2] [] pos) Γ (.bool (isStrD d)) := de_isi hm hx PyProof.Rows.boot_str (kitB_str d) h hg2 (by decide) (by decide) hg he he2 hpl
/-! ### is True, is not False -/
theorem ce_isB {i j : Bool} (ha : DE X a Γ (.bool i)) (hb : DE X b Γ (.bool j)) : CE X a .Is b Γ (decide (i = j)) := ce_of op_isBl ha hb fun O H x y Q h1 h2 q => by
  cases h1; cases h2; exact ⟨_, _, rfl, rfl, q⟩
theorem ce_notB {i j : Bool} (ha : DE X a Γ (.bool i)) (hb : DE X b Γ (.bool j)) : CE X a .IsNot b Γ (!decide (i = j)) := ce_of op_notBl ha hb fun O H x y Q h1 h2 q => by
  cases h1; cases h2; exact ⟨_, _, rfl, rfl, q⟩
end
/-! ### places -/
theorem atI_back {ns : List Int} {i : Nat} (h : i < ns.length) : atI ns (-1 - (i : Int)) = some (ns.getD (ns.length - 1 - i) 0) := by
  unfold atI ixN
  rw [if_neg (by omega), if_pos (by omega)]
  have e : (-1 - (i : Int) + (ns.length : Int)).toNat = ns.length - 1 - i := by omega
  rw [e]
  show ns[ns.length - 1 - i]? = _
  rw [List.getD_eq_getElem?_getD, List.getElem?_eq_getElem (by omega)]
  rfl
theorem atI_nth {ns : List Int} {i : Int} (h0 : 0 ≤ i) (h : i < ns.length) : atI ns i = some (ns.getD i.toNat 0) := by
  unfold atI ixN
  rw [if_pos h0, if_pos h]
  show ns[i.toNat]? = _
  rw [List.getD_eq_getElem?_getD, List.getElem?_eq_getElem (by omega)]
  rfl
theorem cut_to {α : Type} (xs : List α) {k : Int} (h : 0 ≤ k) : cut xs none (some k) = xs.take k.toNat := by
  obtain ⟨n, rfl⟩ := Int.eq_ofNat_of_zero_le h
  unfold cut
  rw [HT.sIx_none, HT.sIx_nat, List.drop_zero, Nat.sub_zero, Int.toNat_natCast]
  by_cases q : n ≤ xs.length
  · rw [Nat.min_eq_left q]
  · rw [Nat.min_eq_right (by omega), List.take_length, List.take_of_length_le (by omega)]
theorem cut_from {α : Type} (xs : List α) {k : Int} (h : 0 ≤ k) : cut xs (some k) none = xs.drop k.toNat := by
  obtain ⟨n, rfl⟩ := Int.eq_ofNat_of_zero_le h
  unfold cut
  rw [HT.sIx_none, HT.sIx_nat, Int.toNat_natCast]
  by_cases q : n ≤ xs.length
  · rw [Nat.min_eq_left q, List.take_of_length_le (by simp)]
  · rw [Nat.min_eq_right (by omega), List.drop_length, List.drop_of_length_le (by omega)]
    simp
theorem cut_mid {α : Type} (xs : List α) {k m : Int} (h : 0 ≤ k) (h2 : k ≤ m) : cut xs (some k) (some m) = (xs.drop k.toNat).take (m - k).toNat := by
  obtain ⟨n, rfl⟩ := Int.eq_ofNat_of_zero_le h
  obtain ⟨l, rfl⟩ := Int.eq_ofNat_of_zero_le (show 0 ≤ m by omega)
  unfold cut
  rw [HT.sIx_nat, HT.sIx_nat, Int.toNat_natCast]
  have e : ((l : Int) - (n : Int)).toNat = l - n := by omega
  rw [e]
  by_cases q : n ≤ xs.length
  · rw [Nat.min_eq_left q]
    by_cases r : l ≤ xs.length
    · rw [Nat.min_eq_left r]
    · rw [Nat.min_eq_right (by omega), List.take_of_length_le (by simp), List.take_of_length_le (by simp; omega)]
  · rw [Nat.min_eq_right (by omega), Nat.min_eq_right (by omega), List.drop_length, List.drop_of_length_le (by omega)]
    simp
theorem cut_toNeg {α : Type} (xs : List α) : cut xs none (some (-1)) = xs.dropLast := by
  unfold cut
  rw [HT.sIx_none, List.drop_zero, Nat.sub_zero, List.dropLast_eq_take]
  have e : HT.sIx xs.length xs.length (some (-1)) = xs.length - 1 := by
    unfold HT.sIx
    cases xs with
    | nil => rfl
    | cons a l =>
      show (if (-1 : Int) < 0 then ((-1 : Int) + ((a :: l).length : Int)).toNat else _) = _
      rw [if_pos (by decide)]
      omega
  rw [e]
end EY
namespace EY
open PySem L2
theorem canLayAll_mem : ∀ {xs : List PyData}, PyData.canLayAll0 xs = true ↔ ∀ x ∈ xs, x.canLay0 = true
  | [] => by simp [PyData.canLayAll0]
  | a :: xs => by simp [PyData.canLayAll0, canLayAll_mem (xs := xs)]
theorem depthAll_mem : ∀ {xs : List PyData} {n : Nat}, PyData.depthAll xs ≤ n ↔ ∀ x ∈ xs, x.depth ≤ n
  | [], n => by simp [PyData.depthAll]
  | a :: xs, n => by
    have := depthAll_mem (xs := xs) (n := n)
    simp [PyData.depthAll, ← this]
    omega
theorem shaped_tuple {xs : List PyData} : SeqAt.shaped (.tuple xs) = true ↔ ∀ x ∈ xs, x.canLay0 = true ∧ x.depth ≤ 63 := by
  have h1 := canLayAll_mem (xs := xs)
  have h2 := depthAll_mem (xs := xs) (n := 63)
  have e1 : PyData.depth (.tuple xs) = PyData.depthAll xs + 1 := by simp [PyData.depth]
  have e2 : PyData.canLay0 (.tuple xs) = PyData.canLayAll0 xs := by simp [PyData.canLay0]
  unfold SeqAt.shaped
  rw [Bool.and_eq_true, decide_eq_true_iff, e1, e2, h1, show (PyData.depthAll xs + 1 ≤ 64 ↔ PyData.depthAll xs ≤ 63) by omega, h2]
  exact ⟨fun h x hx => ⟨h.1 x hx, h.2 x hx⟩, fun h => ⟨fun x hx => (h x hx).1, fun x hx => (h x hx).2⟩⟩
theorem shaped_list {xs : List PyData} : SeqAt.shaped (.list xs) = true ↔ ∀ x ∈ xs, x.canLay0 = true ∧ x.depth ≤ 63 := by
  have h1 := canLayAll_mem (xs := xs)
  have h2 := depthAll_mem (xs := xs) (n := 63)
  have e1 : PyData.depth (.list xs) = PyData.depthAll xs + 1 := by simp [PyData.depth]
  have e2 : PyData.canLay0 (.list xs) = PyData.canLayAll0 xs := by simp [PyData.canLay0]
  unfold SeqAt.shaped
  rw [Bool.and_eq_true, decide_eq_true_iff, e1, e2, h1, show (PyData.depthAll xs + 1 ≤ 64 ↔ PyData.depthAll xs ≤ 63) by omega, h2]
  exact ⟨fun h x hx => ⟨h.1 x hx, h.2 x hx⟩, fun h => ⟨fun x hx => (h x hx).1, fun x hx => (h x hx).2⟩⟩
theorem shaped_sub {xs ys : List PyData} (h : SeqAt.shaped (.tuple xs) = true) (hs : ∀ y ∈ ys, y ∈ xs) : SeqAt.shaped (.list ys) = true :=
  shaped_list.mpr fun y hy => shaped_tuple.mp h y (hs y hy)
theorem eqv_nil (ys : List PyData) : PyData.eqv (.list ys) (.list []) = ys.isEmpty := by
  rw [PyData.eqv]
  cases ys <;> simp [PyData.eqvAll]
section
variable {X : Cx} {Γ : Gm} {a b c e : Expr} {ys : List PyData} {k : Nat}
theorem ce_eqNil (hr : Room k X.A) (ha : DR X a Γ ys) (hb : DR X b Γ []) (hs : SeqAt.shaped (.list ys) = true) : CE X a .Eq b Γ ys.isEmpty := (ce_eqL hr ha hb hs (by decide +kernel)).is (eqv_nil ys)
theorem gath_mem {n : Nat} {f : Nat → Bool} {v : Nat → PyData} {xs : List PyData} (h : ∀ i, i < n → v i ∈ xs) : ∀ y ∈ gath n f v, y ∈ xs := fun y hy => by
  unfold gath at hy
  obtain ⟨i, hi, rfl⟩ := List.mem_map.mp hy
  exact h i (List.mem_range.mp (List.mem_filter.mp hi).1)
theorem getD_mem {xs : List PyData} {i : Nat} (h : i < xs.length) : xs.getD i .none ∈ xs := by
  rw [List.getD_eq_getElem?_getD, List.getElem?_eq_getElem h]
  exact List.getElem_mem h
theorem gath_empty {f : PyData → Bool} {xs : List PyData} : (gath xs.length (fun i => f (xs.getD i .none)) (fun i => xs.getD i .none)).isEmpty = xs.all fun x => !f x := by
  rw [Bool.eq_iff_iff, List.isEmpty_iff, gath, List.map_eq_nil_iff, List.filter_eq_nil_iff, List.all_eq_true]
  constructor
  · intro h x hx
    obtain ⟨i, hi, rfl⟩ := List.getElem_of_mem hx
    have := h i (List.mem_range.mpr hi)
    rw [List.getD_eq_getElem?_getD, List.getElem?_eq_getElem hi] at this
    simpa using this
  · intro h i hi
    have := h _ (getD_mem (List.mem_range.mp hi))
    simpa using this
end
end EY
set_option autoImplicit false
set_option maxHeartbeats 1000000
namespace EY
open PySem L2
section
variable {X : Cx} {Γ : Gm} {a b c e : Expr} {es : List Expr} {p p2 pos : Pos} {d : PyData} {x : Str} {ns : List Int} {i : Int}
theorem de_repI (ha : DE X a Γ (tupI ns)) (hb : DE X b Γ (.int i)) (h : ns ≠ [] ∧ 2 ≤ i ∧ i ≤ 1000 ∧ ns.length ≤ 1000) : DE X (.BinOp a .Mult b pos) Γ (tupI (List.replicate i.toNat ns).flatten) :=
  de_bin op_repT ha hb fun O H x y Q lv h1 h2 q => by
    cases h1 with
    | tup hs1 ha1 =>
      cases h2
      have hl := dpAll_len ha1
      rw [List.length_map] at hl
      refine ⟨_, _, _, rfl, rfl, Same.seqT hid_sub hs1, fun z => h.1 ?_, h.2.1, h.2.2.1, by omega, fun p' hp => ?_⟩
      · rw [z] at hl
        exact List.eq_nil_of_length_eq_zero hl.symm
      · refine q _ _ (same_upd hp) (.tup (sqT_new (live_not lv hp)) ?_)
        have := dpAll_rep (dpAll_mono (hid_mono (O := O) (same_upd (o := .tup (List.replicate i.toNat ‹List V›).flatten) hp)) _ _ ha1) i.toNat
        rw [List.map_flatten, List.map_replicate]
        exact this
end
end EY
namespace EY
open PySem L2
section
variable {X : Cx} {Γ : Gm} {a b c e : Expr} {es : List Expr} {p p2 pos : Pos} {d : PyData} {x : Str} {ns : List Int} {i : Int}
theorem dl_repI (ha : DB X a Γ (ns.map .int)) (hb : DE X b Γ (.int i)) (h : -100000 ≤ i ∧ ns.length * i.toNat ≤ 100000 ∧ i ≤ 100000) : DL X (.BinOp a .Mult b pos) Γ ((List.replicate i.toNat ns).flatten.map .int) :=
  (dl_rep ha hb h.1 (by rw [List.length_map]; exact h.2.1) h.2.2).is (by rw [List.map_flatten, List.map_replicate])
end
theorem ixN_of {n : Nat} {z : Int} (h0 : 0 ≤ z) (h : z < n) : ixN n z = some z.toNat := by
  unfold ixN
  rw [if_pos h0, if_pos h]
theorem ixN_neg {n : Nat} {z : Int} (h0 : z < 0) (h : -(n : Int) ≤ z) : ixN n z = some (z + n).toNat := by
  unfold ixN
  rw [if_neg (by omega), if_pos h]
theorem atI_range {N : Nat} {f : Nat → Int} {z : Int} (h0 : 0 ≤ z) (h : z < N) : atI ((List.range N).map f) z = some (f z.toNat) := by
  unfold atI
  rw [List.length_map, List.length_range, ixN_of h0 h]
  show ((List.range N).map f)[z.toNat]? = _
  rw [List.getElem?_map, List.getElem?_range (by omega)]
  rfl
theorem rep_flat (k : Nat) (z : Int) : (List.replicate k [z]).flatten = List.replicate k z := by
  induction k with
  | zero => rfl
  | succ k ih => rw [List.replicate_succ, List.flatten_cons, ih, List.replicate_succ]; rfl
theorem rep_range (k : Nat) (f : Nat → Int) (z : Int) (h : ∀ i, i < k → f i = z) : List.replicate k z = (List.range k).map f := by
  apply List.ext_getElem (by simp)
  intro i h1 h2
  simp at h1
  simp [h i h1]
theorem map_set {N k : Nat} {f g : Nat → Int} {v : Int} (hk : g k = v) (h : ∀ i, i < N → i ≠ k → g i = f i) : (((List.range N).map f).map PyData.int).set k (.int v) = ((List.range N).map g).map .int := by
  rw [← List.map_set]
  congr 1
  apply List.ext_getElem (by simp)
  intro i h1 h2
  simp at h1
  rw [List.getElem_set]
  split
  · rename_i q
    subst q
    simp [hk]
  · rename_i q
    simp [h i h1 (fun z => q z.symm)]
end EY
namespace EY
open PySem L2
section
variable {X : Cx} {Γ Γ' : Gm} {a b c e tg iter : Expr} {st : Stmt} {rest body : List Stmt} {p p' pos : Pos} {d : PyData} {xs : List PyData} {x : Str} {P : Po}
theorem Sg.wk {K : PySem.W.Frag} {B : Bs} {O : Addr → Prop} {H : Hp} {σ : L2.St} (g : Sg K B O H σ Γ) (w : Wk Γ' Γ) : Sg K B O H σ Γ' := g.weak w.len w.get
/-- for, by what is known ahead of each turn -/
theorem ds_forG {n : Nat} {it : Nat → PyData} (hi : DIF X tg iter Γ n it) (G : Nat → Gm) (h0 : Wk (G 0) Γ)
    (hs : ∀ i, i < n → ∃ Γ'' js, DG X tg (G i) (it i) Γ'' js ∧ DS X body Γ'' { nx := Wk (G (i + 1)), rt := P.rt, bk := fun Γ2 => DS X rest Γ2 P, ct := Wk (G (i + 1)), xr := P.xr, rr := P.rr }) (hd : DS X rest (G n) P)
    (hp : PassesOwn (model X.prog X.w) X.A X.env X.xe := by exact PassesOwn.never) (hc : X.calm = true := by rfl) (hf : ∀ x, foldedSetIterable iter X.env x = pure x := by intro _; rfl) : DS X (.For tg iter body [] pos :: rest) Γ P := by
  refine ds_for hi (fun i Γ' => Wk (G i) Γ') h0 (fun i Γ' hin w => ?_) (fun Γ' w => ds_wk w hd) hp hc hf
  obtain ⟨Γ'', js, t1, t2⟩ := hs i hin
  exact ⟨Γ'', js, fun B O H σ v Q g hd q => t1 B O H σ v Q (g.wk w) hd q, t2⟩
/-- if, by what is known behind it -/
theorem ds_ifG (G : Gm) {k : Bool} {t u : List Stmt} (hc : DT X c Γ k) (h1 : k = true → DS X t Γ { P with nx := Wk G }) (h2 : k = false → DS X u Γ { P with nx := Wk G }) (h : DS X rest G P) : DS X (.If c t u pos :: rest) Γ P :=
  ds_if hc h1 h2 fun Γ' w => ds_wk w h
/-- while, by what is known ahead of each turn -/
theorem ds_whileG {α : Type} (G : α → Gm) (I : α → Prop) (m : α → Nat) (a0 : α) (h0 : Wk (G a0) Γ) (i0 : I a0)
    (hs : ∀ a, I a → ∃ k, DT X c (G a) k ∧ (k = true → DS X body (G a) { nx := fun Γ'' => ∃ a', m a' < m a ∧ I a' ∧ Wk (G a') Γ'', rt := P.rt, bk := fun Γ'' => DS X rest Γ'' P, ct := fun Γ'' => ∃ a', m a' < m a ∧ I a' ∧ Wk (G a') Γ'', xr := P.xr, rr := P.rr }) ∧ (k = false → DS X rest (G a) P))
    (hp : PassesOwn (model X.prog X.w) X.A X.env X.xe := by exact PassesOwn.never) : DS X (.While c body [] pos :: rest) Γ P := by
  refine ds_while (fun n Γ' => ∃ a, m a = n ∧ I a ∧ Wk (G a) Γ') (m a0) ⟨a0, rfl, i0, h0⟩ (fun n Γ' h => ?_) hp
  obtain ⟨a, rfl, ia, w⟩ := h
  obtain ⟨k, t1, t2, t3⟩ := hs a ia
  refine ⟨k, fun B O H σ Q g q => t1 B O H σ Q (g.wk w) q, fun hk => ?_, fun hk => ds_wk w (t3 hk)⟩
  refine ds_wk w (DS.imp (t2 hk) (fun Γ'' h => ?_) (fun _ h => h) (fun _ h => h) (fun Γ'' h => ?_))
  · obtain ⟨a', l, i', w'⟩ := h
    exact ⟨m a', l, a', rfl, i', w'⟩
  · obtain ⟨a', l, i', w'⟩ := h
    exact ⟨m a', l, a', rfl, i', w'⟩
end
theorem snoc_ints (t : Nat) (f : Nat → Int) : ((List.range (t + 1)).map f).map PyData.int = ((List.range t).map f).map PyData.int ++ [.int (f t)] := by
  rw [List.range_succ, List.map_append, List.map_append]
  rfl
end EY
set_option autoImplicit false
set_option maxHeartbeats 1000000
/-! errors -/
namespace EY
open PySem L2
/-- a def that hands back by R, or raises by XR -/
def spX (K : PySem.W.Frag) (R : List PyData → PyData → Prop) (XR : List PyData → Value → Prop) : Sp := fun vs H Q E => ∃ (O : Addr → Prop) (ds : List PyData), Live O H ∧ DpAll K (hid O H) vs ds ∧
  ((∃ d, R ds d ∧ ∀ v H2, Same H H2 → Dp K (hid O H2) v d → Q v H2) ∨ ∃ C, XR ds C ∧ ∀ H2, Same H H2 → E C none H2)
structure HasX (P : Program) (w : World) (K : PySem.W.Frag) (mg : Str → Option Value) (base : Heap) (k : Nat) (x : Str) (ps : List Str) (sp : Sp) : Prop where
  ex : ∃ f fd, FnOk P w K mg base (L2.CX P w) k f fd ps sp ∧ mg x = some (.ref f) ∧ PySem.W.keepIn K (.ref f) = true ∧ Binds K fd ps []
section
variable {X : Cx} {Γ Γ' : Gm} {a b c e tg iter : Expr} {es : List Expr} {st : Stmt} {rest body : List Stmt} {p p' pos : Pos} {d : PyData} {xs ds : List PyData} {x : Str} {P : Po} {k n : Nat} {ps : List Str} {R : List PyData → PyData → Prop} {XR : List PyData → Value → Prop}
theorem passX0 : Passes (L2.CX X.prog X.w) X E0 := fun _ _ _ _ _ _ _ h => by
  obtain ⟨_, _, _, _, _, _, _, _, _, _, _, _, z⟩ := h
  exact z.elim
/-- a call that hands back -/
theorem de_callX (h : HasX X.prog X.w X.K X.mg X.base k x ps (spX X.K R XR)) (hr : Room n X.A) (ha : DA X (e :: es) Γ ds) (hR : R ds d) (hk : k ≤ n := by decide) (hg : Gl X x := by rfl)
    (hdb : (x == ("__debug__" : Str)) = false := by decide) (he : starEach (e :: es) X.env = (false, eval e X.env) :: starEach es X.env := by rfl) (hpl : (backTo pos (starEach es X.env)).any (·.1) = false := by rfl) :
    DE X (.Call (.Name x p) (e :: es) [] pos) Γ d := fun B O H σ Q g q => by
  obtain ⟨f, fd, F, hm, hkp, hb⟩ := h.ex
  exact wE_of (pe_call F (hr.mono hk) hg hm hkp hb .nil passX0 pa_w hdb he hpl) (ha B O H σ _ g fun vs H2 s2 d2 => ⟨O, ds, (g.step s2).live, by rw [List.append_nil]; exact d2, .inl ⟨d, hR, fun v H3 s3 d3 => q v H3 (s2.trans s3) d3⟩⟩)
/-- a call that raises: what follows is not asked -/
theorem wE_raise {B : Bs} {O : Addr → Prop} {H : Hp} {σ : L2.St} {Q : VK} {W : WX} {C : Value} (h : HasX X.prog X.w X.K X.mg X.base k x ps (spX X.K R XR)) (hr : Room n X.A) (ha : DA X (e :: es) Γ ds) (hX : XR ds C) (g : Sg X.K B O H σ Γ) (tk : Takes X W) (hW : ∀ H', Same H H' → W C none σ H') (hk : k ≤ n) (hg : Gl X x)
    (hdb : (x == ("__debug__" : Str)) = false) (he : starEach (e :: es) X.env = (false, eval e X.env) :: starEach es X.env) (hpl : (backTo pos (starEach es X.env)).any (·.1) = false) : wE X (.Call (.Name x p) (e :: es) [] pos) σ H Q := by
  obtain ⟨f, fd, F, hm, hkp, hb⟩ := h.ex
  exact wE_of (pe_callS F (hr.mono hk) hg hm hkp hb (fun σ => passAt tk σ) pa_w hdb he hpl) (ha B O H σ _ g fun vs H2 s2 d2 => ⟨O, ds, (g.step s2).live, d2, .inr ⟨C, hX, fun H3 s3 => hW H3 (s2.trans s3)⟩⟩)
/-- x = f(..), raised -/
theorem ds_setR (i : Nat) {C : Value} {y : Str} {spos : Pos} (hN : X.N.Nodup) (h : HasX X.prog X.w X.K X.mg X.base k x ps (spX X.K R XR)) (hr : Room n X.A) (ha : DA X (e :: es) Γ ds) (hX : XR ds C) (hP : P.xr C Γ) (hk : k ≤ n := by decide) (hg : Gl X x := by rfl) (hi : X.N[i]? = some y := by rfl) (hx : Loc X.env.scope y := by first | exact Or.inl rfl | exact Or.inr rfl)
    (hf : X.fn y = true ∨ X.env.scope.names.lookup y = some .local := by first | exact .inl rfl | exact .inr rfl)
    (hdb : (x == ("__debug__" : Str)) = false := by decide) (he : starEach (e :: es) X.env = (false, eval e X.env) :: starEach es X.env := by rfl) (hpl : (backTo pos (starEach es X.env)).any (·.1) = false := by rfl) (hs' : swapsWith (.Call (.Name x p) (e :: es) [] pos) (some (.Name y p')) spos.line X.env = pure false := by rfl) :
    DS X (.Assign [.Name y p'] (.Call (.Name x p) (e :: es) [] pos) spos :: rest) Γ P := fun B O H σ D g f => by
  obtain ⟨W, tk, hW⟩ := f.xr C Γ hP
  exact wB_of (pss_cons (ps_set hN hi hx pe_w hs' hf) pss_w) (wE_raise h hr ha hX g tk (fun H' s => hW O H' σ (g.step s)) hk hg hdb he hpl)
/-- f(..) alone, raised -/
theorem ds_exprR {C : Value} {spos : Pos} (h : HasX X.prog X.w X.K X.mg X.base k x ps (spX X.K R XR)) (hr : Room n X.A) (ha : DA X (e :: es) Γ ds) (hX : XR ds C) (hP : P.xr C Γ) (hk : k ≤ n := by decide) (hg : Gl X x := by rfl)
    (hdb : (x == ("__debug__" : Str)) = false := by decide) (he : starEach (e :: es) X.env = (false, eval e X.env) :: starEach es X.env := by rfl) (hpl : (backTo pos (starEach es X.env)).any (·.1) = false := by rfl) (hs : swapsWith (.Call (.Name x p) (e :: es) [] pos) none spos.line X.env = pure false := by rfl) :
    DS X (.Expr (.Call (.Name x p) (e :: es) [] pos) spos :: rest) Γ P := fun B O H σ D g f => by
  obtain ⟨W, tk, hW⟩ := f.xr C Γ hP
  exact wB_of (pss_cons (ps_expr pe_w hs) pss_w) (wE_raise h hr ha hX g tk (fun H' s => hW O H' σ (g.step s)) hk hg hdb he hpl)
/-- return f(..), raised -/
theorem ds_retR {C : Value} {spos : Pos} (h : HasX X.prog X.w X.K X.mg X.base k x ps (spX X.K R XR)) (hr : Room n X.A) (ha : DA X (e :: es) Γ ds) (hX : XR ds C) (hP : P.xr C Γ) (hk : k ≤ n := by decide) (hg : Gl X x := by rfl)
    (hdb : (x == ("__debug__" : Str)) = false := by decide) (he : starEach (e :: es) X.env = (false, eval e X.env) :: starEach es X.env := by rfl) (hpl : (backTo pos (starEach es X.env)).any (·.1) = false := by rfl) :
    DS X (.Return (some (.Call (.Name x p) (e :: es) [] pos)) spos :: rest) Γ P := fun B O H σ D g f => by
  obtain ⟨W, tk, hW⟩ := f.xr C Γ hP
  exact wB_of (pss_cons (ps_ret pe_w) pss_w) (wE_raise h hr ha hX g tk (fun H' s => hW O H' σ (g.step s)) hk hg hdb he hpl)
/-- an own error's class over ValueError, as it stands behind the top -/
structure Err (K : PySem.W.Frag) (mg : Str → Option Value) (x : Str) (C : Addr) (bm : List Value) : Prop where
  g : mg x = some (.ref C)
  q : PySem.W.excIn K C bm "ValueError.__new__" = true
  kp : PySem.W.keepIn K (.ref C) = true
  b : PySem.W.subIn K (.ref C) (.type "BaseException") = some true
  t : PySem.W.typeIn K (.ref C) = some (.type "type")
/-- raise C("..") -/
theorem ds_raise {C : Addr} {m : Str} {j : Nat} {p2 : Pos} {B : String} {newId initId : String} {bm : List Value} (F : PySem.ExcBaseFacts B newId initId bm) (q : PySem.W.excIn X.K C bm newId = true) (gC : X.mg x = some (.ref C)) (kC : PySem.W.keepIn X.K (.ref C) = true) (r : Raises X (.ref C)) (hP : P.xr (.ref C) Γ) (hg : Gl X x := by rfl) (hc : X.calm = true := by rfl) (hdb : (x == ("__debug__" : Str)) = false := by decide) :
    DS X (.Raise (some (.Call (.Name x p) [.Constant (.str m) j p2] [] pos)) none p' :: rest) Γ P := fun B O H σ D g f => by
  obtain ⟨W, tk, hW⟩ := f.xr _ Γ hP
  exact wB_of (pss_cons (ps_raise hc tk (pmk_own F q gC kC r hg hdb)) pss_w) (hW O H σ g)
/-- try: .. except x: .. -/
theorem ds_try {c : Value} {np pos' : Pos} {b₀ : Stmt} {suite : List Stmt} (XB : Value → Gm → Prop) (hc : Names X x c)
    (hb : ∀ (pn : List (Addr × Obj)) (xe : Value → Shared → Prop), PassesOwn (model X.prog X.w) X.A X.env xe → DS (X.tr pn xe) body Γ { nx := fun Γ' => DS X rest Γ' P, rt := P.rt, bk := P.bk, ct := P.ct, xr := XB, rr := P.rr })
    (hm : ∀ C Γ', XB C Γ' → PySem.W.exmOne X.K C c = some true) (hsu : ∀ C Γ', XB C Γ' → ∀ (a : Addr) (oe : Obj) (pn : List (Addr × Obj)), Zc C none oe → (∃ vs, oe.data = .fields vs) → DS (X.suite a ((a, oe) :: pn)) (b₀ :: suite) Γ' { nx := fun Γ' => DS X rest Γ' P, rt := P.rt, bk := P.bk, ct := P.ct, rr := P.rr })
    (hs : X.stack = X.env :: X.outer := by rfl) (hf : X.env.frame = some X.env.locals := by rfl) :
    DS X (.Try body [.ExceptHandler (some (.Name x np)) none (b₀ :: suite) pos'] [] [] pos :: rest) Γ P := fun B O H σ D g f => by
  have hps := ps_try_only (X := X) (x := x) (c := c) (body := body) (suite := suite) (b₀ := b₀) (np := np) (pos := pos) (pos' := pos') (Wout := fun _ _ _ _ => False)
    (tb := fun W D σ H => ∀ (pn : List (Addr × Obj)) (xe : Value → Shared → Prop), Takes (X.tr pn xe) W → PassesOwn (model X.prog X.w) X.A X.env xe → wB (X.tr pn xe) body D σ H)
    (ts := fun a cls d D σ H => ∀ (oe : Obj) (pn : List (Addr × Obj)), Zc cls d oe → (∃ vs, oe.data = .fields vs) → wB (X.suite a ((a, oe) :: pn)) (b₀ :: suite) D σ H) hs hf hc takes0
    (fun W pn xe tk po => ⟨fun pins s σ H D I h => (h pn xe tk po).run pins s I⟩) (fun a oe cls d pn z1 z2 => ⟨fun pins s σ H D I h => (h oe pn z1 z2).run pins s I⟩)
  refine wB_of (pss_cons hps pss_w) ?_
  intro pn xe tk po
  refine hb pn xe po B O H σ _ g ⟨fun O' H' σ' Γ' m g' => m B O' H' σ' D g' f, f.rt, f.bk, f.ct, fun C Γ' m => ⟨_, tk, fun O' H' σ' g' => ?_⟩, f.rr⟩
  refine ⟨true, hm C Γ' m, fun _ a ha => ?_, fun z => nomatch z⟩
  intro oe pn' z1 z2
  exact hsu C Γ' m a oe pn' z1 z2 B O' H' σ' _ g' ⟨fun O2 H2 σ2 Γ2 m2 g2 => m2 B O2 H2 σ2 D g2 f, f.rt, f.bk, f.ct, fun _ _ z => z.elim, f.rr⟩
end
section
variable {P : Program} {w : World} {K : PySem.W.Frag} {mg : Str → Option Value} {base : Heap}
theorem fn_ofX {x : Str} {st : Stmt} {f : Addr} {fd : FuncData} {N ps : List Str} {k : Nat} {R : List PyData → PyData → Prop} {XR : List PyData → Value → Prop} (F : Fun K x x st f fd) (S : FnScope N ps (defScope st)) (len : ∀ ds d, R ds d → ds.length = ps.length) (lenX : ∀ ds C, XR ds C → ds.length = ps.length)
    (body : ∀ (X : Cx) (cdv : Value) (A : Around) (outer : List Env) (s : Shared) (H : Hp) (E : XK), X = cxOf (L2.CX P w) P w K mg base N x (defScope st) f cdv A outer s H E → Room k X.A → ∀ ds, (∀ d, R ds d → DS X (defBody st) (envOf N ds) { nx := fun _ => d = .none, rt := fun d' => d' = d }) ∧ ∀ C, XR ds C → DS X (defBody st) (envOf N ds) { nx := fun _ => False, rt := fun _ => False, xr := fun C' _ => C' = C }) :
    FnOk P w K mg base (L2.CX P w) (k + 1) f fd ps (spX K R XR) := by
  refine F.okX S (fun vs H Q E h => ?_) (fun cdv A outer s H vs Q E hr h => ?_)
  · obtain ⟨O, ds, _, h1, h2⟩ := h
    rcases h2 with ⟨d, h2, _⟩ | ⟨C, h2, _⟩
    · rw [dpAll_len h1, len ds d h2]
    · rw [dpAll_len h1, lenX ds C h2]
  · obtain ⟨O, ds, lv, h1, h2⟩ := h
    obtain ⟨b1, b2⟩ := body _ cdv A outer s H E rfl hr ds
    rcases h2 with ⟨d, h2, q⟩ | ⟨C, h2, q⟩
    · refine ⟨_, pss_w, b1 d h2 ⟨O, H⟩ O H _ _ (envOf_sg lv h1) ⟨fun O' H' σ' Γ' e g' => ?_, fun H' v d' e sm hd => ?_, fun _ _ _ _ m => m.elim, fun _ _ _ _ m => m.elim, fun _ _ m => m.elim, fun _ _ _ _ _ m => m.elim⟩⟩
      · subst e
        exact q _ H' g'.ext .non
      · subst e
        exact q v H' sm hd
    · refine ⟨_, pss_w, b2 C h2 ⟨O, H⟩ O H _ _ (envOf_sg lv h1) ⟨fun _ _ _ _ m => m.elim, fun _ _ _ m => m.elim, fun _ _ _ _ m => m.elim, fun _ _ _ _ m => m.elim, fun C' Γ' e => ⟨_, takes_of rfl rfl rfl rfl, fun O' H' σ' g' => ?_⟩, fun _ _ _ _ _ m => m.elim⟩⟩
      subst e
      exact q H' g'.ext
theorem HasX.mk' {x : Str} {st : Stmt} {f : Addr} {fd : FuncData} {ps : List Str} {k : Nat} {sp : Sp} (h : FnOk P w K mg base (L2.CX P w) k f fd ps sp) (F : Fun K x x st f fd) (hm : mg x = some (.ref f)) (hb : Binds K fd ps []) : HasX P w K mg base k x ps sp := ⟨f, fd, h, hm, F.kp, hb⟩
end
end EY
set_option autoImplicit false
set_option maxHeartbeats 1000000
/-! slices of tuples with a step; list + list of lists to be read; enumerate of a list in for -/
namespace EY
open PySem PySem.Spec PyProof.Rows L2
section
variable {prog : Program} {w : World} {A : Around} {E : Value → Shared → Prop} {s : Shared}
theorem sliceApplied_st {sl : Addr} {vl vu vs : Value} {lo hi : Option Int} {c : Int} {n : Nat} {Q : Int × Int × Nat → Shared → Prop} (hs : s.heap.IsSliceOf sl vl vu vs) (pl : IsPart vl lo) (pu : IsPart vu hi) (ps : IsPart vs (some c)) (hc : c ≠ 0)
    (h : Q ((Builtin.Slice.sliceAdjust lo hi c (n : Int)).1, c, Builtin.Slice.slicePlaces (Builtin.Slice.sliceAdjust lo hi c (n : Int)).1 (Builtin.Slice.sliceAdjust lo hi c (n : Int)).2 c) s) : wpAny (model prog w) A (Builtin.Slice.sliceApplied (.ref sl) (pure (n : Int))) Q E s := by
  obtain ⟨os, hos, hcs, hds⟩ := id hs
  unfold Builtin.Slice.sliceApplied Builtin.Slice.sliceFields
  refine wpAny_bind (wpAny_bind (wpAny_field hos hds (x := vl) rfl (wpAny_bind (wpAny_field hos hds (x := vu) rfl (wpAny_bind (wpAny_field hos hds (x := vs) rfl (wpAny_pure ?_)))))))
  refine wpAny_bind (HT.slicePart_ ps ?_)
  show wpAny _ _ (if (c == 0) = true then _ else _) _ _ s
  rw [if_neg (by simpa using hc)]
  refine wpAny_bind (HT.slicePart_ pl (wpAny_bind (HT.slicePart_ pu (wpAny_bind (wpAny_pure ?_)))))
  exact wpAny_pure h
def stepPick {α : Type} (xs : List α) (lo hi : Option Int) (c : Int) : List α :=
  (List.range (Builtin.Slice.slicePlaces (Builtin.Slice.sliceAdjust lo hi c (xs.length : Int)).1 (Builtin.Slice.sliceAdjust lo hi c (xs.length : Int)).2 c)).filterMap fun (k : Nat) => xs[((Builtin.Slice.sliceAdjust lo hi c (xs.length : Int)).1 + (k : Int) * c).toNat]?
def stepWhole (n : Nat) (lo hi : Option Int) (c : Int) : Bool :=
  (Builtin.Slice.sliceAdjust lo hi c (n : Int)).1 == 0 && c == 1 && Builtin.Slice.slicePlaces (Builtin.Slice.sliceAdjust lo hi c (n : Int)).1 (Builtin.Slice.sliceAdjust lo hi c (n : Int)).2 c == n
theorem stepWhole_eq {α : Type} {xs : List α} {lo hi : Option Int} {c : Int} (h : stepWhole xs.length lo hi c = true) : stepPick xs lo hi c = xs := by
  unfold stepWhole at h
  rw [Bool.and_eq_true, Bool.and_eq_true] at h
  have q1 := eq_of_beq h.1.1
  have q2 := eq_of_beq h.1.2
  have q3 := eq_of_beq h.2
  unfold stepPick
  rw [q3, q1, q2]
  apply List.ext_getElem?
  intro i
  have e : ∀ n, n ≤ xs.length → (List.range n).filterMap (fun (k : Nat) => xs[((0 : Int) + (k : Int) * 1).toNat]?) = xs.take n := by
    intro n
    induction n with
    | zero => intro _; simp
    | succ n ih =>
      intro hn
      rw [List.range_succ, List.filterMap_append, ih (by omega)]
      have e2 : ((0 : Int) + (n : Int) * 1).toNat = n := by omega
      have hlt : n < xs.length := by omega
      simp only [List.filterMap_cons, e2, List.filterMap_nil, List.getElem?_eq_getElem hlt]
      rw [List.take_add_one]
      simp [hlt]
  rw [e xs.length (Nat.le_refl _), List.take_length]
theorem stepPick_map {α β : Type} (f : α → β) (xs : List α) (lo hi : Option Int) (c : Int) : stepPick (xs.map f) lo hi c = (stepPick xs lo hi c).map f := by
  unfold stepPick
  rw [List.length_map, List.map_filterMap]
  congr 1
  funext k
  rw [List.getElem?_map]
theorem stepPick_len {α : Type} (xs : List α) (lo hi : Option Int) (c : Int) : (stepPick xs lo hi c).length ≤ Builtin.Slice.slicePlaces (Builtin.Slice.sliceAdjust lo hi c (xs.length : Int)).1 (Builtin.Slice.sliceAdjust lo hi c (xs.length : Int)).2 c := by
  unfold stepPick
  exact Nat.le_trans (List.length_filterMap_le _ _) (by simp)
theorem getItem_tuple_step {t sl : Addr} {items : List Value} {vl vu vs : Value} {lo hi : Option Int} {c : Int} {Q : Value → Shared → Prop} (ht : IsTup s.heap t items.toArray) (hs : s.heap.IsSliceOf sl vl vu vs) (pl : IsPart vl lo) (pu : IsPart vu hi) (ps : IsPart vs (some c)) (hc : c ≠ 0)
    (h1 : stepWhole items.length lo hi c = true → Q (.ref t) s)
    (h2 : stepWhole items.length lo hi c = false → Q (.ref s.heap.objs.size) { s with heap := s.heap.push { cls := .type "tuple", data := .seq (stepPick items lo hi c).toArray } })
    (hsz : (stepPick items lo hi c).length ≤ sizeLine) : wpAny (model prog w) A (getItem (.ref t) (.ref sl)) Q E s := by
  have htake : sizeOk (.seq (stepPick items lo hi c).toArray) := by
    show (stepPick items lo hi c).toArray.size ≤ sizeLine
    rw [List.size_toArray]
    exact hsz
  obtain ⟨os, hos, hcs, hds⟩ := id hs
  have hTs : s.TypeIs (.ref sl) "slice" := ⟨os, hos, hcs⟩
  unfold getItem
  try with_reducible refine wpAny_holding ?_
  first | refine wpAny_bind (wpAny_pure ?_) | skip
  refine wpAny_bind (wpAny_sequenceKey ht.typeIs (by decide) ?_)
  refine wpAny_bind (wpAny_callSpecial?_slot (name := Str.ofString "__getitem__") ht.typeIs PyProof.Rows.slot_tuple_getitem
    (wpAny_call_entry PyProof.Rows.slot_tuple_getitem ht.typeIs entry_tuple_getitem ?_ (args_tuple_getitem _ _)))
  show wpAny _ _ (Builtin.Tuple.tupleItemsOf (.ref t) >>= _) _ _ s
  refine wpAny_bind (tupleItemsOf_ ht ?_)
  refine wpAny_bind (wpAny_typeOf hTs ?_)
  rw [if_pos (by decide)]
  refine wpAny_bind (sliceApplied_st hs pl pu ps hc ?_)
  rw [List.size_toArray]
  show wpAny _ _ (if stepWhole items.length lo hi c = true then _ else _) _ _ s
  by_cases q : stepWhole items.length lo hi c = true
  · rw [if_pos q]
    refine wpAny_bind ?_
    show wpAny _ _ (typeOf (.ref t) >>= fun T => pure (T == .type "tuple")) _ _ s
    refine wpAny_bind (wpAny_typeOf ht.typeIs (wpAny_pure ?_))
    first
      | rw [if_pos (by decide)]
      | simp only [beq_self_eq_true, if_true]
    first
      | exact wpAny_bind (wpAny_rule (wpAny_pure ⟨_, rfl, wpAny_pure (h1 q)⟩))
      | exact wpAny_bind (wpAny_rule (wpAny_bind (wpAny_pure (wpAny_pure ⟨_, rfl, wpAny_pure (h1 q)⟩))))
  · rw [if_neg q]
    have h := h2 (by simpa using q)
    have e : ((List.range (Builtin.Slice.slicePlaces (Builtin.Slice.sliceAdjust lo hi c (items.length : Int)).1 (Builtin.Slice.sliceAdjust lo hi c (items.length : Int)).2 c)).filterMap fun (k : Nat) => items.toArray[((Builtin.Slice.sliceAdjust lo hi c (items.length : Int)).1 + (k : Int) * c).toNat]?).toArray = (stepPick items lo hi c).toArray := by
      unfold stepPick
      congr 2
      funext k
      simp
    rw [e]
    first
      | exact wpAny_bind (m := Builtin.Tuple.tupleExact _) (wpAny_newObj_type (wpAny_pure ⟨_, rfl, wpAny_pure h⟩) htake)
      | exact wpAny_bind (m := Builtin.Tuple.tupleExact _) (wpAny_newObj_type (wpAny_bind (wpAny_pure (wpAny_pure ⟨_, rfl, wpAny_pure h⟩))) htake)
      | exact wpAny_bind (wpAny_bind (m := Builtin.Tuple.tupleExact _) (wpAny_newObj_type (wpAny_pure (wpAny_pure ⟨_, rfl, wpAny_pure h⟩)) htake))
      | exact wpAny_bind (wpAny_bind (m := Builtin.Tuple.tupleExact _) (wpAny_newObj_type (wpAny_pure ⟨_, rfl, wpAny_pure h⟩) htake))
end
section
variable {X : Cx} {e : Expr} {lo hi st : Option Expr} {te : TE} {tl th ts : TO} {pos p2 : Pos}
def rStepT (K : PySem.W.Frag) : V → Option Int → Option Int → Option Int → Hp → VK → Prop := fun x lo hi c H Q => ∃ a xs c', x = .ref a ∧ SqT K H a xs ∧ c = some c' ∧ c' ≠ 0 ∧ (stepPick xs lo hi c').length ≤ 100000 ∧
  (stepWhole xs.length lo hi c' = true → Q (.ref a) H) ∧ (stepWhole xs.length lo hi c' = false → ∀ p, H p = none → Q (.ref p) (upd H p (.tup (stepPick xs lo hi c'))))
def tStepT (K : PySem.W.Frag) (te : TE) (tl th ts : TO) : TE := fun σ H Q => te σ H fun x H1 => tl σ H1 fun l H2 => th σ H2 fun u H3 => ts σ H3 fun c H4 => rStepT K x l u c H4 Q
theorem vals_pick {xs : List V} {its : List Value} (r : Vals xs its) (lo hi : Option Int) (c : Int) : Vals (stepPick xs lo hi c) (stepPick its lo hi c) := by
  have hl := r.length
  unfold stepPick
  rw [hl]
  generalize Builtin.Slice.slicePlaces (Builtin.Slice.sliceAdjust lo hi c (its.length : Int)).1 (Builtin.Slice.sliceAdjust lo hi c (its.length : Int)).2 c = n
  generalize (Builtin.Slice.sliceAdjust lo hi c (its.length : Int)).1 = a
  induction n with
  | zero => exact .nil
  | succ n ih =>
    rw [List.range_succ, List.filterMap_append, List.filterMap_append]
    refine Vals.append ih ?_
    simp only [List.filterMap_cons, List.filterMap_nil]
    cases hx : xs[(a + (n : Int) * c).toNat]? with
    | none =>
      have : its[(a + (n : Int) * c).toNat]? = none := by
        rw [List.getElem?_eq_none_iff] at hx ⊢
        omega
      rw [this]
      exact .nil
    | some x =>
      obtain ⟨u, hu, ru⟩ := r.get hx
      rw [hu]
      exact .cons ru .nil
theorem pe_stepT (he : PE X e te) (hl : PO X lo tl) (hu : PO X hi th) {c : Expr} (hs : PO X (some c) ts) (hops : ∀ (v sl : Value), subscripted (.Slice lo hi (some c) p2) false v sl = operate [v, sl] (getItem v sl) := by intro _ _; with_unfolding_all rfl)
  : PE X (.Subscript e (.Slice lo hi (some c) p2) pos) (tStepT X.K te tl th ts) := by
  refine ⟨fun pins s σ H Q I h => ?_⟩
  refine Subscript_ (thn (he.run pins s σ H _ I h) fun v s1 ⟨x, H1, I1, r1, q1⟩ => ?_)
  refine wpAny_Slice (thn (hl.run pins s1 σ H1 _ I1 q1) fun vl s2 ⟨l, H2, I2, pl, q2⟩ => thn (hu.run pins s2 σ H2 _ I2 q2) fun vu s3 ⟨u, H3, I3, pu, q3⟩ => thn (hs.run pins s3 σ H3 _ I3 q3) fun vs s4 ⟨o, H4, I4, ps, q4⟩ => ?_)
  obtain ⟨a, xs, c', ex, hx, rfl, hc, hz, y1, y2⟩ := q4
  subst ex
  cases r1
  have I5 : Inv X pins σ H4 { s4 with heap := s4.heap.push { cls := .type "slice", data := .fields #[vl, vu, vs] } } := I4.kept (t' := s4.toks) fun b ob q => Heap.get?_push_of_some _ q
  obtain ⟨its, r, ht, hz2⟩ := I5.tuple hx
  have hlen := r.length
  have rp := vals_pick r l u c'
  have rl := rp.length
  show wpAny (model X.prog X.w) X.A (subscriptTail e (.Slice lo hi (some c) p2) (.ref a) (.ref s4.heap.objs.size)) (EP X pins σ Q) X.xe { s4 with heap := s4.heap.push { cls := .type "slice", data := .fields #[vl, vu, vs] } }
  refine tail_any (ops := [.ref a, .ref s4.heap.objs.size]) ht.typeIs (PyProof.Rows.slot_tuple_getitem.lookup) ?_ (hops _ _)
  refine getItem_tuple_step ht (Heap.IsSliceOf.new _ vl vu vs) pl pu ps hc (fun q => ?_) (fun q => ?_) (by rw [← rl]; exact Nat.le_trans hz (by decide))
  · exact ⟨.ref a, H4, I5, rfl, y1 (by rw [hlen]; exact q)⟩
  · refine ⟨.ref _, _, I5.laid (t' := s4.toks) (o := .tup (stepPick xs l u c')) (fun b ob q => Heap.get?_push_of_some _ q) (Nat.le_refl _) ?_, rfl, y2 (by rw [hlen]; exact q) _ (I5.hok.fresh (Nat.le_refl _))⟩
    exact ⟨Nat.le_trans hz (by decide), _, rp, IsTup.new _ _⟩
end
end EY
set_option autoImplicit false
set_option maxHeartbeats 1000000
namespace EY
open PySem PySem.Spec PyProof.Rows L2
section
variable {X : Cx}
def rCatR (K : PySem.W.Frag) : R2 := fun x y H Q => ∃ l b xs zs, x = .ref l ∧ y = .ref b ∧ SqL K H l xs ∧ SqL K H b zs ∧ xs.length + zs.length ≤ 100000 ∧ ∀ p, H p = none → Q (.ref p) (upd H p (.lst (xs ++ zs)))
theorem op_catR : OpR X (binaryOp .Add) (rCatR X.K) := by
  intro pins s σ H x y v u Q I rx ry h
  obtain ⟨l, b, xs, zs, rfl, rfl, hH, hB, hz, q⟩ := h
  cases rx
  cases ry
  obtain ⟨its, r, e, z⟩ := I.list hH
  obtain ⟨its2, r2, e2, z2⟩ := I.list hB
  obtain ⟨⟨cls, dd, data, sl⟩, n, ho, hc, hdd, hd⟩ := id e
  obtain ⟨⟨cls2, dd2, data2, sl2⟩, n2, ho2, hc2, hdd2, hd2⟩ := id e2
  simp only at hc hd hc2 hd2
  subst hc hd hc2 hd2
  have l1 := r.length
  have l2 := r2.length
  have hz' : its.length + its2.length ≤ sizeLine := Nat.le_trans (by omega) (show 100000 ≤ sizeLine by decide)
  have ea : its.toArray ++ its2.toArray = (its ++ its2).toArray := by simp
  refine concat_meets ⟨_, ho, rfl⟩ ⟨_, ho2, rfl⟩ noFill_list_add seq_list_add PySem.F.slot_list_add PySem.F.entry_list_add (PySem.F.args_list_add_2 _ _) (list_addW l b its.toArray its2.toArray n n2 dd dd2 sl sl2 (by simpa using hz')) ⟨ho, ho2, ?_⟩
  rw [ea]
  exact ⟨.ref _, _, I.lnew (t' := s.toks) (r.append r2) (by rw [List.length_append]; omega), rfl, q _ I.fresh⟩
end
section
variable {X : Cx} {Γ : Gm} {a b c e tg : Expr} {es : List Expr} {p p2 pos : Pos} {d : PyData} {ds es' xs : List PyData} {x : Str} {ns ms : List Int} {i : Int}
theorem dl_catR (ha : DR X a Γ ds) (hb : DR X b Γ es') (hl : ds.length + es'.length ≤ 100000) : DL X (.BinOp a .Add b pos) Γ (ds ++ es') := fun H0 O H σ Q g q =>
  wE_of (pe_op op_catR pe_w pe_w) (ha H0 O H σ _ g fun p vs H2 s2 l2 a2 => hb H0 O H2 σ _ (g.step s2) fun p' vs' H3 s3 l3 a3 => by
    refine ⟨_, _, _, _, rfl, rfl, s3.seq l2, l3, ?_, fun p'' hp => ?_⟩
    · rw [dpAll_len a2, dpAll_len a3]
      exact hl
    · exact q p'' _ _ ((s2.trans s3).free hp) ((s2.trans s3).trans (same_upd hp)) upd_same (dpAll_mono (hid_ext hp (same_upd hp)) _ _ (dpAll_app (dpAll_mono (hid_mono s3) _ _ a2) a3)))
theorem dl_catRI (ha : DR X a Γ (ns.map .int)) (hb : DR X b Γ (ms.map .int)) (hl : ns.length + ms.length ≤ 1000) : DL X (.BinOp a .Add b pos) Γ ((ns ++ ms).map .int) := (dl_catR ha hb (by rw [List.length_map, List.length_map]; omega)).is (by rw [← List.map_append])
/-- enumerate of a list that nobody changes -/
theorem dif_enumL {tpos : Pos} {kk : Nat} (hm : X.mg "enumerate" = none) (ha : DE X a Γ (.list xs)) (hg : Gl X "enumerate" := by rfl) (he : starEach [a] X.env = (false, eval a X.env) :: starEach [] X.env := by rfl) :
    DIF X (.Tuple es kk tpos) (.Call (.Name "enumerate" p) [a] [] pos) Γ xs.length (fun i => .tuple [.int i, xs.getD i .none]) := fun B O H σ R g q =>
  wI_of (pi_enum hg hm pa_w he) (wA_one he (ha B O H σ _ g fun v H2 s2 d2 => by
    cases d2 with
    | lst hs1 ha1 =>
      rename_i l1 vs1
      refine ⟨l1, vs1, rfl, hid_sub.seq hs1, q _ H2 s2 fun H3 O3 s3 lv => ?_⟩
      have G1 : SqL X.K H3 l1 vs1 := (s3.trans hid_sub).seq hs1
      have n1 := dpAll_len ha1
      refine ⟨fun i hi => ?_, ?_, fun i hi x H4 y => ?_⟩
      · exact ⟨vs1, vs1[i]'(by omega), G1, by simp⟩
      · exact ⟨vs1, G1, by omega⟩
      · obtain ⟨T, x1, rfl, nT, rfl, f1⟩ := y
        have e1 := f1 _ G1
        obtain ⟨d1, r1, r2⟩ := dpAll_getV ha1 e1
        simp only []
        rw [getD_of r1]
        have sm := s3.trans (hid_mono (O := O3) (same_upd (o := .tup [.int (i : Nat), x1]) nT))
        exact ⟨same_upd nT, .tup (sqT_new (live_not lv nT)) (.cons (.int _) (.cons (dp_mono sm _ _ r2) .nil))⟩))
theorem dif_enumLI {tpos : Pos} {kk : Nat} (hm : X.mg "enumerate" = none) (ha : DE X a Γ (lstI ns)) (hg : Gl X "enumerate" := by rfl) (he : starEach [a] X.env = (false, eval a X.env) :: starEach [] X.env := by rfl) :
    DIF X (.Tuple es kk tpos) (.Call (.Name "enumerate" p) [a] [] pos) Γ ns.length (fun i => .tuple [.int i, .int (ns.getD i 0)]) := ((dif_enumL hm ha hg he).len (by rw [List.length_map])).is fun i hi => by rw [getD_ints hi]
/-! slices with a step -/
theorem pick_dp {K : PySem.W.Frag} {H : Hp} {ds : List PyData} {vs : List V} (h : DpAll K H vs ds) (lo hi : Option Int) (c : Int) : DpAll K H (stepPick vs lo hi c) (stepPick ds lo hi c) := by
  have hl := dpAll_len h
  unfold stepPick
  rw [hl]
  generalize Builtin.Slice.slicePlaces (Builtin.Slice.sliceAdjust lo hi c (ds.length : Int)).1 (Builtin.Slice.sliceAdjust lo hi c (ds.length : Int)).2 c = n
  generalize (Builtin.Slice.sliceAdjust lo hi c (ds.length : Int)).1 = a
  induction n with
  | zero => exact .nil
  | succ n ih =>
    rw [List.range_succ, List.filterMap_append, List.filterMap_append]
    refine dpAll_app ih ?_
    simp only [List.filterMap_cons, List.filterMap_nil]
    cases hx : vs[(a + (n : Int) * c).toNat]? with
    | none =>
      have : ds[(a + (n : Int) * c).toNat]? = none := by
        rw [List.getElem?_eq_none_iff] at hx ⊢
        omega
      rw [this]
      exact .nil
    | some x =>
      obtain ⟨u, hu, ru⟩ := dpAll_getV h hx
      rw [hu]
      exact .cons ru .nil
theorem de_stepT {lo hi : Option Expr} {l h : Option Int} {cc : Int} (ha : DE X a Γ (.tuple ds)) (hl : DO X lo Γ l) (hh : DO X hi Γ h) (hc : DE X c Γ (.int cc)) (h0 : cc ≠ 0) (hz : (stepPick ds l h cc).length ≤ 100000)
    (hops : ∀ (v sl : Value), subscripted (.Slice lo hi (some c) p2) false v sl = operate [v, sl] (getItem v sl) := by intro _ _; with_unfolding_all rfl) :
    DE X (.Subscript a (.Slice lo hi (some c) p2) pos) Γ (.tuple (stepPick ds l h cc)) := fun H0 O H σ Q g q =>
  wE_of (pe_stepT pe_w po_w po_w (po_some pe_w) hops) (ha H0 O H σ _ g fun v H2 s2 d2 => hl H0 O H2 σ _ (g.step s2) fun H3 s3 => hh H0 O H3 σ _ (g.step (s2.trans s3)) fun H4 s4 => hc H0 O H4 σ _ (g.step (s2.trans (s3.trans s4))) fun u H5 s5 d5 => by
    cases d5
    cases d2 with
    | tup hs ha =>
      rename_i p vs
      have s34 := s3.trans (s4.trans s5)
      have pl := dpAll_len (pick_dp ha l h cc)
      refine ⟨_, rfl, _, _, _, rfl, Same.seqT (hid_sub.trans s34) hs, rfl, h0, by rw [pl]; exact hz, fun hw => ?_, fun _ p' hp => ?_⟩
      · refine q _ H5 (s2.trans s34) (.tup (Same.seqT (hid_mono s34) hs) ?_)
        rw [stepWhole_eq (by rw [← dpAll_len ha]; exact hw)]
        exact dpAll_mono (hid_mono s34) _ _ ha
      · have g4 := g.step (s2.trans s34)
        exact q _ _ ((s2.trans s34).trans (same_upd hp)) (.tup (sqT_new (g4.fresh hp)) (dpAll_mono (hid_mono (s34.trans (same_upd hp))) _ _ (pick_dp ha l h cc))))
theorem pick_rev {α : Type} (xs : List α) : stepPick xs none none (-1) = xs.reverse := by
  have ea : Builtin.Slice.sliceAdjust none none (-1) (xs.length : Int) = ((xs.length : Int) - 1, -1) := rfl
  unfold stepPick
  rw [ea]
  have ep : Builtin.Slice.slicePlaces ((xs.length : Int) - 1) (-1) (-1) = xs.length := by
    unfold Builtin.Slice.slicePlaces
    rw [if_neg (by decide)]
    show (if (xs.length : Int) - 1 > -1 then ((xs.length : Int) - 1 - -1 - 1) / (1 : Int) + 1 else 0).toNat = _
    split
    · rw [Int.ediv_one]; omega
    · omega
  simp only [ep]
  have e : ∀ n, n ≤ xs.length → (List.range n).filterMap (fun (k : Nat) => xs[((xs.length : Int) - 1 + (k : Int) * -1).toNat]?) = xs.reverse.take n := by
    intro n
    induction n with
    | zero => intro _; simp
    | succ n ih =>
      intro hn
      rw [List.range_succ, List.filterMap_append, ih (by omega)]
      have e2 : ((xs.length : Int) - 1 + (n : Int) * -1).toNat = xs.length - 1 - n := by omega
      have hlt : n < xs.reverse.length := by rw [List.length_reverse]; omega
      have hl2 : xs.length - 1 - n < xs.length := by omega
      simp only [List.filterMap_cons, e2, List.filterMap_nil, List.getElem?_eq_getElem hl2]
      rw [List.take_add_one, List.getElem?_eq_getElem hlt, List.getElem_reverse]
      rfl
  rw [e xs.length (Nat.le_refl _), List.take_of_length_le (by simp)]
/-- t[::-1] -/
theorem de_revI {k : Nat} {p1 p3 : Pos} (ha : DE X a Γ (tupI ns)) (hl : ns.length ≤ 100000) : DE X (.Subscript a (.Slice none none (some (.UnaryOp .USub (.Constant (.int 1) k p1) p3)) p2) pos) Γ (tupI ns.reverse) :=
  (de_stepT ha do_none do_none (de_neg de_int) (by decide) (by rw [pick_rev]; simpa using hl)).is (by rw [pick_rev]; exact congrArg PyData.tuple (List.map_reverse ..).symm)
theorem pick_len_le {α : Type} (xs : List α) (lo hi : Option Int) (c : Int) (hc : 0 < c) : (stepPick xs lo hi c).length ≤ xs.length := by
  refine Nat.le_trans (stepPick_len xs lo hi c) ?_
  have h1 : ¬ c < 0 := by omega
  have hlo : 0 ≤ (Builtin.Slice.sliceAdjust lo hi c (xs.length : Int)).1 := by
    unfold Builtin.Slice.sliceAdjust
    simp only [h1, if_false]
    cases lo with
    | none => simp
    | some v => simp only []; split <;> omega
  have hhi : (Builtin.Slice.sliceAdjust lo hi c (xs.length : Int)).2 ≤ (xs.length : Int) := by
    unfold Builtin.Slice.sliceAdjust
    simp only [h1, if_false]
    cases hi with
    | none => simp
    | some v => simp only []; split <;> omega
  generalize (Builtin.Slice.sliceAdjust lo hi c (xs.length : Int)).1 = u at *
  generalize (Builtin.Slice.sliceAdjust lo hi c (xs.length : Int)).2 = v at *
  unfold Builtin.Slice.slicePlaces
  rw [if_pos (by omega)]
  split
  · have : (v - u - 1) / c ≤ v - u - 1 := Int.ediv_le_self _ (by omega)
    omega
  · simp
/-- t[a::k] -/
theorem de_stepI {lo hi : Option Expr} {l h : Option Int} {cc : Int} (ha : DE X a Γ (tupI ns)) (hl : DO X lo Γ l) (hh : DO X hi Γ h) (hc : DE X c Γ (.int cc)) (h0 : 0 < cc) (hz : ns.length ≤ 100000)
    (hops : ∀ (v sl : Value), subscripted (.Slice lo hi (some c) p2) false v sl = operate [v, sl] (getItem v sl) := by intro _ _; with_unfolding_all rfl) :
    DE X (.Subscript a (.Slice lo hi (some c) p2) pos) Γ (tupI (stepPick ns l h cc)) :=
  (de_stepT ha hl hh hc (by omega) (by
    rw [stepPick_map, List.length_map]
    exact Nat.le_trans (pick_len_le ns l h cc h0) hz) hops).is (by rw [stepPick_map])
end
theorem atI_end {ns : List Int} (h : 0 < ns.length) : atI ns (-1) = some (ns.getD (ns.length - 1) 0) := by
  have := atI_back (ns := ns) (i := 0) h
  exact this
end EY
set_option autoImplicit false
set_option maxHeartbeats 1000000
namespace EY
open PySem PySem.Spec PyProof.Rows L2
section
variable {X : Cx} {Γ Γ' Γ'' : Gm} {a b c e tg : Expr} {es : List Expr} {p p2 p' pos : Pos} {d d1 d2 : PyData} {x : Str} {rest : List Stmt} {P : Po}
/-- a, b = a list of two -/
theorem dg_lst2 {k : Nat} {js ks : List Nat} (ha : DG X a Γ d1 Γ' js) (hb : DG X b Γ' d2 Γ'' ks) (hc : X.calm = true := by rfl) (h1 : (assignEach [a, b] X.env).map (·.2) = assign a X.env :: (assignEach [b] X.env).map (·.2) := by rfl) (h2 : (assignEach [b] X.env).map (·.2) = assign b X.env :: (assignEach [] X.env).map (·.2) := by rfl)
    (hn : (assignEach [a, b] X.env).length = 2 := by rfl) (hst : (assignEach [a, b] X.env).findIdx? (·.1) = none := by rfl) : DG X (.Tuple [a, b] k pos) Γ (.list [d1, d2]) Γ'' (js ++ ks) := fun B O H σ v Q g hd q =>
  wG_of (pg_lst hc (pgs_cons pg_w (pgs_cons pg_w pgs_nil h2) h1) hn hst) (by
    cases hd with
    | lst hs ha' =>
      cases ha' with
      | cons q1 q2 =>
        cases q2 with
        | cons q2 q3 =>
          cases q3
          refine ⟨_, _, rfl, hid_sub.seq hs, rfl, _, _, rfl, ?_⟩
          refine ha B O H σ _ _ g q1 fun σ1 g1 a1 => ⟨_, _, rfl, hb B O H σ1 _ _ g1 q2 fun σ2 g2 a2 => ⟨rfl, q σ2 g2 (a1.trans a2)⟩⟩)
/-- what is known of an own error's class over ValueError -/
structure ErrC (K : PySem.W.Frag) (mg : Str → Option Value) (x : Str) (C : Addr) : Prop where
  g : mg x = some (.ref C)
  q : PySem.W.excIn K C [.type "ValueError", .type "Exception", .type "BaseException", .type "object"] "ValueError.__new__" = true
  kp : PySem.W.keepIn K (.ref C) = true
  b : PySem.W.subIn K (.ref C) (.type "BaseException") = some true
  t : PySem.W.typeIn K (.ref C) = some (.type "type")
  m : PySem.W.exmOne K (.ref C) (.ref C) = some true
theorem ds_raiseE {C : Addr} {m : Str} {j : Nat} (E : ErrC X.K X.mg x C) (hP : P.xr (.ref C) Γ) (hg : Gl X x := by rfl) (hc : X.calm = true := by rfl) (hdb : (x == ("__debug__" : Str)) = false := by decide) :
    DS X (.Raise (some (.Call (.Name x p) [.Constant (.str m) j p2] [] pos)) none p' :: rest) Γ P :=
  ds_raise PySem.F.excBase_ValueError E.q E.g E.kp (raises_own E.b E.t) hP hg hc hdb
theorem ErrC.names {C : Addr} (E : ErrC X.K X.mg x C) (hg : Gl X x := by rfl) (hdb : (x == ("__debug__" : Str)) = false := by decide) : Names X x (.ref C) := ⟨hg, hdb, .inl E.g⟩
theorem err_mk {K : PySem.W.Frag} {mg : Str → Option Value} {C : Addr} (g : mg x = some (.ref C)) (q : PySem.W.excIn K C [.type "ValueError", .type "Exception", .type "BaseException", .type "object"] "ValueError.__new__" = true) (kp : PySem.W.keepIn K (.ref C) = true) (h1 : PySem.W.subIn K (.ref C) (.type "BaseException") = some true) (h3 : PySem.W.typeIn K (.ref C) = some (.type "type")) (h2 : PySem.W.isClsIn K C = true) (h4 : PySem.W.subIn K (.ref C) (.ref C) = some true) : ErrC K mg x C := ⟨g, q, kp, h1, h3, by
  have e1 : (PySem.W.subIn K (.ref C) (.type "BaseException") == some true) = true := by rw [h1] <;> rfl
  have e2 : ((PySem.W.clsIn K C).isSome && PySem.W.typeIn K (.ref C) == some (.type "type")) = true := by
    have h2' : (PySem.W.clsIn K C).isSome = true := h2
    rw [h2', h3] <;> rfl
  show (if (PySem.W.subIn K (.ref C) (.type "BaseException") == some true) = true then (if ((PySem.W.clsIn K C).isSome && PySem.W.typeIn K (.ref C) == some (.type "type")) = true then PySem.W.subIn K (.ref C) (.ref C) else none) else none) = some true
  rw [if_pos e1, if_pos e2]
  exact h4⟩
end
end EY
set_option autoImplicit false
set_option maxHeartbeats 1000000
/-! except .. as e; isinstance of what is caught -/
namespace EY
open PySem PySem.Spec PyProof.Rows L2
theorem Sg.setRaw {K : PySem.W.Frag} {B : Bs} {H : Hp} {O : Addr → Prop} {σ : L2.St} {Γ : Gm} (g : Sg K B O H σ Γ) {i : Nat} {v : V} : Sg K B O H (σ.set i (some v)) (Γ.set i (some (.raw v))) := by
  refine ⟨g.ext, g.fo, g.fs, g.live, by rw [List.length_set, List.length_set, g.len], fun j s e => ?_, fun j k xs ys p h1 h2 h3 h4 => ?_⟩
  · by_cases q : j = i
    · subst q
      obtain ⟨e1, e2⟩ := get_set_eq e
      cases e1
      exact ⟨v, get_set_of (by rw [g.len]; exact e2), rfl⟩
    · rw [get_set_ne q] at e ⊢
      exact g.slot j s e
  · have nj : j ≠ i := fun q => by
      subst q
      have := (get_set_eq h1).1
      cases this
    have nk : k ≠ i := fun q => by
      subst q
      have := (get_set_eq h2).1
      cases this
    rw [get_set_ne nj] at h1 h3
    rw [get_set_ne nk] at h2 h4
    exact g.inj j k xs ys p h1 h2 h3 h4
section
variable {X : Cx} {Γ Γ' : Gm} {e : Expr} {rest body : List Stmt} {p p2 p' pos : Pos} {d : PyData} {x : Str} {P : Po}
/-- try: .. except x as n: .. -/
theorem ds_tryAs (i : Nat) {n : Str} {c : Value} {np pos' : Pos} {b₀ : Stmt} {suite : List Stmt} (XB : Value → Gm → Prop) (hN : X.N.Nodup) (hc : Names X x c)
    (hb : ∀ (pn : List (Addr × Obj)) (xe : Value → Shared → Prop), PassesOwn (model X.prog X.w) X.A X.env xe → DS (X.tr pn xe) body Γ { nx := fun Γ' => DS X rest Γ' P, rt := P.rt, bk := P.bk, ct := P.ct, xr := XB, rr := P.rr })
    (hm : ∀ C Γ', XB C Γ' → PySem.W.exmOne X.K C c = some true)
    (hsu : ∀ C Γ', XB C Γ' → ∀ (a : Addr) (oe : Obj) (pn : List (Addr × Obj)), Zc C none oe → (∃ vs, oe.data = .fields vs) → DS (X.suite a ((a, oe) :: pn)) (b₀ :: suite) (Γ'.set i (some (.raw (.ref a)))) { nx := fun Γ' => DS X rest (Γ'.set i none) P, rt := P.rt, bk := fun Γ' => P.bk (Γ'.set i none), ct := fun Γ' => P.ct (Γ'.set i none), rr := fun O H v Γ' => P.rr O H v (Γ'.set i none) })
    (hi : X.N[i]? = some n := by rfl) (hln : X.env.kindOf n = some .local := by rfl) (hs : X.stack = X.env :: X.outer := by rfl) (hf : X.env.frame = some X.env.locals := by rfl) :
    DS X (.Try body [.ExceptHandler (some (.Name x np)) (some n) (b₀ :: suite) pos'] [] [] pos :: rest) Γ P := fun B O H σ D g f => by
  have hps := ps_try_as (X := X) (x := x) (n := n) (c := c) (i := i) (body := body) (suite := suite) (b₀ := b₀) (np := np) (pos := pos) (pos' := pos') (Wout := fun _ _ _ _ => False)
    (tb := fun W D σ H => ∀ (pn : List (Addr × Obj)) (xe : Value → Shared → Prop), Takes (X.tr pn xe) W → PassesOwn (model X.prog X.w) X.A X.env xe → wB (X.tr pn xe) body D σ H)
    (ts := fun a cls d D σ H => ∀ (oe : Obj) (pn : List (Addr × Obj)), Zc cls d oe → (∃ vs, oe.data = .fields vs) → wB (X.suite a ((a, oe) :: pn)) (b₀ :: suite) D σ H) hs hf hN hi hln hc takes0
    (fun W pn xe tk po => ⟨fun pins s σ H D I h => (h pn xe tk po).run pins s I⟩) (fun a oe cls d pn z1 z2 => ⟨fun pins s σ H D I h => (h oe pn z1 z2).run pins s I⟩)
  refine wB_of (pss_cons hps pss_w) ?_
  intro pn xe tk po
  refine hb pn xe po B O H σ _ g ⟨fun O' H' σ' Γ' m g' => m B O' H' σ' D g' f, f.rt, f.bk, f.ct, fun C Γ' m => ⟨_, tk, fun O' H' σ' g' => ?_⟩, f.rr⟩
  refine ⟨true, hm C Γ' m, fun _ a ha => ?_, fun z => nomatch z⟩
  intro oe pn' z1 z2
  exact hsu C Γ' m a oe pn' z1 z2 B O' H' _ _ g'.setRaw ⟨fun O2 H2 σ2 Γ2 m2 g2 => m2 B O2 H2 _ D g2.drop f, f.rt, fun O2 H2 σ2 Γ2 m2 g2 => f.bk O2 H2 _ _ m2 g2.drop, fun O2 H2 σ2 Γ2 m2 g2 => f.ct O2 H2 _ _ m2 g2.drop, fun _ _ z => z.elim, fun O2 H2 σ2 Γ2 v m2 g2 => f.rr O2 H2 _ _ v m2 (g2.drop (w := none))⟩
/-- isinstance(e, an own class), e caught -/
theorem de_isE {a D : Addr} {oe : Obj} {pn : List (Addr × Obj)} {n y : Str} {pe : Pos} {C : Addr} {b : Bool} (i : Nat) (hm : X.mg "isinstance" = none) (EC : ExcC X.K D) (hz : Zc (.ref D) none oe) (hf : ∃ vs, oe.data = .fields vs) (h : Γ[i]? = some (some (.raw (.ref a)))) (hy : X.mg y = some (.ref C)) (hk : PySem.W.kitOne X.K (.ref D) (.ref C) = some b)
    (hN : (X.suite a ((a, oe) :: pn)).N[i]? = some n := by rfl) (hv : Vis (X.suite a ((a, oe) :: pn)).env.scope n := by first | exact Or.inl rfl | exact Or.inr (Or.inl rfl) | exact Or.inr (Or.inr rfl)) (hd : (n == ("__debug__" : Str)) = false := by decide) (hcd : (n == ("__classdict__" : Str)) = false := by decide)
    (hg : Gl (X.suite a ((a, oe) :: pn)) "isinstance" := by rfl) (hg2 : Gl (X.suite a ((a, oe) :: pn)) y := by rfl) (hdy : (y == ("__debug__" : Str)) = false := by decide)
    (he : starEach [.Name n pe, .Name y p2] (X.suite a ((a, oe) :: pn)).env = (false, eval (.Name n pe) (X.suite a ((a, oe) :: pn)).env) :: starEach [.Name y p2] (X.suite a ((a, oe) :: pn)).env := by rfl) (he2 : starEach [.Name y p2] (X.suite a ((a, oe) :: pn)).env = (false, eval (.Name y p2) (X.suite a ((a, oe) :: pn)).env) :: starEach [] (X.suite a ((a, oe) :: pn)).env := by rfl)
    (hpl : (backTo pos (starEach [.Name y p2] (X.suite a ((a, oe) :: pn)).env)).any (·.1) = false := by rfl) :
    DE (X.suite a ((a, oe) :: pn)) (.Call (.Name "isinstance" p) [.Name n pe, .Name y p2] [] pos) Γ (.bool b) := fun B O H σ Q g q => by
  obtain ⟨v, h1, h2⟩ := g.slot i _ h
  obtain rfl : v = .ref a := h2
  exact wE_of (pe_callB (call_isE EC hz hf) hg hm PyProof.Rows.boot_isinstance (pa_cons (pv i hN hv hd hcd) (pa_cons (pe_glob (v := .ref C) hg2 hy rfl hdy) pa_nil he2) he) (by decide) (by decide) he hpl)
    ⟨_, h1, ⟨.ref C, .ref C, b, rfl, fun u hu => hu, hk, q _ H (Same.refl H) (.bl b)⟩⟩
/-- isinstance(e, a built-in class), e caught -/
theorem de_isEB {a D : Addr} {oe : Obj} {pn : List (Addr × Obj)} {n y : Str} {pe : Pos} {T : String} {b : Bool} (i : Nat) (hm : X.mg "isinstance" = none) (EC : ExcC X.K D) (hz : Zc (.ref D) none oe) (hf : ∃ vs, oe.data = .fields vs) (h : Γ[i]? = some (some (.raw (.ref a)))) (hy : X.mg y = none) (hb : bootBuiltins y = some (.type T)) (hny : y ≠ "__name__") (hk : PySem.W.kitOne X.K (.ref D) (.type T) = some b)
    (hN : (X.suite a ((a, oe) :: pn)).N[i]? = some n := by rfl) (hv : Vis (X.suite a ((a, oe) :: pn)).env.scope n := by first | exact Or.inl rfl | exact Or.inr (Or.inl rfl) | exact Or.inr (Or.inr rfl)) (hd : (n == ("__debug__" : Str)) = false := by decide) (hcd : (n == ("__classdict__" : Str)) = false := by decide)
    (hg : Gl (X.suite a ((a, oe) :: pn)) "isinstance" := by rfl) (hg2 : Gl (X.suite a ((a, oe) :: pn)) y := by rfl) (hdy : (y == ("__debug__" : Str)) = false := by decide)
    (he : starEach [.Name n pe, .Name y p2] (X.suite a ((a, oe) :: pn)).env = (false, eval (.Name n pe) (X.suite a ((a, oe) :: pn)).env) :: starEach [.Name y p2] (X.suite a ((a, oe) :: pn)).env := by rfl) (he2 : starEach [.Name y p2] (X.suite a ((a, oe) :: pn)).env = (false, eval (.Name y p2) (X.suite a ((a, oe) :: pn)).env) :: starEach [] (X.suite a ((a, oe) :: pn)).env := by rfl)
    (hpl : (backTo pos (starEach [.Name y p2] (X.suite a ((a, oe) :: pn)).env)).any (·.1) = false := by rfl) :
    DE (X.suite a ((a, oe) :: pn)) (.Call (.Name "isinstance" p) [.Name n pe, .Name y p2] [] pos) Γ (.bool b) := fun B O H σ Q g q => by
  obtain ⟨v, h1, h2⟩ := g.slot i _ h
  obtain rfl : v = .ref a := h2
  exact wE_of (pe_callB (call_isE EC hz hf) hg hm PyProof.Rows.boot_isinstance (pa_cons (pv i hN hv hd hcd) (pa_cons (pe_bltn (v := .ty T) hg2 hy hb rfl hny hdy) pa_nil he2) he) (by decide) (by decide) he hpl)
    ⟨_, h1, ⟨.ty T, .type T, b, rfl, fun u hu => hu, hk, q _ H (Same.refl H) (.bl b)⟩⟩
end
/-- what isinstance tells of an error of the class at D, asked for the class y -/
structure IsIn (K : PySem.W.Frag) (mg : Str → Option Value) (D : Addr) (y : Str) (C : Addr) (b : Bool) : Prop where
  g : mg y = some (.ref C)
  k : PySem.W.kitOne K (.ref D) (.ref C) = some b
theorem isIn_mk {K : PySem.W.Frag} {mg : Str → Option Value} {D C : Addr} {y : Str} {b : Bool} (g : mg y = some (.ref C)) (hi : PySem.W.isClsIn K C = true) (ht : PySem.W.typeIn K (.ref C) = some (.type "type")) (hs : PySem.W.subIn K (.ref C) (.ref C) = some true) (h : PySem.W.subIn K (.ref D) (.ref C) = some b) : IsIn K mg D y C b := ⟨g, by
  have h2' : (PySem.W.clsIn K C).isSome = true := hi
  have e2 : ((PySem.W.clsIn K C).isSome && PySem.W.typeIn K (.ref C) == some (.type "type")) = true := by rw [h2', ht] <;> rfl
  show (if (Value.ref D == Value.ref C) = true then some true else (if ((PySem.W.clsIn K C).isSome && PySem.W.typeIn K (.ref C) == some (.type "type")) = true then PySem.W.subIn K (.ref D) (.ref C) else none)) = some b
  rw [if_pos e2]
  by_cases q : (Value.ref D == Value.ref C) = true
  · rw [if_pos q]
    have e : Value.ref D = Value.ref C := eq_of_beq q
    rw [e, hs] at h
    exact h
  · rw [if_neg q]
    exact h⟩
theorem kitB_mk {K : PySem.W.Frag} {D : Addr} {T : String} {b : Bool} (hm : PySem.W.kitMeta T = true) (h : PySem.W.subIn K (.ref D) (.type T) = some b) : PySem.W.kitOne K (.ref D) (.type T) = some b := by
  show (if (Value.ref D == Value.type T) = true then some true else (if PySem.W.kitMeta T = true then PySem.W.subIn K (.ref D) (.type T) else none)) = some b
  rw [if_pos hm, if_neg (show ¬ (Value.ref D == Value.type T) = true from fun z => by have e : Value.ref D = Value.type T := eq_of_beq z; cases e)]
  exact h
theorem atI_two {α : Type} (a b : α) (k : Bool) : atI [a, b] (b2z k) = some (if k then b else a) := by cases k <;> rfl
end EY
set_option autoImplicit false
set_option maxHeartbeats 1000000
namespace M
open EY
/-! ### numbers of a clock, rows -/
def Nums (size : Int) (ns : List Int) : Prop := ∀ x ∈ ns, 0 ≤ x ∧ x < size
theorem Nums.get {size : Int} {ns : List Int} (h : Nums size ns) (hs : 0 < size) (i : Nat) : 0 ≤ ns.getD i 0 ∧ ns.getD i 0 < size := by
  rw [List.getD_eq_getElem?_getD]
  cases e : ns[i]? with
  | none => exact ⟨Int.le_refl _, hs⟩
  | some x => exact h x (List.mem_of_getElem? e)
theorem Nums.take {size : Int} {ns : List Int} (h : Nums size ns) (k : Nat) : Nums size (ns.take k) := fun x hx => h x (List.mem_of_mem_take hx)
theorem Nums.drop {size : Int} {ns : List Int} (h : Nums size ns) (k : Nat) : Nums size (ns.drop k) := fun x hx => h x (List.mem_of_mem_drop hx)
theorem Nums.app {size : Int} {ns ms : List Int} (h : Nums size ns) (h' : Nums size ms) : Nums size (ns ++ ms) := fun x hx => by
  rcases List.mem_append.mp hx with q | q
  · exact h x q
  · exact h' x q
theorem Nums.one {size x : Int} (h : 0 ≤ x ∧ x < size) : Nums size [x] := fun y hy => by
  rw [List.mem_singleton.mp hy]
  exact h
theorem Nums.nil {size : Int} : Nums size [] := fun _ h => nomatch h
theorem emod_ok {x size : Int} (hs : 0 < size) : 0 ≤ x % size ∧ x % size < size := ⟨Int.emod_nonneg x (by omega), Int.emod_lt_of_pos x hs⟩
/-- the clocks' sizes -/
def Size (s : Int) : Prop := s = 2 ∨ s = 3 ∨ s = 5 ∨ s = 7 ∨ s = 11 ∨ s = 13
theorem Size.pos {s : Int} (h : Size s) : 0 < s := by rcases h with h | h | h | h | h | h <;> omega
theorem Size.le {s : Int} (h : Size s) : s ≤ 13 := by rcases h with h | h | h | h | h | h <;> omega
theorem Size.ge {s : Int} (h : Size s) : 2 ≤ s := by rcases h with h | h | h | h | h | h <;> omega
/-! ### what the laws draw -/
def cellAt (ns : List Int) (k : Int) : Int := if k < (ns.length : Int) then ns.getD k.toNat 0 else 0
def mixed (ns : List Int) (k : Int) : Int := ((cellAt ns k + 7919 * k + 1) * 48271 % 2147483647 * ((cellAt ns k + 7919 * k + 1) * 48271 % 2147483647) + 7 * ((cellAt ns k + 7919 * k + 1) * 48271 % 2147483647) + k) % 2147483629
def drawn (number k : Int) : Int := ((number + 104729 * k + 17) * 69621 % 2147483647 * ((number + 104729 * k + 17) * 69621 % 2147483647) + 3 * ((number + 104729 * k + 17) * 69621 % 2147483647) + k) % 2147483629
theorem mixed_ok (ns : List Int) (k : Int) : 0 ≤ mixed ns k ∧ mixed ns k < 2147483629 := emod_ok (by decide)
theorem drawn_ok (n k : Int) : 0 ≤ drawn n k ∧ drawn n k < 2147483629 := emod_ok (by decide)
def numOne (number size : Int) (k : Nat) : Int := drawn number k / 8 % size * b2z (decide (0 < number % 3) || decide (drawn number k % 5 = 0))
def numbers (number size many : Int) : List Int := (List.range many.toNat).map (numOne number size)
theorem b2z_ok (b : Bool) : 0 ≤ b2z b ∧ b2z b ≤ 1 := by cases b <;> decide
theorem numbers_len (number size many : Int) : (numbers number size many).length = many.toNat := by simp [numbers]
theorem numOne_ok {number size : Int} (hs : 0 < size) (k : Nat) : 0 ≤ numOne number size k ∧ numOne number size k < size := by
  unfold numOne
  have h := emod_ok (x := drawn number k / 8) hs
  generalize drawn number k / 8 % size = z at h
  cases (decide (0 < number % 3) || decide (drawn number k % 5 = 0))
  · show 0 ≤ z * 0 ∧ z * 0 < size; omega
  · show 0 ≤ z * 1 ∧ z * 1 < size; omega
theorem numbers_ok {number size many : Int} (hs : 0 < size) : Nums size (numbers number size many) := fun x hx => by
  obtain ⟨k, _, rfl⟩ := List.mem_map.mp hx
  exact numOne_ok hs k
/-! ### the rule's next number -/
def nextBy (row rule : List Int) (size : Int) : Int := ((List.range rule.length).map fun i => rule.getD i 0 * row.getD (row.length - 1 - i) 0).sum % size
theorem nextBy_ok {row rule : List Int} {size : Int} (hs : 0 < size) : 0 ≤ nextBy row rule size ∧ nextBy row rule size < size := emod_ok hs
def more (rule : List Int) (size : Int) : Nat → List Int → List Int
  | 0, row => row
  | n + 1, row => more rule size n (row ++ [nextBy row rule size])
theorem more_len (rule : List Int) (size : Int) : ∀ (n : Nat) (row : List Int), (more rule size n row).length = row.length + n
  | 0, row => rfl
  | n + 1, row => by rw [more, more_len rule size n]; simp; omega
theorem more_ok {rule : List Int} {size : Int} (hs : 0 < size) : ∀ (n : Nat) {row : List Int}, Nums size row → Nums size (more rule size n row)
  | 0, _, h => h
  | n + 1, _, h => more_ok hs n (h.app (Nums.one (nextBy_ok hs)))
theorem more_succ (rule : List Int) (size : Int) : ∀ (n : Nat) (row : List Int), more rule size (n + 1) row = more rule size n row ++ [nextBy (more rule size n row) rule size]
  | 0, row => rfl
  | n + 1, row => by rw [more, more_succ rule size n, more]
/-- _law_made -/
def made (start rule : List Int) (size many : Int) : List Int := (more rule size (many.toNat - start.length) start).take many.toNat
theorem made_len {start rule : List Int} {size many : Int} : (made start rule size many).length = many.toNat := by
  unfold made
  rw [List.length_take, more_len]
  omega
theorem made_ok {start rule : List Int} {size many : Int} (hs : 0 < size) (h : Nums size start) : Nums size (made start rule size many) := (more_ok hs _ h).take _
/-- one number more, at a place -/
def bump (row : List Int) (at' size : Int) : List Int := row.take at'.toNat ++ [(row.getD at'.toNat 0 + 1) % size] ++ row.drop (at' + 1).toNat
theorem bump_len {row : List Int} {at' size : Int} (h0 : 0 ≤ at') (h1 : at' < row.length) : (bump row at' size).length = row.length := by
  unfold bump
  simp
  omega
theorem bump_ok {row : List Int} {at' size : Int} (hs : 0 < size) (h : Nums size row) : Nums size (bump row at' size) := ((h.take _).app (Nums.one (emod_ok hs))).app (h.drop _)
def lawRow1 (number size most : Int) : List Int :=
  let rule := numbers (drawn number 1) size (number / 32 % 6)
  let row := numbers (drawn number 2) size (max (number % (most + 1)) rule.length)
  (if 0 < number / 192 % 3 then made (row.take rule.length) rule size (max (number % (most + 1)) rule.length) else row).take (number % (most + 1)).toNat
def lawRow (number size most : Int) : List Int :=
  if number / 576 % 3 = 0 ∧ 0 < number % (most + 1) then bump (lawRow1 number size most) (number / 1728 % (number % (most + 1))) size else lawRow1 number size most
theorem lawRow1_len {number size most : Int} (hm : 0 ≤ most) : (lawRow1 number size most).length = (number % (most + 1)).toNat := by
  unfold lawRow1
  simp only []
  rw [List.length_take]
  have h := emod_ok (x := number) (size := most + 1) (by omega)
  split
  · rw [made_len]
    omega
  · rw [numbers_len]
    omega
theorem lawRow1_ok {number size most : Int} (hs : 0 < size) : Nums size (lawRow1 number size most) := by
  unfold lawRow1
  simp only []
  refine Nums.take ?_ _
  split
  · exact made_ok hs ((numbers_ok hs).take _)
  · exact numbers_ok hs
theorem lawRow_len {number size most : Int} (hm : 0 ≤ most) : (lawRow number size most).length = (number % (most + 1)).toNat := by
  unfold lawRow
  split
  · rename_i h
    have h2 := emod_ok (x := number / 1728) h.2
    rw [bump_len h2.1 (by rw [lawRow1_len hm]; omega), lawRow1_len hm]
  · exact lawRow1_len hm
theorem lawRow_le {number size most : Int} (hm : 0 ≤ most) : ((lawRow number size most).length : Int) ≤ most := by
  rw [lawRow_len hm]
  have h := emod_ok (x := number) (size := most + 1) (by omega)
  omega
theorem lawRow_ok {number size most : Int} (hs : 0 < size) : Nums size (lawRow number size most) := by
  unfold lawRow
  split
  · exact bump_ok hs (lawRow1_ok hs)
  · exact lawRow1_ok hs
/-! ### is a row; goes -/
def isNum (d : PySem.PyData) (low high : Int) : Bool := match d with
  | .int i => decide (low ≤ i) && decide (i ≤ high)
  | _ => false
def goesAt (row rule : List Int) (size : Int) (at' : Nat) : Bool := decide (row.getD at' 0 = nextBy (row.take at') rule size)
def goes (row rule : List Int) (size : Int) : Bool := (List.range ((row.length : Int) - (rule.length : Int)).toNat).all fun i => goesAt row rule size (rule.length + i)
end M
namespace M
open EY
/-- _law_is_row -/
def isRow (d : PySem.PyData) (size : Int) : Bool := match d with
  | .tuple xs => decide (xs.length ≤ 30) && xs.all fun x => isNum x 0 (size - 1)
  | _ => false
end M
namespace M
theorem all_congr {α : Type} {l : List α} {p q : α → Bool} (h : ∀ a ∈ l, p a = q a) : l.all p = l.all q := by
  induction l with
  | nil => rfl
  | cons a l ih =>
    rw [List.all_cons, List.all_cons, h a (List.mem_cons_self ..), ih fun b hb => h b (List.mem_cons_of_mem _ hb)]
end M
namespace M
open EY L2
/-- the clock that a number draws -/
def clock (m : Int) : Int := ([2, 3, 5, 7, 11, 13] : List Int).getD (m % 6).toNat 0
theorem clock_at (m : Int) : atI ([2, 3, 5, 7, 11, 13] : List Int) (m % 6) = some (clock m) := by
  have h := emod_ok (x := m) (size := 6) (by decide)
  exact atI_nth h.1 (by show m % 6 < 6; exact h.2)
theorem clock_size (m : Int) : Size (clock m) := by
  have h := emod_ok (x := m) (size := 6) (by decide)
  unfold clock Size
  have e : (m % 6).toNat = 0 ∨ (m % 6).toNat = 1 ∨ (m % 6).toNat = 2 ∨ (m % 6).toNat = 3 ∨ (m % 6).toNat = 4 ∨ (m % 6).toNat = 5 := by omega
  rcases e with e | e | e | e | e | e <;> rw [e] <;> decide
theorem atI_pair (a b : Int) (k : Bool) : atI [a, b] (b2z k) = some (if k then b else a) := by cases k <;> rfl
theorem isRow_nums {ns : List Int} {size : Int} (h : Nums size ns) (hl : ns.length ≤ 30) : isRow (tupI ns) size = true := by
  show (decide ((ns.map PySem.PyData.int).length ≤ 30) && _) = true
  rw [List.length_map, decide_eq_true hl, Bool.true_and, List.all_eq_true]
  intro x hx
  obtain ⟨n, hn, rfl⟩ := List.mem_map.mp hx
  have := h n hn
  show (decide (0 ≤ n) && decide (n ≤ size - 1)) = true
  rw [decide_eq_true this.1, decide_eq_true (by omega)]
  rfl
theorem made_more {row rule : List Int} {size : Int} {n : Nat} : made row rule size ((row.length : Int) + (n : Int)) = more rule size n row := by
  unfold made
  have e : ((row.length : Int) + (n : Int)).toNat = row.length + n := by omega
  rw [e, show row.length + n - row.length = n by omega, List.take_of_length_le (by rw [more_len]; omega)]
end M
set_option autoImplicit false
set_option maxHeartbeats 1000000
/-! sums; the numbers of a clock as a field -/
namespace M
open Lean.Grind
section
variable {F : Type} [CommRing F]
/-- f 0 + .. + f (n - 1) -/
def sm : Nat → (Nat → F) → F
  | 0, _ => 0
  | n + 1, f => sm n f + f n
theorem sm_zero (f : Nat → F) : sm 0 f = 0 := rfl
theorem sm_succ (n : Nat) (f : Nat → F) : sm (n + 1) f = sm n f + f n := rfl
theorem sm_congr {n : Nat} {f g : Nat → F} (h : ∀ i, i < n → f i = g i) : sm n f = sm n g := by
  induction n with
  | zero => rfl
  | succ n ih => rw [sm_succ, sm_succ, ih fun i hi => h i (by omega), h n (by omega)]
theorem sm_add (n : Nat) (f g : Nat → F) : sm n (fun i => f i + g i) = sm n f + sm n g := by
  induction n with
  | zero => simp only [sm_zero]; grind
  | succ n ih => rw [sm_succ, sm_succ, sm_succ, ih]; grind
theorem sm_sub (n : Nat) (f g : Nat → F) : sm n (fun i => f i - g i) = sm n f - sm n g := by
  induction n with
  | zero => simp only [sm_zero]; grind
  | succ n ih => rw [sm_succ, sm_succ, sm_succ, ih]; grind
theorem sm_neg (n : Nat) (f : Nat → F) : sm n (fun i => -f i) = -sm n f := by
  induction n with
  | zero => simp only [sm_zero]; grind
  | succ n ih => rw [sm_succ, sm_succ, ih]; grind
theorem sm_mul (n : Nat) (c : F) (f : Nat → F) : sm n (fun i => c * f i) = c * sm n f := by
  induction n with
  | zero => simp only [sm_zero]; grind
  | succ n ih => rw [sm_succ, sm_succ, ih]; grind
theorem sm_mulR (n : Nat) (c : F) (f : Nat → F) : sm n (fun i => f i * c) = sm n f * c := by
  induction n with
  | zero => simp only [sm_zero]; grind
  | succ n ih => rw [sm_succ, sm_succ, ih]; grind
theorem sm_none (n : Nat) : sm n (fun _ => (0 : F)) = 0 := by
  induction n with
  | zero => rfl
  | succ n ih => rw [sm_succ, ih]; grind
theorem sm_nil {n : Nat} {f : Nat → F} (h : ∀ i, i < n → f i = 0) : sm n f = 0 := (sm_congr h).trans (sm_none n)
/-- the first one apart -/
theorem sm_first (n : Nat) (f : Nat → F) : sm (n + 1) f = f 0 + sm n (fun i => f (i + 1)) := by
  induction n with
  | zero => simp only [sm_succ, sm_zero]; grind
  | succ n ih => rw [sm_succ, ih, sm_succ]; grind
theorem sm_split (n m : Nat) (f : Nat → F) : sm (n + m) f = sm n f + sm m (fun i => f (n + i)) := by
  induction m with
  | zero => simp only [sm_zero, Nat.add_zero]; grind
  | succ m ih => rw [← Nat.add_assoc, sm_succ, ih, sm_succ]; grind
theorem sm_comm (n m : Nat) (f : Nat → Nat → F) : sm n (fun i => sm m (fun j => f i j)) = sm m (fun j => sm n (fun i => f i j)) := by
  induction n with
  | zero => simp only [sm_zero]; rw [sm_none]
  | succ n ih => simp only [sm_succ]; rw [ih, sm_add]
/-- one alone -/
theorem sm_one {n k : Nat} (hk : k < n) (f : Nat → F) (h : ∀ i, i < n → i ≠ k → f i = 0) : sm n f = f k := by
  induction n with
  | zero => omega
  | succ n ih =>
    rw [sm_succ]
    by_cases e : k = n
    · subst e
      rw [sm_nil fun i hi => h i (by omega) (by omega)]
      grind
    · rw [ih (by omega) fun i hi hne => h i (by omega) hne, h n (by omega) (fun q => e q.symm)]
      grind
theorem sm_rev (n : Nat) (f : Nat → F) : sm n f = sm n (fun i => f (n - 1 - i)) := by
  induction n with
  | zero => rfl
  | succ n ih =>
    rw [sm_first n (fun i => f (n + 1 - 1 - i)), sm_succ, ih]
    have : sm n (fun i => f (n - 1 - i)) = sm n (fun i => f (n + 1 - 1 - (i + 1))) := sm_congr fun i hi => by
      congr 1
      omega
    rw [this]
    have e : n + 1 - 1 - 0 = n := by omega
    rw [e]
    grind
end
/-! ### the field of a clock -/
structure Zp (p : Nat) where
  v : Fin p
theorem Zp.ext {p : Nat} : ∀ {a b : Zp p}, a.v = b.v → a = b
  | ⟨_⟩, ⟨_⟩, rfl => rfl
/-- a clock's size: it has no divisors -/
class Pr (p : Nat) : Prop where
  two : 2 ≤ p
  inv : ∀ a : Fin p, a.val ≠ 0 → ∃ b : Fin p, a.val * b.val % p = 1
section
variable {p : Nat} [h : Pr p]
theorem Pr.pos : 0 < p := by have := h.two; omega
def Zp.of (p : Nat) [h : Pr p] (n : Int) : Zp p := ⟨⟨(n % (p : Int)).toNat, by
  have h0 := h.two
  have h1 := Int.emod_nonneg n (show (p : Int) ≠ 0 by omega)
  have h2 := Int.emod_lt_of_pos n (show 0 < (p : Int) by omega)
  omega⟩⟩
def Zp.int (a : Zp p) : Int := (a.v.val : Int)
theorem Zp.int_of (n : Int) : (Zp.of p n).int = n % (p : Int) := by
  have h0 := h.two
  have h1 := Int.emod_nonneg n (show (p : Int) ≠ 0 by omega)
  show (((n % (p : Int)).toNat : Nat) : Int) = _
  omega
theorem Zp.int_inj {a b : Zp p} (e : a.int = b.int) : a = b := Zp.ext (Fin.ext (by
  have e' : ((a.v.val : Nat) : Int) = ((b.v.val : Nat) : Int) := e
  omega))
theorem Zp.of_int (a : Zp p) : Zp.of p a.int = a := Zp.int_inj (by
  rw [Zp.int_of]
  have := a.v.isLt
  show ((a.v.val : Nat) : Int) % (p : Int) = (a.v.val : Int)
  exact Int.emod_eq_of_lt (by omega) (by omega))
theorem Zp.of_eq {m n : Int} : Zp.of p m = Zp.of p n ↔ m % (p : Int) = n % (p : Int) := by
  constructor
  · intro e
    have := congrArg Zp.int e
    rwa [Zp.int_of, Zp.int_of] at this
  · intro e
    exact Zp.int_inj (by rw [Zp.int_of, Zp.int_of, e])
theorem Zp.of_mod (n : Int) : Zp.of p (n % (p : Int)) = Zp.of p n := Zp.of_eq.mpr (Int.emod_emod_of_dvd n (Int.dvd_refl _))
instance : Add (Zp p) := ⟨fun a b => Zp.of p (a.int + b.int)⟩
instance : Mul (Zp p) := ⟨fun a b => Zp.of p (a.int * b.int)⟩
instance : Neg (Zp p) := ⟨fun a => Zp.of p (-a.int)⟩
instance : Sub (Zp p) := ⟨fun a b => Zp.of p (a.int - b.int)⟩
instance : NatCast (Zp p) := ⟨fun n => Zp.of p (n : Int)⟩
instance : IntCast (Zp p) := ⟨fun n => Zp.of p n⟩
instance (n : Nat) : OfNat (Zp p) n := ⟨Zp.of p (n : Int)⟩
instance : SMul Nat (Zp p) := ⟨fun n a => (n : Zp p) * a⟩
instance : SMul Int (Zp p) := ⟨fun n a => (n : Zp p) * a⟩
def Zp.npow (a : Zp p) : Nat → Zp p
  | 0 => 1
  | n + 1 => Zp.npow a n * a
instance : HPow (Zp p) Nat (Zp p) := ⟨Zp.npow⟩
theorem Zp.of_add (m n : Int) : Zp.of p (m + n) = Zp.of p m + Zp.of p n := by
  show _ = Zp.of p (_ + _)
  rw [Zp.int_of, Zp.int_of]
  exact Zp.of_eq.mpr (by rw [← Int.add_emod])
theorem Zp.of_mul (m n : Int) : Zp.of p (m * n) = Zp.of p m * Zp.of p n := by
  show _ = Zp.of p (_ * _)
  rw [Zp.int_of, Zp.int_of]
  exact Zp.of_eq.mpr (by rw [← Int.mul_emod])
theorem Zp.of_sub (m n : Int) : Zp.of p (m - n) = Zp.of p m - Zp.of p n := by
  show _ = Zp.of p (_ - _)
  rw [Zp.int_of, Zp.int_of]
  exact Zp.of_eq.mpr (by rw [← Int.sub_emod])
theorem Zp.of_neg (m : Int) : Zp.of p (-m) = -Zp.of p m := by
  show _ = Zp.of p (-_)
  rw [Zp.int_of]
  refine Zp.of_eq.mpr ?_
  rw [← Int.zero_sub, ← Int.zero_sub (m % (p : Int)), Int.sub_emod, Int.sub_emod 0 (m % (p : Int)), Int.emod_emod_of_dvd m (Int.dvd_refl _)]
theorem Zp.ex (a : Zp p) : ∃ n : Int, a = Zp.of p n := ⟨a.int, (Zp.of_int a).symm⟩
theorem Zp.zero_def : (0 : Zp p) = Zp.of p 0 := rfl
theorem Zp.one_def : (1 : Zp p) = Zp.of p 1 := rfl
theorem Zp.mul_comm' (a b : Zp p) : a * b = b * a := by
  show Zp.of p _ = Zp.of p _
  rw [Int.mul_comm]
instance : Semiring (Zp p) where
  add_zero := fun a => by
    obtain ⟨n, rfl⟩ := Zp.ex a
    rw [Zp.zero_def, ← Zp.of_add, Int.add_zero]
  add_comm := fun a b => by
    show Zp.of p _ = Zp.of p _
    rw [Int.add_comm]
  add_assoc := fun a b c => by
    obtain ⟨n, rfl⟩ := Zp.ex a
    obtain ⟨m, rfl⟩ := Zp.ex b
    obtain ⟨l, rfl⟩ := Zp.ex c
    rw [← Zp.of_add, ← Zp.of_add, ← Zp.of_add, ← Zp.of_add, Int.add_assoc]
  mul_assoc := fun a b c => by
    obtain ⟨n, rfl⟩ := Zp.ex a
    obtain ⟨m, rfl⟩ := Zp.ex b
    obtain ⟨l, rfl⟩ := Zp.ex c
    rw [← Zp.of_mul, ← Zp.of_mul, ← Zp.of_mul, ← Zp.of_mul, Int.mul_assoc]
  mul_one := fun a => by
    obtain ⟨n, rfl⟩ := Zp.ex a
    rw [Zp.one_def, ← Zp.of_mul, Int.mul_one]
  one_mul := fun a => by
    obtain ⟨n, rfl⟩ := Zp.ex a
    rw [Zp.one_def, ← Zp.of_mul, Int.one_mul]
  left_distrib := fun a b c => by
    obtain ⟨n, rfl⟩ := Zp.ex a
    obtain ⟨m, rfl⟩ := Zp.ex b
    obtain ⟨l, rfl⟩ := Zp.ex c
    rw [← Zp.of_add, ← Zp.of_mul, ← Zp.of_mul, ← Zp.of_mul, ← Zp.of_add, Int.mul_add]
  right_distrib := fun a b c => by
    obtain ⟨n, rfl⟩ := Zp.ex a
    obtain ⟨m, rfl⟩ := Zp.ex b
    obtain ⟨l, rfl⟩ := Zp.ex c
    rw [← Zp.of_add, ← Zp.of_mul, ← Zp.of_mul, ← Zp.of_mul, ← Zp.of_add, Int.add_mul]
  zero_mul := fun a => by
    obtain ⟨n, rfl⟩ := Zp.ex a
    rw [Zp.zero_def, ← Zp.of_mul, Int.zero_mul]
  mul_zero := fun a => by
    obtain ⟨n, rfl⟩ := Zp.ex a
    rw [Zp.zero_def, ← Zp.of_mul, Int.mul_zero]
  pow_zero := fun a => rfl
  pow_succ := fun a n => rfl
  ofNat_succ := fun n => by
    show Zp.of p ((n + 1 : Nat) : Int) = Zp.of p _ + Zp.of p _
    rw [← Zp.of_add]
    rfl
instance : Ring (Zp p) where
  neg_add_cancel := fun a => by
    obtain ⟨n, rfl⟩ := Zp.ex a
    rw [← Zp.of_neg, ← Zp.of_add, Int.add_left_neg]
    rfl
  sub_eq_add_neg := fun a b => by
    obtain ⟨n, rfl⟩ := Zp.ex a
    obtain ⟨m, rfl⟩ := Zp.ex b
    rw [← Zp.of_neg, ← Zp.of_add, ← Zp.of_sub, Int.sub_eq_add_neg]
  neg_zsmul := fun i a => by
    obtain ⟨n, rfl⟩ := Zp.ex a
    show Zp.of p (-i) * Zp.of p n = -(Zp.of p i * Zp.of p n)
    rw [← Zp.of_mul, ← Zp.of_mul, ← Zp.of_neg, Int.neg_mul]
  intCast_neg := fun i => Zp.of_neg i
instance : CommRing (Zp p) where
  mul_comm := Zp.mul_comm'
theorem Zp.of_zero {n : Int} : Zp.of p n = 0 ↔ n % (p : Int) = 0 := by
  rw [Zp.zero_def, Zp.of_eq]
  simp
theorem Zp.inv_ex (a : Zp p) (ha : a ≠ 0) : ∃ b : Zp p, a * b = 1 := by
  have hv : a.v.val ≠ 0 := fun e => ha (Zp.int_inj (by
    rw [Zp.zero_def, Zp.int_of]
    show ((a.v.val : Nat) : Int) = _
    rw [e]
    simp))
  obtain ⟨b, hb⟩ := h.inv a.v hv
  refine ⟨⟨b⟩, ?_⟩
  show Zp.of p (((a.v.val : Nat) : Int) * ((b.val : Nat) : Int)) = Zp.of p 1
  refine Zp.of_eq.mpr ?_
  have h0 := h.two
  rw [← Int.natCast_mul]
  have e1 : (1 : Int) % (p : Int) = 1 := Int.emod_eq_of_lt (by omega) (by omega)
  rw [e1, ← Int.natCast_emod, hb]
  rfl
open Classical in
noncomputable def Zp.inv (a : Zp p) : Zp p := if h : a ≠ 0 then Classical.choose (Zp.inv_ex a h) else 0
noncomputable instance : Inv (Zp p) := ⟨Zp.inv⟩
noncomputable instance : Div (Zp p) := ⟨fun a b => a * b⁻¹⟩
noncomputable instance : HPow (Zp p) Int (Zp p) := ⟨fun a n => match n with | .ofNat k => a ^ k | .negSucc k => (a ^ (k + 1))⁻¹⟩
theorem Zp.mul_inv {a : Zp p} (ha : a ≠ 0) : a * a⁻¹ = 1 := by
  show a * Zp.inv a = 1
  unfold Zp.inv
  rw [dif_pos ha]
  exact Classical.choose_spec (Zp.inv_ex a ha)
theorem Zp.inv_zero : (0 : Zp p)⁻¹ = 0 := by
  show Zp.inv 0 = 0
  unfold Zp.inv
  rw [dif_neg (fun h => h rfl)]
theorem Zp.one_ne : (0 : Zp p) ≠ 1 := fun e => by
  have e' := congrArg Zp.int e
  rw [Zp.zero_def, Zp.one_def, Zp.int_of, Zp.int_of] at e'
  have h0 := h.two
  rw [Int.emod_eq_of_lt (by omega) (by omega), Int.emod_eq_of_lt (by omega) (by omega)] at e'
  omega
theorem Zp.inv_uniq {a b : Zp p} (e : a * b = 1) : a⁻¹ = b := by
  have ha : a ≠ 0 := fun z => Zp.one_ne (by rw [← e, z]; exact (Semiring.zero_mul b).symm)
  have := Zp.mul_inv ha
  grind
theorem Zp.inv_inv (a : Zp p) : a⁻¹⁻¹ = a := by
  by_cases ha : a = 0
  · rw [ha, Zp.inv_zero, Zp.inv_zero]
  · exact Zp.inv_uniq (by rw [Zp.mul_comm']; exact Zp.mul_inv ha)
noncomputable instance : Field (Zp p) where
  div_eq_mul_inv := fun a b => rfl
  zero_ne_one := Zp.one_ne
  inv_zero := Zp.inv_zero
  mul_inv_cancel := Zp.mul_inv
  zpow_zero := fun a => rfl
  zpow_succ := fun a n => rfl
  zpow_neg := fun a n => by
    cases n with
    | ofNat k =>
      cases k with
      | zero =>
        show (1 : Zp p) = (1 : Zp p)⁻¹
        exact (Zp.inv_uniq (Semiring.mul_one 1)).symm
      | succ k => rfl
    | negSucc k =>
      show a ^ (k + 1) = ((a ^ (k + 1))⁻¹)⁻¹
      exact (Zp.inv_inv _).symm
end
theorem pr2 : Pr 2 := ⟨by decide, by decide⟩
theorem pr3 : Pr 3 := ⟨by decide, by decide⟩
theorem pr5 : Pr 5 := ⟨by decide, by decide⟩
theorem pr7 : Pr 7 := ⟨by decide, by decide⟩
theorem pr11 : Pr 11 := ⟨by decide, by decide +kernel⟩
theorem pr13 : Pr 13 := ⟨by decide, by decide +kernel⟩
theorem Size.pr {s : Int} (h : Size s) : ∃ p : Nat, Pr p ∧ s = (p : Int) := by
  rcases h with h | h | h | h | h | h
  · exact ⟨2, pr2, h⟩
  · exact ⟨3, pr3, h⟩
  · exact ⟨5, pr5, h⟩
  · exact ⟨7, pr7, h⟩
  · exact ⟨11, pr11, h⟩
  · exact ⟨13, pr13, h⟩
end M
set_option autoImplicit false
set_option maxHeartbeats 1000000
/-! rows as sequences over the clock's field -/
namespace M
open Lean.Grind
section
variable {p : Nat} [h : Pr p]
/-- a row as a sequence -/
def sq (p : Nat) [Pr p] (row : List Int) : Nat → Zp p := fun i => Zp.of p (row.getD i 0)
theorem of_sum (n : Nat) (f : Nat → Int) : Zp.of p (((List.range n).map f).sum) = sm n (fun i => Zp.of p (f i)) := by
  induction n with
  | zero => rfl
  | succ n ih =>
    rw [List.range_succ, List.map_append, List.sum_append, Zp.of_add, ih, sm_succ]
    simp
theorem of_inj {a b : Int} (ha : 0 ≤ a ∧ a < (p : Int)) (hb : 0 ≤ b ∧ b < (p : Int)) (e : Zp.of p a = Zp.of p b) : a = b := by
  have := Zp.of_eq.mp e
  rwa [Int.emod_eq_of_lt ha.1 ha.2, Int.emod_eq_of_lt hb.1 hb.2] at this
theorem of_next (row rule : List Int) : Zp.of p (nextBy row rule (p : Int)) = sm rule.length (fun j => sq p rule j * sq p row (row.length - 1 - j)) := by
  unfold nextBy
  rw [Zp.of_mod, of_sum]
  exact sm_congr fun i hi => Zp.of_mul _ _
theorem getD_app_left {a b : List Int} {i : Nat} (h : i < a.length) : (a ++ b).getD i 0 = a.getD i 0 := by
  rw [List.getD_eq_getElem?_getD, List.getD_eq_getElem?_getD, List.getElem?_append_left h]
theorem getD_app_right {a b : List Int} {i : Nat} (h : a.length ≤ i) : (a ++ b).getD i 0 = b.getD (i - a.length) 0 := by
  rw [List.getD_eq_getElem?_getD, List.getD_eq_getElem?_getD, List.getElem?_append_right h]
theorem getD_take {a : List Int} {i n : Nat} (h : i < n) : (a.take n).getD i 0 = a.getD i 0 := by
  rw [List.getD_eq_getElem?_getD, List.getD_eq_getElem?_getD, List.getElem?_take_of_lt h]
theorem getD_drop (a : List Int) (i n : Nat) : (a.drop n).getD i 0 = a.getD (n + i) 0 := by
  rw [List.getD_eq_getElem?_getD, List.getD_eq_getElem?_getD, List.getElem?_drop]
theorem getD_map_range {n i : Nat} (f : Nat → Int) (h : i < n) : ((List.range n).map f).getD i 0 = f i := by
  rw [List.getD_eq_getElem?_getD, List.getElem?_map, List.getElem?_range h]
  rfl
theorem getD_out {a : List Int} {i : Nat} (h : a.length ≤ i) : a.getD i 0 = 0 := by
  rw [List.getD_eq_getElem?_getD, List.getElem?_eq_none h]
  rfl
theorem list_ext {a b : List Int} (hl : a.length = b.length) (h : ∀ i, i < a.length → a.getD i 0 = b.getD i 0) : a = b := by
  apply List.ext_getElem hl
  intro i h1 h2
  have := h i h1
  rwa [List.getD_eq_getElem?_getD, List.getD_eq_getElem?_getD, List.getElem?_eq_getElem h1, List.getElem?_eq_getElem h2] at this
/-- rows are equal if their sequences are -/
theorem row_ext {a b : List Int} (ha : Nums (p : Int) a) (hb : Nums (p : Int) b) (hl : a.length = b.length) (e : ∀ i, i < a.length → sq p a i = sq p b i) : a = b := by
  have hp : 0 < (p : Int) := by have := h.two; omega
  exact list_ext hl fun i hi => of_inj (ha.get hp i) (hb.get hp i) (e i hi)
end
section
variable {F : Type} [CommRing F]
/-- the first n of s go by c of reach L -/
def Gs (s : Nat → F) (n : Nat) (c : Nat → F) (L : Nat) : Prop := ∀ k, L ≤ k → k < n → s k = sm L (fun j => c j * s (k - 1 - j))
theorem Gs.less {s : Nat → F} {n m : Nat} {c : Nat → F} {L : Nat} (g : Gs s n c L) (h : m ≤ n) : Gs s m c L := fun k h1 h2 => g k h1 (by omega)
theorem Gs.shift {s : Nat → F} {n m : Nat} {c : Nat → F} {L : Nat} (g : Gs s n c L) (a : Nat) (h : a + m ≤ n) : Gs (fun i => s (a + i)) m c L := fun k h1 h2 => by
  have := g (a + k) (by omega) (by omega)
  show s (a + k) = sm L (fun j => c j * s (a + (k - 1 - j)))
  rw [this]
  exact sm_congr fun j hj => by
    have e : a + k - 1 - j = a + (k - 1 - j) := by omega
    rw [e]
theorem Gs.add {s t : Nat → F} {n : Nat} {c : Nat → F} {L : Nat} (g : Gs s n c L) (g' : Gs t n c L) : Gs (fun i => s i + t i) n c L := fun k h1 h2 => by
  show s k + t k = _
  rw [g k h1 h2, g' k h1 h2, ← sm_add]
  exact sm_congr fun j hj => by grind
theorem Gs.mul {s : Nat → F} {n : Nat} {c : Nat → F} {L : Nat} (a : F) (g : Gs s n c L) : Gs (fun i => a * s i) n c L := fun k h1 h2 => by
  show a * s k = _
  rw [g k h1 h2, ← sm_mul]
  exact sm_congr fun j hj => by grind
theorem Gs.congr {s t : Nat → F} {n : Nat} {c d : Nat → F} {L : Nat} (g : Gs s n c L) (h : ∀ i, i < n → s i = t i) (h' : ∀ j, j < L → c j = d j) : Gs t n d L := fun k h1 h2 => by
  rw [← h k h2, g k h1 h2]
  exact sm_congr fun j hj => by rw [h (k - 1 - j) (by omega), h' j hj]
/-- noughts behind the rule -/
theorem Gs.pad {s : Nat → F} {n : Nat} {c : Nat → F} {L M : Nat} (g : Gs s n c L) (h : L ≤ M) (hz : ∀ j, L ≤ j → j < M → c j = 0) : Gs s n c M := fun k h1 h2 => by
  rw [g k (by omega) h2]
  obtain ⟨d, rfl⟩ : ∃ d, M = L + d := ⟨M - L, by omega⟩
  rw [sm_split]
  have : sm d (fun i => c (L + i) * s (k - 1 - (L + i))) = 0 := sm_nil fun i hi => by rw [hz (L + i) (by omega) (by omega)]; grind
  rw [this]
  grind
end
section
variable {p : Nat} [h : Pr p]
theorem pos_of (p : Nat) [h : Pr p] : 0 < (p : Int) := by have := h.two; omega
theorem goesAt_iff {row rule : List Int} (hr : Nums (p : Int) row) {k : Nat} (h1 : rule.length ≤ k) (h2 : k < row.length) :
    goesAt row rule (p : Int) k = true ↔ sq p row k = sm rule.length (fun j => sq p rule j * sq p row (k - 1 - j)) := by
  unfold goesAt
  rw [decide_eq_true_iff]
  have e : sm rule.length (fun j => sq p rule j * sq p row (k - 1 - j)) = Zp.of p (nextBy (row.take k) rule (p : Int)) := by
    rw [of_next]
    refine sm_congr fun j hj => ?_
    have e1 : (row.take k).length = k := by rw [List.length_take]; omega
    rw [e1]
    show _ = sq p rule j * Zp.of p ((row.take k).getD (k - 1 - j) 0)
    rw [getD_take (by omega)]
    rfl
  rw [e]
  constructor
  · intro q
    show Zp.of p _ = _
    rw [q]
  · intro q
    exact of_inj (hr.get (pos_of p) k) (nextBy_ok (pos_of p)) q
theorem goes_iff {row rule : List Int} (hr : Nums (p : Int) row) : goes row rule (p : Int) = true ↔ Gs (sq p row) row.length (sq p rule) rule.length := by
  unfold goes
  rw [List.all_eq_true]
  constructor
  · intro q k h1 h2
    have := q (k - rule.length) (List.mem_range.mpr (by omega))
    rw [show rule.length + (k - rule.length) = k by omega] at this
    exact (goesAt_iff hr h1 h2).mp this
  · intro q i hi
    have hi := List.mem_range.mp hi
    exact (goesAt_iff hr (by omega) (by omega)).mpr (q _ (by omega) (by omega))
/-! ### rows led on -/
theorem more_take (rule : List Int) (size : Int) : ∀ (n : Nat) (row : List Int), (more rule size n row).take row.length = row
  | 0, row => List.take_length
  | n + 1, row => by
    rw [more]
    have := more_take rule size n (row ++ [nextBy row rule size])
    have e : ((more rule size n (row ++ [nextBy row rule size])).take (row ++ [nextBy row rule size]).length).take row.length = row := by
      rw [this, List.take_left]
    rw [List.take_take] at e
    rwa [Nat.min_eq_left (by simp)] at e
theorem more_left (rule : List Int) (size : Int) (n : Nat) (row : List Int) {i : Nat} (hi : i < row.length) : (more rule size n row).getD i 0 = row.getD i 0 := by
  rw [← getD_take hi, more_take]
theorem more_add (rule : List Int) (size : Int) : ∀ (a b : Nat) (row : List Int), more rule size (a + b) row = more rule size b (more rule size a row)
  | 0, b, row => by rw [Nat.zero_add]; rfl
  | a + 1, b, row => by
    rw [show a + 1 + b = (a + b) + 1 by omega, more, more_add rule size a b, more]
theorem more_next (rule : List Int) : ∀ (n : Nat) (row : List Int), rule.length ≤ row.length → ∀ k, row.length ≤ k → k < row.length + n →
    sq p (more rule (p : Int) n row) k = sm rule.length (fun j => sq p rule j * sq p (more rule (p : Int) n row) (k - 1 - j))
  | 0, row, _, k, h1, h2 => by omega
  | n + 1, row, hl, k, h1, h2 => by
    have hl2 := more_len rule (p : Int) n row
    have e : ∀ i, i < row.length + n → sq p (more rule (p : Int) (n + 1) row) i = sq p (more rule (p : Int) n row) i := fun i hi => by
      show Zp.of p _ = Zp.of p _
      rw [more_succ, getD_app_left (by omega)]
    by_cases q : k < row.length + n
    · rw [e k q, more_next rule n row hl k h1 q]
      exact sm_congr fun j hj => by rw [e (k - 1 - j) (by omega)]
    · have ek : k = row.length + n := by omega
      subst ek
      have : sq p (more rule (p : Int) (n + 1) row) (row.length + n) = Zp.of p (nextBy (more rule (p : Int) n row) rule (p : Int)) := by
        show Zp.of p _ = _
        rw [more_succ, getD_app_right (by omega), hl2, Nat.sub_self]
        rfl
      rw [this, of_next, hl2]
      exact sm_congr fun j hj => by rw [e _ (by omega)]
theorem more_goes {rule row : List Int} {n : Nat} (hr : Nums (p : Int) row) (hl : row.length = rule.length) : Gs (sq p (more rule (p : Int) n row)) (row.length + n) (sq p rule) rule.length := fun k h1 h2 =>
  more_next rule n row (by omega) k (by omega) h2
/-- there is one way to go on -/
theorem more_uniq {rule row whole : List Int} {n : Nat} (hw : Nums (p : Int) whole) (hr : Nums (p : Int) row) (hl : rule.length ≤ row.length) (hlen : whole.length = row.length + n) (h0 : ∀ i, i < row.length → sq p whole i = sq p row i)
    (h1 : ∀ k, row.length ≤ k → k < row.length + n → sq p whole k = sm rule.length (fun j => sq p rule j * sq p whole (k - 1 - j))) : whole = more rule (p : Int) n row := by
  refine row_ext hw (more_ok (pos_of p) n hr) (by rw [hlen, more_len]) fun i hi => ?_
  have aux : ∀ m i, i < m → i < row.length + n → sq p whole i = sq p (more rule (p : Int) n row) i := by
    intro m
    induction m with
    | zero => intro i h; omega
    | succ m ih =>
      intro i hi hin
      by_cases q : i < row.length
      · rw [h0 i q]
        show Zp.of p _ = Zp.of p _
        rw [more_left rule _ n row q]
      · rw [h1 i (by omega) hin, more_next rule n row hl i (by omega) hin]
        exact sm_congr fun j hj => by rw [ih (i - 1 - j) (by omega) (by omega)]
  exact aux (i + 1) i (by omega) (by omega)
/-! ### rows added, taken so often -/
def addR (a b : List Int) (size : Int) : List Int := (List.range (min a.length b.length)).map fun i => (a.getD i 0 + b.getD i 0) % size
def scaleR (k : Int) (a : List Int) (size : Int) : List Int := (List.range a.length).map fun i => k * a.getD i 0 % size
theorem addR_len (a b : List Int) (size : Int) : (addR a b size).length = min a.length b.length := by simp [addR]
theorem scaleR_len (k : Int) (a : List Int) (size : Int) : (scaleR k a size).length = a.length := by simp [scaleR]
theorem addR_ok {a b : List Int} {size : Int} (hs : 0 < size) : Nums size (addR a b size) := fun x hx => by
  obtain ⟨i, _, rfl⟩ := List.mem_map.mp hx
  exact emod_ok hs
theorem scaleR_ok {k : Int} {a : List Int} {size : Int} (hs : 0 < size) : Nums size (scaleR k a size) := fun x hx => by
  obtain ⟨i, _, rfl⟩ := List.mem_map.mp hx
  exact emod_ok hs
theorem sq_addR {a b : List Int} {i : Nat} (h : i < min a.length b.length) : sq p (addR a b (p : Int)) i = sq p a i + sq p b i := by
  show Zp.of p _ = _
  unfold addR
  rw [getD_map_range _ h, Zp.of_mod, Zp.of_add]
  rfl
theorem sq_scaleR {k : Int} {a : List Int} {i : Nat} (h : i < a.length) : sq p (scaleR k a (p : Int)) i = Zp.of p k * sq p a i := by
  show Zp.of p _ = _
  unfold scaleR
  rw [getD_map_range _ h, Zp.of_mod, Zp.of_mul]
  rfl
theorem more_addR {rule one two : List Int} {n : Nat} (h1 : Nums (p : Int) one) (h2 : Nums (p : Int) two) (l1 : one.length = rule.length) (l2 : two.length = rule.length) :
    addR (more rule (p : Int) n one) (more rule (p : Int) n two) (p : Int) = more rule (p : Int) n (addR one two (p : Int)) := by
  have e1 := more_len rule (p : Int) n one
  have e2 := more_len rule (p : Int) n two
  have e3 := addR_len one two (p : Int)
  refine more_uniq (addR_ok (pos_of p)) (addR_ok (pos_of p)) (by omega) (by rw [addR_len]; omega) (fun i hi => ?_) (fun k hk1 hk2 => ?_)
  · rw [sq_addR (by omega), sq_addR (by omega)]
    show Zp.of p _ + Zp.of p _ = Zp.of p _ + Zp.of p _
    rw [more_left _ _ _ _ (by omega), more_left _ _ _ _ (by omega)]
  · rw [sq_addR (by omega), more_goes h1 l1 k (by omega) (by omega), more_goes h2 l2 k (by omega) (by omega), ← sm_add]
    exact sm_congr fun j hj => by rw [sq_addR (by omega)]; grind
theorem more_scaleR {rule one : List Int} {n : Nat} {a : Int} (h1 : Nums (p : Int) one) (l1 : one.length = rule.length) : scaleR a (more rule (p : Int) n one) (p : Int) = more rule (p : Int) n (scaleR a one (p : Int)) := by
  have e1 := more_len rule (p : Int) n one
  have e3 := scaleR_len a one (p : Int)
  refine more_uniq (scaleR_ok (pos_of p)) (scaleR_ok (pos_of p)) (by omega) (by rw [scaleR_len]; omega) (fun i hi => ?_) (fun k hk1 hk2 => ?_)
  · rw [sq_scaleR (by omega), sq_scaleR (by omega)]
    show _ * Zp.of p _ = _ * Zp.of p _
    rw [more_left _ _ _ _ (by omega)]
  · rw [sq_scaleR (by omega), more_goes h1 l1 k (by omega) (by omega), ← sm_mul]
    exact sm_congr fun j hj => by rw [sq_scaleR (by omega)]; grind
theorem goes_more {rule one : List Int} {n : Nat} (h1 : Nums (p : Int) one) (l1 : one.length = rule.length) : goes (more rule (p : Int) n one) rule (p : Int) = true :=
  (goes_iff (more_ok (pos_of p) n h1)).mpr (by rw [more_len]; exact more_goes h1 l1)
theorem goes_pad {rule row : List Int} (hr : Nums (p : Int) row) (g : goes row rule (p : Int) = true) : goes row (rule ++ [0]) (p : Int) = true := by
  refine (goes_iff hr).mpr ?_
  rw [List.length_append, List.length_singleton]
  have g' := (goes_iff hr).mp g
  have g2 : Gs (sq p row) row.length (sq p (rule ++ [0])) rule.length := g'.congr (fun _ _ => rfl) fun j hj => by
    show Zp.of p _ = Zp.of p _
    rw [getD_app_left hj]
  refine g2.pad (by omega) fun j h1 h2 => ?_
  show Zp.of p _ = 0
  rw [getD_app_right h1, show j - rule.length = 0 by omega]
  rfl
theorem goes_cut {rule row : List Int} {a m : Nat} (hr : Nums (p : Int) row) (g : goes row rule (p : Int) = true) : goes ((row.drop a).take m) rule (p : Int) = true := by
  refine (goes_iff ((hr.drop a).take m)).mpr ?_
  have g' := (goes_iff hr).mp g
  have hl : ((row.drop a).take m).length ≤ row.length - a := by rw [List.length_take, List.length_drop]; omega
  have hm : ((row.drop a).take m).length ≤ m := by rw [List.length_take]; omega
  by_cases hz : ((row.drop a).take m).length = 0
  · rw [hz]
    exact fun k h1 h2 => by omega
  · refine (g'.shift (m := ((row.drop a).take m).length) a (by omega)).congr (fun i hi => ?_) fun _ _ => rfl
    show Zp.of p _ = Zp.of p _
    rw [getD_take (by omega), getD_drop]
/-- a number changed behind the start -/
theorem goes_wrong {rule row : List Int} {k : Nat} (hr : Nums (p : Int) row) (g : goes row rule (p : Int) = true) (h1 : rule.length ≤ k) (h2 : k < row.length) : goes (row.take k ++ [(row.getD k 0 + 1) % (p : Int)]) rule (p : Int) = false := by
  have hl : (row.take k).length = k := by rw [List.length_take]; omega
  have hn : Nums (p : Int) (row.take k ++ [(row.getD k 0 + 1) % (p : Int)]) := (hr.take k).app (Nums.one (emod_ok (pos_of p)))
  refine Bool.eq_false_iff.mpr fun q => ?_
  have q' := (goes_iff hn).mp q
  rw [List.length_append, List.length_singleton, hl] at q'
  have e1 := q' k h1 (by omega)
  have e2 := (goes_iff hr).mp g k h1 h2
  have e3 : sq p (row.take k ++ [(row.getD k 0 + 1) % (p : Int)]) k = sq p row k + 1 := by
    show Zp.of p _ = Zp.of p _ + _
    rw [getD_app_right (by omega), hl, Nat.sub_self]
    show Zp.of p ((row.getD k 0 + 1) % (p : Int)) = _
    rw [Zp.of_mod, Zp.of_add]
    rfl
  have e4 : sm rule.length (fun j => sq p rule j * sq p (row.take k ++ [(row.getD k 0 + 1) % (p : Int)]) (k - 1 - j)) = sm rule.length (fun j => sq p rule j * sq p row (k - 1 - j)) := sm_congr fun j hj => by
    have : sq p (row.take k ++ [(row.getD k 0 + 1) % (p : Int)]) (k - 1 - j) = sq p row (k - 1 - j) := by
      show Zp.of p _ = Zp.of p _
      rw [getD_app_left (by omega), getD_take (by omega)]
    rw [this]
  rw [e3, e4, ← e2] at e1
  have := Field.zero_ne_one (α := Zp p)
  grind
theorem goes_self (row : List Int) (size : Int) : goes row row size = true := by
  unfold goes
  rw [Int.sub_self]
  rfl
end
end M
namespace M
theorem goes_zero (p : Nat) : goes (List.replicate (5 : Int).toNat [0]).flatten [] (p : Int) = true := by
  have e : ∀ k : Nat, goesAt [0, 0, 0, 0, 0] [] (p : Int) k = decide (([0, 0, 0, 0, 0] : List Int).getD k 0 = 0 % (p : Int)) := fun k => rfl
  show (List.range (((5 : Nat) : Int) - ((0 : Nat) : Int)).toNat).all (fun i => goesAt [0, 0, 0, 0, 0] [] (p : Int) (0 + i)) = true
  have z : (0 : Int) % (p : Int) = 0 := Int.zero_emod _
  show (List.range 5).all _ = true
  rw [List.all_eq_true]
  intro i hi
  have hi := List.mem_range.mp hi
  rw [e, z]
  rcases (by omega : i = 0 ∨ i = 1 ∨ i = 2 ∨ i = 3 ∨ i = 4) with h | h | h | h | h <;> subst h <;> rfl
end M
set_option autoImplicit false
set_option maxHeartbeats 1000000
/-! objects with int fields and one dict of data under int keys -/
namespace EY
open PySem PySem.Spec PyProof.Rows L2
/-- a dict's entries are this data -/
inductive DK (K : PySem.W.Frag) (D : Hp) : List (Key × V) → List (Int × PyData) → Prop where
  | nil : DK K D [] []
  | cons {k : Int} {v : V} {x : PyData} {kvs : List (Key × V)} {ms : List (Int × PyData)} : Dp K D v x → DK K D kvs ms → DK K D ((.inl k, v) :: kvs) ((k, x) :: ms)
theorem DK.mono {K : PySem.W.Frag} {D D2 : Hp} (e : Same D D2) {kvs : List (Key × V)} {ms : List (Int × PyData)} (h : DK K D kvs ms) : DK K D2 kvs ms := by
  induction h with
  | nil => exact .nil
  | cons h1 _ ih => exact .cons (dp_mono e _ _ h1) ih
theorem DK.len {K : PySem.W.Frag} {D : Hp} {kvs : List (Key × V)} {ms : List (Int × PyData)} (h : DK K D kvs ms) : kvs.length = ms.length := by
  induction h with
  | nil => rfl
  | cons _ _ ih => simp [ih]
theorem DK.keys {K : PySem.W.Frag} {D : Hp} {kvs : List (Key × V)} {ms : List (Int × PyData)} (h : DK K D kvs ms) : kvs.map (fun kv => kV kv.1) = ms.map fun m => V.int m.1 := by
  induction h with
  | nil => rfl
  | cons _ _ ih =>
    rw [List.map_cons, List.map_cons, ih]
    rfl
theorem DK.nth {K : PySem.W.Frag} {D : Hp} {kvs : List (Key × V)} {ms : List (Int × PyData)} (h : DK K D kvs ms) : ∀ {i : Nat} {k : Key} {v : V}, kvs[i]? = some (k, v) → ∃ m x, ms[i]? = some (m, x) ∧ k = .inl m ∧ Dp K D v x := by
  induction h with
  | nil => intro i k v e; simp at e
  | cons h1 _ ih =>
    intro i k v e
    cases i with
    | zero =>
      have := Option.some.inj e
      cases this
      exact ⟨_, _, rfl, rfl, h1⟩
    | succ i => exact ih e
theorem DK.get {K : PySem.W.Frag} {D : Hp} {kvs : List (Key × V)} {ms : List (Int × PyData)} (h : DK K D kvs ms) {k : Int} {x : PyData} (e : ms.lookup k = some x) : ∃ v, valV kvs (.inl k) = some v ∧ Dp K D v x := by
  induction h with
  | nil => cases e
  | cons h1 _ ih =>
    rename_i k' v' x' kvs' ms' _
    by_cases q : k = k'
    · subst q
      rw [List.lookup_cons_self] at e
      cases e
      exact ⟨v', valV_pos rfl, h1⟩
    · rw [List.lookup_cons, show (k == k') = false by simpa using q] at e
      obtain ⟨v, e1, e2⟩ := ih e
      refine ⟨v, ?_, e2⟩
      unfold valV at e1 ⊢
      rw [List.find?_cons]
      have : decide ((Sum.inl k' : Key) = Sum.inl k) = false := decide_eq_false (fun z => q (Sum.inl.inj z).symm)
      simp only [this]
      exact e1
def putM (ms : List (Int × PyData)) (k : Int) (x : PyData) : List (Int × PyData) :=
  if (ms.any fun m => decide (m.1 = k)) = true then ms.map (fun m => if m.1 = k then (m.1, x) else m) else ms ++ [(k, x)]
theorem DK.any {K : PySem.W.Frag} {D : Hp} {kvs : List (Key × V)} {ms : List (Int × PyData)} (h : DK K D kvs ms) (k : Int) : (kvs.any fun kv => decide (kv.1 = (.inl k : Key))) = ms.any fun m => decide (m.1 = k) := by
  induction h with
  | nil => rfl
  | cons _ _ ih =>
    rename_i k' v' x' kvs' ms' _ _
    rw [List.any_cons, List.any_cons, ih]
    congr 1
    by_cases q : k' = k
    · subst q; simp
    · rw [decide_eq_false q, decide_eq_false (fun z => q (Sum.inl.inj z))]
theorem DK.app {K : PySem.W.Frag} {D : Hp} {kvs : List (Key × V)} {ms : List (Int × PyData)} (h : DK K D kvs ms) {k : Int} {v : V} {x : PyData} (hv : Dp K D v x) : DK K D (kvs ++ [(.inl k, v)]) (ms ++ [(k, x)]) := by
  induction h with
  | nil => exact .cons hv .nil
  | cons h1 _ ih => exact .cons h1 ih
theorem DK.repl {K : PySem.W.Frag} {D : Hp} {kvs : List (Key × V)} {ms : List (Int × PyData)} (h : DK K D kvs ms) {k : Int} {v : V} {x : PyData} (hv : Dp K D v x) : DK K D (kvs.map fun kv => if kv.1 = (.inl k : Key) then (kv.1, v) else kv) (ms.map fun m => if m.1 = k then (m.1, x) else m) := by
  induction h with
  | nil => exact .nil
  | cons h1 _ ih =>
    rename_i k' v' x' kvs' ms' _
    rw [List.map_cons, List.map_cons]
    by_cases q : k' = k
    · subst q
      rw [if_pos rfl, if_pos rfl]
      exact .cons hv ih
    · rw [if_neg (fun z => q (Sum.inl.inj z)), if_neg q]
      exact .cons h1 ih
theorem DK.put {K : PySem.W.Frag} {D : Hp} {kvs : List (Key × V)} {ms : List (Int × PyData)} (h : DK K D kvs ms) {k : Int} {v : V} {x : PyData} (hv : Dp K D v x) : DK K D (putK kvs (.inl k) v) (putM ms k x) := by
  unfold putK putM
  rw [h.any k]
  split
  · exact h.repl hv
  · exact h.app hv
end EY
namespace EY
open PySem PySem.Spec PyProof.Rows L2
/-- how the dict stands: free, or locked (then it is this very one) -/
def LockOk (H : Hp) (d : Addr) (kvs : List (Key × V)) : Option (Obj × List (Key × V)) → Prop
  | none => H d = some (.dK kvs)
  | some (o, k0) => kvs = k0 ∧ H d = some (.frz o (.dK kvs))
theorem LockOk.rd {H : Hp} {d : Addr} {lk : Option (Obj × List (Key × V))} {kvs : List (Key × V)} (h : LockOk H d kvs lk) : Rd H d (.dK kvs) := by
  cases lk with
  | none => exact .inl h
  | some o => exact .inr ⟨o.1, h.2⟩
theorem LockOk.mono {H H2 : Hp} {d : Addr} {lk : Option (Obj × List (Key × V))} {kvs : List (Key × V)} (e : Same H H2) (h : LockOk H d kvs lk) : LockOk H2 d kvs lk := by
  cases lk with
  | none => exact e _ _ h
  | some o => exact ⟨h.1, e _ _ h.2⟩
/-- an instance of C at p with the fields fs, and a dict of data at d -/
def objF (K : PySem.W.Frag) (C p dx d : Addr) (lk : Option (Obj × List (Key × V))) (fs : List (Str × V)) (ms : List (Int × PyData)) : Fac where
  φ H D := H p = some (.ins C dx fs) ∧ ∃ kvs, LockOk H d kvs lk ∧ DK K D kvs ms
  mono e e' h := ⟨e _ _ h.1, let ⟨kvs, h1, h2⟩ := h.2; ⟨kvs, h1.mono e, h2.mono e'⟩⟩
  away := fun {H D a vs us} ha h => by
    obtain ⟨h1, kvs, h2, h3⟩ := h
    have n1 : p ≠ a := fun z => by rw [z, ha] at h1; cases h1
    refine ⟨(upd_ne n1).trans h1, kvs, ?_, h3⟩
    cases lk with
    | none =>
      have h2' : H d = some (.dK kvs) := h2
      exact (upd_ne (fun z => by rw [z, ha] at h2'; cases h2')).trans h2'
    | some o =>
      obtain ⟨q, h2'⟩ := h2
      exact ⟨q, (upd_ne (fun z => by rw [z, ha] at h2'; cases h2')).trans h2'⟩
section
variable {X : Cx} {Γ : Gm} {e idx : Expr} {pe pa pos : Pos} {x f : Str} {C p dx d : Addr} {lk : Option (Obj × List (Key × V))} {fs : List (Str × V)} {ms : List (Int × PyData)} {as : List Addr} {dd : PyData} {n : Nat}
theorem fac_get {B : Bs} {O : Addr → Prop} {H : Hp} {σ : L2.St} {i : Nat} {w : V} {F : Fac} (g : Sg X.K B O H σ Γ) (h : Γ[i]? = some (some (.fac w as F))) : σ[i]? = some (some w) ∧ F.φ H (hid O H) := by
  obtain ⟨v, h1, h2, h3, h4⟩ := g.slot i _ h
  subst h2
  exact ⟨h1, h4⟩
/-- x.f, an int -/
theorem de_fld (i : Nat) {z : Int} (h : Γ[i]? = some (some (.fac (.ref p) as (objF X.K C p dx d lk fs ms)))) (cl : Cls X.K C) (na : NoAttr X.K C f) (hl : fs.lookup f = some (.int z))
    (hN : X.N[i]? = some x := by rfl) (hv : Vis X.env.scope x := by first | exact Or.inl rfl | exact Or.inr (Or.inl rfl) | exact Or.inr (Or.inr rfl)) (hd : (x == ("__debug__" : Str)) = false := by decide) (hcd : (x == ("__classdict__" : Str)) = false := by decide) (hb : attributeBase (.Name x pe) f X.env (eval (.Name x pe) X.env) = eval (.Name x pe) X.env := by rfl) :
    DE X (.Attribute (.Name x pe) f pos) Γ (.int z) := fun B O H σ Q g q => by
  obtain ⟨h1, h2⟩ := fac_get g h
  exact wE_of (pe_fld (pv i hN hv hd hcd) hb) ⟨_, h1, p, C, dx, fs, _, rfl, h2.1, cl, na, hl, q _ H (Same.refl H) (.int z)⟩
/-- x.f[idx], f a dict of data -/
theorem de_at (i : Nat) {k : Int} (h : Γ[i]? = some (some (.fac (.ref p) as (objF X.K C p dx d lk fs ms)))) (hr : Room n X.A) (cl : Cls X.K C) (na : NoAttr X.K C f) (hl : fs.lookup f = some (.ref d)) (hi : DE X idx Γ (.int k)) (hm : ms.lookup k = some dd)
    (hN : X.N[i]? = some x := by rfl) (hv : Vis X.env.scope x := by first | exact Or.inl rfl | exact Or.inr (Or.inl rfl) | exact Or.inr (Or.inr rfl)) (hd : (x == ("__debug__" : Str)) = false := by decide) (hcd : (x == ("__classdict__" : Str)) = false := by decide) (hb : attributeBase (.Name x pe) f X.env (eval (.Name x pe) X.env) = eval (.Name x pe) X.env := by rfl) (hs : NoSl idx := by intro _ _; rfl) :
    DE X (.Subscript (.Attribute (.Name x pe) f pa) idx pos) Γ dd := fun B O H σ Q g q => by
  obtain ⟨h1, h2⟩ := fac_get g h
  refine wE_of (pe_dget (hu_of hr) (pe_fld (pv i hN hv hd hcd) hb) pe_w hs) ⟨_, h1, p, C, dx, fs, _, rfl, h2.1, cl, na, hl, hi B O H σ _ g fun u H3 s3 d3 => ?_⟩
  cases d3
  obtain ⟨h1', h2', kvs, h3, h4⟩ := fac_get (g.step s3) h
  obtain ⟨v, e1, e2⟩ := h4.get hm
  exact ⟨d, v, rfl, .inl ⟨kvs, .inl k, h3.rd, rfl, e1.symm⟩, q v H3 s3 e2⟩
end
end EY
namespace EY
open PySem PySem.Spec PyProof.Rows L2
theorem Sg.mutFac {K : PySem.W.Frag} {B : Bs} {H : Hp} {O : Addr → Prop} {σ : L2.St} {Γ : Gm} (g : Sg K B O H σ Γ) {i : Nat} {w : V} {as : List Addr} {F : Fac} (hi : Γ[i]? = some (some (.fac w as F))) (only : ∀ (j : Nat) w' as' F', Γ[j]? = some (some (.fac w' as' F')) → j = i) {a : Addr} {o : HO} (ha : a ∈ as) (ho : ∀ vs, o ≠ .lst vs) (F' : Fac) (hF : F'.φ (upd H a o) (hid O H)) :
    Sg K B O (upd H a o) σ (Γ.set i (some (.fac w as F'))) := by
  obtain ⟨v0, s1, s2, s3, s4⟩ := g.slot i _ hi
  subst s2
  obtain ⟨hO, hB, o0, ho0, hn0⟩ := s3 a ha
  have hh : hid O (upd H a o) = hid O H := by
    funext b
    unfold hid
    by_cases h : O b
    · rw [if_pos h, if_pos h]
    · rw [if_neg h, if_neg h, upd_ne (fun z : b = a => h (z.symm ▸ hO))]
  refine ⟨fun b o' e => ?_, g.fo, g.fs, fun b h => ?_, by rw [List.length_set, g.len], fun j s q => ?_, fun j k zs ws b h1 h2 h3 h4 => ?_⟩
  · rw [upd_ne (fun z => by rw [z, hB] at e; cases e)]
    exact g.ext b o' e
  · by_cases z : b = a
    · subst z
      exact ⟨_, upd_same⟩
    · rw [upd_ne z]
      exact g.live b h
  · by_cases z : j = i
    · subst z
      have e1 := (get_set_eq q).1
      cases e1
      refine ⟨v0, s1, rfl, fun b hb => ?_, by rw [hh]; exact hF⟩
      obtain ⟨t1, t2, o1, t3, t4⟩ := s3 b hb
      refine ⟨t1, t2, ?_⟩
      by_cases y : b = a
      · subst y
        exact ⟨o, upd_same, ho⟩
      · exact ⟨o1, (upd_ne y).trans t3, t4⟩
    · rw [get_set_ne z] at q
      obtain ⟨v, h1, h3⟩ := g.slot j s q
      refine ⟨v, h1, ?_⟩
      cases s with
      | d x =>
        show Dp K (hid O (upd H a o)) v x
        rw [hh]
        exact h3
      | raw w => exact h3
      | fac w as f => exact absurd (only j _ _ _ q) z
      | own zs =>
        obtain ⟨p', vs', r1, r2, r0, r3, r4⟩ := h3
        refine ⟨p', vs', r1, r2, r0, (upd_ne (fun w => ?_)).trans r3, by rw [hh]; exact r4⟩
        rw [w, ho0] at r3
        cases r3
        exact hn0 _ rfl
  · have nj : j ≠ i := fun q => by
      subst q
      have := (get_set_eq h1).1
      cases this
    have nk : k ≠ i := fun q => by
      subst q
      have := (get_set_eq h2).1
      cases this
    rw [get_set_ne nj] at h1
    rw [get_set_ne nk] at h2
    exact g.inj j k zs ws b h1 h2 h3 h4
section
variable {X : Cx} {Γ : Gm} {e idx value : Expr} {pe pa pos pos' : Pos} {x f : Str} {C p dx d : Addr} {lk : Option (Obj × List (Key × V))} {fs : List (Str × V)} {ms : List (Int × PyData)} {as : List Addr} {dd : PyData} {n : Nat} {rest : List Stmt} {P : Po}
/-- only slot i holds a thing with a fact of its own -/
def Only (Γ : Gm) (i : Nat) : Prop := ∀ (j : Nat) w' as' F', Γ[j]? = some (some (SD.fac w' as' F')) → j = i
/-- x.f[idx] = value -/
theorem ds_put (i : Nat) {k : Int} (h : Γ[i]? = some (some (.fac (.ref p) as (objF X.K C p dx d none fs ms)))) (only : Only Γ i) (hdas : d ∈ as) (hsz : ms.length < 100000) (hr : Room n X.A) (cl : Cls X.K C) (na : NoAttr X.K C f) (hl : fs.lookup f = some (.ref d)) (hval : DE X value Γ dd) (hi : DE X idx Γ (.int k))
    (hk : DS X rest (Γ.set i (some (.fac (.ref p) as (objF X.K C p dx d none fs (putM ms k dd))))) P)
    (hN : X.N[i]? = some x := by rfl) (hv : Vis X.env.scope x := by first | exact Or.inl rfl | exact Or.inr (Or.inl rfl) | exact Or.inr (Or.inr rfl)) (hd : (x == ("__debug__" : Str)) = false := by decide) (hcd : (x == ("__classdict__" : Str)) = false := by decide) (hb : attributeBase (.Name x pe) f X.env (eval (.Name x pe) X.env) = eval (.Name x pe) X.env := by rfl)
    (hs : swapsWith value (some (.Subscript (.Attribute (.Name x pe) f pa) idx pos')) pos.line X.env = pure false := by rfl) :
    DS X (.Assign [.Subscript (.Attribute (.Name x pe) f pa) idx pos'] value pos :: rest) Γ P := fun B O H σ D g ff => by
  refine wB_of (pss_cons (ps_dput (hu_of hr) (pe_fld (pv i hN hv hd hcd) hb) pe_w pe_w hs) pss_w) (hval B O H σ _ g fun v H1 s1 d1 => ?_)
  obtain ⟨h1, h2⟩ := fac_get (g.step s1) h
  refine ⟨_, h1, p, C, dx, fs, _, rfl, h2.1, cl, na, hl, hi B O H1 σ _ (g.step s1) fun u H3 s3 d3 => ?_⟩
  cases d3
  have g3 := g.step (s1.trans s3)
  obtain ⟨h1', h2', kvs, h3, h4⟩ := fac_get g3 h
  have h3' : H3 d = some (.dK kvs) := h3
  refine ⟨d, _, rfl, .inl ⟨kvs, .inl k, h3', rfl, Nat.lt_of_lt_of_le (by rw [h4.len]; exact hsz) (by decide), rfl⟩, ?_⟩
  have npd : p ≠ d := fun z => by rw [z, h3'] at h2'; cases h2'
  refine hk B O _ σ D (g3.mutFac h only hdas (fun vs z => by cases z) _ ⟨(upd_ne npd).trans h2', _, upd_same, h4.put (dp_mono (hid_mono s3) _ _ d1)⟩) ff
theorem dp_intsV {K : PySem.W.Frag} {H : Hp} (ms : List (Int × PyData)) : DpAll K H (ms.map fun m => V.int m.1) (ms.map fun m => PyData.int m.1) := by
  induction ms with
  | nil => exact .nil
  | cons m ms ih => exact .cons (.int _) ih
/-- list(x.f) -/
theorem dl_keys (i : Nat) {pn : Pos} (h : Γ[i]? = some (some (.fac (.ref p) as (objF X.K C p dx d lk fs ms)))) (hm : X.mg "list" = none) (cl : Cls X.K C) (na : NoAttr X.K C f) (hl : fs.lookup f = some (.ref d)) (hc : X.calm = true := by rfl)
    (hN : X.N[i]? = some x := by rfl) (hv : Vis X.env.scope x := by first | exact Or.inl rfl | exact Or.inr (Or.inl rfl) | exact Or.inr (Or.inr rfl)) (hd : (x == ("__debug__" : Str)) = false := by decide) (hcd : (x == ("__classdict__" : Str)) = false := by decide) (hb : attributeBase (.Name x pe) f X.env (eval (.Name x pe) X.env) = eval (.Name x pe) X.env := by rfl)
    (hg : Gl X "list" := by rfl) (he : starEach [.Attribute (.Name x pe) f pa] X.env = (false, eval (.Attribute (.Name x pe) f pa) X.env) :: starEach [] X.env := by rfl) :
    DL X (.Call (.Name "list" pn) [.Attribute (.Name x pe) f pa] [] pos) Γ (ms.map fun m => .int m.1) := fun B O H σ Q g q => by
  obtain ⟨h1, h2, kvs, h3, h4⟩ := fac_get g h
  refine wE_callTy (call_listD hc) hm PyProof.Rows.boot_list hg (wA_one he (wE_of (pe_fld (pv i hN hv hd hcd) hb) ⟨_, h1, p, C, dx, fs, _, rfl, h2, cl, na, hl, d, kvs, rfl, h3.rd, fun l hl' => ?_⟩)) (by decide) (by decide) he rfl
  rw [h4.keys]
  exact q l _ _ hl' (same_upd hl') upd_same (dp_intsV ms)
/-- len(x.f) -/
theorem de_lenF (i : Nat) {pn : Pos} (h : Γ[i]? = some (some (.fac (.ref p) as (objF X.K C p dx d none fs ms)))) (hm : X.mg "len" = none) (cl : Cls X.K C) (na : NoAttr X.K C f) (hl : fs.lookup f = some (.ref d))
    (hN : X.N[i]? = some x := by rfl) (hv : Vis X.env.scope x := by first | exact Or.inl rfl | exact Or.inr (Or.inl rfl) | exact Or.inr (Or.inr rfl)) (hd : (x == ("__debug__" : Str)) = false := by decide) (hcd : (x == ("__classdict__" : Str)) = false := by decide) (hb : attributeBase (.Name x pe) f X.env (eval (.Name x pe) X.env) = eval (.Name x pe) X.env := by rfl)
    (hg : Gl X "len" := by rfl) (he : starEach [.Attribute (.Name x pe) f pa] X.env = (false, eval (.Attribute (.Name x pe) f pa) X.env) :: starEach [] X.env := by rfl) :
    DE X (.Call (.Name "len" pn) [.Attribute (.Name x pe) f pa] [] pos) Γ (.int ms.length) := fun B O H σ Q g q => by
  obtain ⟨h1, h2, kvs, h3, h4⟩ := fac_get g h
  refine wE_of (pe_callB call_lenD hg hm PySem.boot_len (pa_cons (pe_fld (pv i hN hv hd hcd) hb) pa_nil he) (by decide) (by decide) he rfl) ⟨_, h1, p, C, dx, fs, _, rfl, h2, cl, na, hl, d, kvs, rfl, h3, ?_⟩
  rw [h4.len]
  exact q _ H (Same.refl H) (.int _)
end
end EY
set_option autoImplicit false
set_option maxHeartbeats 1000000
/-! methods, objects made and handed back -/
namespace EY
open PySem PySem.Spec PyProof.Rows L2
/-- nothing but that an instance of C stands at p -/
def insF (C p dx : Addr) (fs : List (Str × V)) : Fac where
  φ H _ := H p = some (.ins C dx fs)
  mono e _ h := e _ _ h
  away := fun {H D a vs us} ha h => (upd_ne (fun z => by rw [z, ha] at h; cases h)).trans h
def noF : Fac where
  φ _ _ := True
  mono _ _ _ := trivial
  away _ _ := trivial
/-- what a fact tells of the instance -/
def Tells (F : Fac) (C p dx : Addr) (fs : List (Str × V)) : Prop := ∀ H D, F.φ H D → H p = some (.ins C dx fs)
theorem insF_tells {C p dx : Addr} {fs : List (Str × V)} : Tells (insF C p dx fs) C p dx fs := fun _ _ h => h
theorem objF_tells {K : PySem.W.Frag} {C p dx d : Addr} {lk : Option (Obj × List (Key × V))} {fs : List (Str × V)} {ms : List (Int × PyData)} : Tells (objF K C p dx d lk fs ms) C p dx fs := fun _ _ h => h.1
section
variable {X : Cx} {Γ : Gm} {e idx : Expr} {es : List Expr} {pe pa pos : Pos} {x f m : Str} {C p dx d : Addr} {fs : List (Str × V)} {as : List Addr} {dd : PyData} {n : Nat} {F : Fac}
/-- x.f, an int -/
theorem de_fldG (i : Nat) {z : Int} (h : Γ[i]? = some (some (.fac (.ref p) as F))) (t : Tells F C p dx fs) (cl : Cls X.K C) (na : NoAttr X.K C f) (hl : fs.lookup f = some (.int z))
    (hN : X.N[i]? = some x := by rfl) (hv : Vis X.env.scope x := by first | exact Or.inl rfl | exact Or.inr (Or.inl rfl) | exact Or.inr (Or.inr rfl)) (hd : (x == ("__debug__" : Str)) = false := by decide) (hcd : (x == ("__classdict__" : Str)) = false := by decide) (hb : attributeBase (.Name x pe) f X.env (eval (.Name x pe) X.env) = eval (.Name x pe) X.env := by rfl) :
    DE X (.Attribute (.Name x pe) f pos) Γ (.int z) := fun B O H σ Q g q => by
  obtain ⟨h1, h2⟩ := fac_get g h
  exact wE_of (pe_fld (pv i hN hv hd hcd) hb) ⟨_, h1, p, C, dx, fs, _, rfl, t _ _ h2, cl, na, hl, q _ H (Same.refl H) (.int z)⟩
/-- a method that changes nothing -/
def spO (K : PySem.W.Frag) (C : Addr) (R : List (Str × V) → List PyData → PyData → Prop) : Sp := fun vs H Q _ => ∃ (O : Addr → Prop) (p dx : Addr) (fs : List (Str × V)) (us : List V) (ds : List PyData) (d : PyData),
  vs = .ref p :: us ∧ H p = some (.ins C dx fs) ∧ Live O H ∧ DpAll K (hid O H) us ds ∧ R fs ds d ∧ ∀ v H2, Same H H2 → Dp K (hid O H2) v d → Q v H2
structure HasM (P : Program) (w : World) (K : PySem.W.Frag) (mg : Str → Option Value) (base : Heap) (k : Nat) (C : Addr) (m : Str) (ps : List Str) (sp : Sp) : Prop where
  ex : ∃ f fd, FnOk P w K mg base CX0 k f fd ps sp ∧ Meth K C m f ∧ Binds K fd ps []
theorem de_meth (i : Nat) {k : Nat} {ps : List Str} {R : List (Str × V) → List PyData → PyData → Prop} {ds : List PyData} (h : Γ[i]? = some (some (.fac (.ref p) as F))) (t : Tells F C p dx fs) (cl : Cls X.K C) (hm : HasM X.prog X.w X.K X.mg X.base k C m ps (spO X.K C R)) (hr : Room n X.A) (hno : fs.lookup m = none) (ha : DA X (e :: es) Γ ds) (hR : R fs ds dd) (hk : k ≤ n := by decide)
    (hN : X.N[i]? = some x := by rfl) (hv : Vis X.env.scope x := by first | exact Or.inl rfl | exact Or.inr (Or.inl rfl) | exact Or.inr (Or.inr rfl)) (hd : (x == ("__debug__" : Str)) = false := by decide) (hcd : (x == ("__classdict__" : Str)) = false := by decide)
    (hst : starEach (e :: es) X.env = (false, eval e X.env) :: starEach es X.env := by rfl) (hpl : (backTo pos (starEach es X.env)).any (·.1) = false := by rfl)
    {pl : Sem Bool} (ht : eval (.Call (.Attribute (.Name x pe) m pa) (e :: es) [] pos) X.env = (do
      let ov ← eval (.Name x pe) X.env
      standAt pa.atName
      let (f, first) ← holding [ov] (getMethod ov m pl)
      callWith pos f first (backTo pos (starEach (e :: es) X.env)) (backToKw pos (keywordEach [] X.env))) := by rfl) :
    DE X (.Call (.Attribute (.Name x pe) m pa) (e :: es) [] pos) Γ dd := fun B O H σ Q g q => by
  obtain ⟨f, fd, Fn, me, hb⟩ := hm.ex
  obtain ⟨h1, h2⟩ := fac_get g h
  refine wE_of (pe_meth (pl := pl) (pv i hN hv hd hcd) cl me Fn (hr.mono hk) hb .nil pass0 pa_w hst hpl ht) ⟨_, h1, p, dx, fs, rfl, t _ _ h2, hno, ha B O H σ _ g fun vs H2 s2 d2 => ?_⟩
  exact ⟨O, p, dx, fs, _, ds, dd, rfl, s2 _ _ (t _ _ h2), (g.step s2).live, by rw [List.append_nil]; exact d2, hR, fun v H3 s3 d3 => q v H3 (s2.trans s3) d3⟩
end
/-- at a method's entry -/
def envM (N : List Str) (s : SD) (ds : List PyData) : Gm := some s :: (ds.map (fun d => some (SD.d d)) ++ List.replicate (N.length - (ds.length + 1)) none)
theorem envM_slot {K : PySem.W.Frag} {O : Addr → Prop} {H : Hp} {N : List Str} {v : V} {vs : List V} {ds : List PyData} {s0 : SD} (h : DpAll K (hid O H) vs ds) : ∀ (i : Nat) s, (envM N s0 ds)[i]? = some (some s) → (i = 0 ∧ s = s0) ∨ ∃ u x, (L2.start N (v :: vs))[i]? = some (some u) ∧ s = .d x ∧ Dp K (hid O H) u x := fun i s e => by
  have hl := dpAll_len h
  unfold envM at e
  unfold L2.start
  cases i with
  | zero =>
    rw [List.getElem?_cons_zero] at e
    cases e
    exact .inl ⟨rfl, rfl⟩
  | succ i =>
    rw [List.getElem?_cons_succ] at e
    refine .inr ?_
    rw [List.map_cons, List.cons_append, List.getElem?_cons_succ]
    by_cases hi : i < ds.length
    · rw [List.getElem?_append_left (by simpa using hi), List.getElem?_map, List.getElem?_eq_getElem hi] at e
      have e' := Option.some.inj e
      cases e'
      obtain ⟨v, h1, h2⟩ := dpAll_get h (List.getElem?_eq_getElem hi)
      refine ⟨v, _, ?_, rfl, h2⟩
      rw [List.getElem?_append_left (by simpa [hl] using hi), List.getElem?_map, h1]
      rfl
    · rw [List.getElem?_append_right (by simpa using hi)] at e
      rw [List.getElem?_replicate] at e
      split at e <;> cases e
theorem envM_len {N : List Str} {s0 : SD} {v : V} {vs : List V} {ds : List PyData} (h : vs.length = ds.length) : (L2.start N (v :: vs)).length = (envM N s0 ds).length := by
  unfold L2.start envM
  simp [h]
theorem envM_own {N : List Str} {s0 : SD} {ds : List PyData} {xs : List PyData} {K : PySem.W.Frag} {O : Addr → Prop} {H : Hp} {v : V} {vs : List V} (h : DpAll K (hid O H) vs ds) (h0 : ∀ xs, s0 ≠ .own xs) (i : Nat) : (envM N s0 ds)[i]? ≠ some (some (.own xs)) := fun e => by
  rcases envM_slot (v := v) h i _ e with ⟨_, q⟩ | ⟨u, x, _, q, _⟩
  · exact h0 _ q.symm
  · cases q
section
variable {P : Program} {w : World} {K : PySem.W.Frag} {mg : Str → Option Value} {base : Heap}
theorem envM_sgO {O : Addr → Prop} {H : Hp} {N : List Str} {p : Addr} {F : Fac} {vs : List V} {ds : List PyData} (lv : Live O H) (hF : F.φ H (hid O H)) (h : DpAll K (hid O H) vs ds) : Sg K ⟨O, H⟩ O H (L2.start N (.ref p :: vs)) (envM N (.fac (.ref p) [] F) ds) := by
  refine ⟨Same.refl H, fun a h => .inl h, fun a h => ⟨h, lv a h⟩, lv, envM_len (dpAll_len h), fun i s e => ?_, fun i j xs ys a h1 h2 h3 h4 => absurd h1 (envM_own (v := .ref p) h (fun _ z => by cases z) i)⟩
  rcases envM_slot (v := .ref p) h i s e with ⟨rfl, rfl⟩ | ⟨u, x, q1, rfl, q2⟩
  · exact ⟨.ref p, rfl, rfl, fun a ha => absurd ha (List.not_mem_nil), hF⟩
  · exact ⟨u, q1, q2⟩
theorem fn_ofO {x q : Str} {st : Stmt} {f C : Addr} {fd : FuncData} {N ps : List Str} {k : Nat} {R : List (Str × V) → List PyData → PyData → Prop} (F : Fun K x q st f fd) (S : FnScope N ps (defScope st)) (len : ∀ fs ds d, R fs ds d → ds.length + 1 = ps.length)
    (body : ∀ (X : Cx) (cdv : Value) (A : Around) (outer : List Env) (s : Shared) (H : Hp) (E : XK), X = (cxOf CX0 P w K mg base N q (defScope st) f cdv A outer s H E).nox → Room k X.A → ∀ p dx fs ds d, R fs ds d → DS X (defBody st) (envM N (.fac (.ref p) [] (insF C p dx fs)) ds) { nx := fun _ => d = .none, rt := fun d' => d' = d }) : FnOk P w K mg base CX0 (k + 1) f fd ps (spO K C R) := by
  refine F.ok S (fun vs H Q E h => ?_) (fun cdv A outer s H vs Q E hr h => ?_)
  · obtain ⟨O, p, dx, fs, us, ds, d, rfl, _, _, h1, h2, _⟩ := h
    rw [List.length_cons, dpAll_len h1, len fs ds d h2]
  · obtain ⟨O, p, dx, fs, us, ds, d, rfl, hp, lv, h1, h2, q⟩ := h
    refine ⟨_, pss_w, body _ cdv A outer s H E rfl hr p dx fs ds d h2 ⟨O, H⟩ O H _ _ (envM_sgO lv hp h1) ⟨fun O' H' σ' Γ' e g' => ?_, fun H' v d' e sm hd => ?_, fun _ _ _ _ m => m.elim, fun _ _ _ _ m => m.elim, fun _ _ m => m.elim, fun _ _ _ _ _ m => m.elim⟩⟩
    · subst e
      exact q _ H' g'.ext .non
    · subst e
      exact q v H' sm hd
end
/-! ### a method that changes the dict -/
section
variable {K : PySem.W.Frag} {B : Bs} {H H2 : Hp} {O : Addr → Prop} {σ : L2.St} {Γ : Gm}
/-- the fact is another one -/
theorem Sg.refac (g : Sg K B O H σ Γ) {i : Nat} {w : V} {as : List Addr} {F : Fac} (hi : Γ[i]? = some (some (.fac w as F))) (F' : Fac) (hF : F'.φ H (hid O H)) : Sg K B O H σ (Γ.set i (some (.fac w as F'))) := by
  obtain ⟨v0, s1, s2, s3, s4⟩ := g.slot i _ hi
  subst s2
  refine ⟨g.ext, g.fo, g.fs, g.live, by rw [List.length_set, g.len], fun j s q => ?_, fun j k zs ws b h1 h2 h3 h4 => ?_⟩
  · by_cases z : j = i
    · subst z
      have e1 := (get_set_eq q).1
      cases e1
      exact ⟨v0, s1, rfl, s3, hF⟩
    · rw [get_set_ne z] at q
      exact g.slot j s q
  · have nj : j ≠ i := fun q => by
      subst q
      have := (get_set_eq h1).1
      cases this
    have nk : k ≠ i := fun q => by
      subst q
      have := (get_set_eq h2).1
      cases this
    rw [get_set_ne nj] at h1
    rw [get_set_ne nk] at h2
    exact g.inj j k zs ws b h1 h2 h3 h4
/-- the thing at a is changed, more is laid -/
theorem Sg.mutMore (g : Sg K B O H σ Γ) {i : Nat} {w : V} {as : List Addr} {F : Fac} (hi : Γ[i]? = some (some (.fac w as F))) (only : Only Γ i) {a : Addr} {o : HO} (ha : a ∈ as) (ho : ∀ vs, o ≠ .lst vs) (s : Same (upd H a o) H2) (F' : Fac) (hF : F'.φ H2 (hid O H2)) :
    Sg K B O H2 σ (Γ.set i (some (.fac w as F'))) := by
  have g1 := ((g.mutFac hi only ha ho noF trivial).step s).refac (i := i) (w := w) (as := as) (F := noF) (by
    have hlt : i < Γ.length := by
      rcases Nat.lt_or_ge i Γ.length with h | h
      · exact h
      · rw [List.getElem?_eq_none h] at hi; cases hi
    rw [get_set_of hlt]) F' hF
  rw [List.set_set] at g1
  exact g1
end
/-- a method that changes the dict at d of the instance -/
def spM (K : PySem.W.Frag) (C : Addr) (f : Str) (R : List (Str × V) → List (Int × PyData) → List PyData → List (Int × PyData) → PyData → Prop) : Sp := fun vs H Q _ => ∃ (O : Addr → Prop) (p dx d : Addr) (fs : List (Str × V)) (kvs : List (Key × V)) (ms : List (Int × PyData)) (us : List V) (ds : List PyData) (ms' : List (Int × PyData)) (r : PyData),
  vs = .ref p :: us ∧ H p = some (.ins C dx fs) ∧ fs.lookup f = some (.ref d) ∧ H d = some (.dK kvs) ∧ O p ∧ O d ∧ Live O H ∧ DK K (hid O H) kvs ms ∧ DpAll K (hid O H) us ds ∧ R fs ms ds ms' r ∧
  ∀ v H2 kvs', Same (upd H d (.dK kvs')) H2 → DK K (hid O H2) kvs' ms' → Dp K (hid O H2) v r → Q v H2
section
variable {X : Cx} {Γ : Gm} {e idx : Expr} {es : List Expr} {pe pa pos p' : Pos} {x y f m : Str} {C p dx d : Addr} {fs : List (Str × V)} {ms ms' : List (Int × PyData)} {as : List Addr} {dd r : PyData} {n : Nat} {F : Fac} {rest : List Stmt} {P : Po}
/-- y = x.m(..), m changes the dict of x -/
theorem ds_setM (i j : Nat) {k : Nat} {ps : List Str} {R : List (Str × V) → List (Int × PyData) → List PyData → List (Int × PyData) → PyData → Prop} {ds : List PyData} (hND : X.N.Nodup) (h : Γ[i]? = some (some (.fac (.ref p) as (objF X.K C p dx d none fs ms)))) (only : Only Γ i) (hpas : p ∈ as) (hdas : d ∈ as) (cl : Cls X.K C) (hm : HasM X.prog X.w X.K X.mg X.base k C m ps (spM X.K C f R)) (hr : Room n X.A) (hno : fs.lookup m = none) (hl : fs.lookup f = some (.ref d)) (ha : DA X (e :: es) Γ ds) (hR : R fs ms ds ms' r)
    (kk : DS X rest ((Γ.set i (some (.fac (.ref p) as (objF X.K C p dx d none fs ms')))).set j (some (.d r))) P) (hk : k ≤ n := by decide)
    (hN : X.N[i]? = some x := by rfl) (hv : Vis X.env.scope x := by first | exact Or.inl rfl | exact Or.inr (Or.inl rfl) | exact Or.inr (Or.inr rfl)) (hd : (x == ("__debug__" : Str)) = false := by decide) (hcd : (x == ("__classdict__" : Str)) = false := by decide)
    (hj : X.N[j]? = some y := by rfl) (hy : Loc X.env.scope y := by first | exact Or.inl rfl | exact Or.inr rfl)
    (hf : X.fn y = true ∨ X.env.scope.names.lookup y = some .local := by first | exact .inl rfl | exact .inr rfl)
    (hst : starEach (e :: es) X.env = (false, eval e X.env) :: starEach es X.env := by rfl) (hpl : (backTo pos (starEach es X.env)).any (·.1) = false := by rfl)
    {pl : Sem Bool} (ht : eval (.Call (.Attribute (.Name x pe) m pa) (e :: es) [] pos) X.env = (do
      let ov ← eval (.Name x pe) X.env
      standAt pa.atName
      let (f, first) ← holding [ov] (getMethod ov m pl)
      callWith pos f first (backTo pos (starEach (e :: es) X.env)) (backToKw pos (keywordEach [] X.env))) := by rfl)
    {pos' : Pos} (hs' : swapsWith (.Call (.Attribute (.Name x pe) m pa) (e :: es) [] pos) (some (.Name y p')) pos'.line X.env = pure false := by rfl) :
    DS X (.Assign [.Name y p'] (.Call (.Attribute (.Name x pe) m pa) (e :: es) [] pos) pos' :: rest) Γ P := fun B O H σ D g ff => by
  obtain ⟨f', fd, Fn, me, hb⟩ := hm.ex
  obtain ⟨h1, h2⟩ := fac_get g h
  refine wB_of (pss_cons (ps_set hND hj hy (pe_meth (pl := pl) (pv i hN hv hd hcd) cl me Fn (hr.mono hk) hb .nil pass0 pa_w hst hpl ht) hs' hf) pss_w) ⟨_, h1, p, dx, fs, rfl, h2.1, hno, ha B O H σ _ g fun vs H2 s2 d2 => ?_⟩
  have g2 := g.step s2
  obtain ⟨_, t1, kvs, t2, t3⟩ := fac_get g2 h
  have t2' : H2 d = some (.dK kvs) := t2
  obtain ⟨_, _, _, own, _⟩ := g2.slot i _ h
  refine ⟨O, p, dx, d, fs, kvs, ms, _, ds, ms', r, rfl, t1, hl, t2', (own p hpas).1, (own d hdas).1, g2.live, t3, by rw [List.append_nil]; exact d2, hR, fun v H3 kvs' s3 d3 dv => ?_⟩
  have npd : p ≠ d := fun z => by rw [z, t2'] at t1; cases t1
  have hp3 : H3 p = some (.ins C dx fs) := s3 _ _ ((upd_ne npd).trans t1)
  have hd3 : H3 d = some (.dK kvs') := s3 _ _ upd_same
  have g3 := g2.mutMore (i := i) h only hdas (o := .dK kvs') (fun vs z => by cases z) s3 (objF X.K C p dx d none fs ms') ⟨hp3, kvs', hd3, d3⟩
  exact kk B O H3 _ D (g3.setD dv) ff
end
section
variable {P : Program} {w : World} {K : PySem.W.Frag} {mg : Str → Option Value} {base : Heap}
theorem envM_sgM {O : Addr → Prop} {H : Hp} {N : List Str} {C p dx d : Addr} {fs : List (Str × V)} {kvs : List (Key × V)} {ms : List (Int × PyData)} {vs : List V} {ds : List PyData} (lv : Live O H) (hp : H p = some (.ins C dx fs)) (hd : H d = some (.dK kvs)) (op : O p) (od : O d) (hk : DK K (hid O H) kvs ms) (h : DpAll K (hid O H) vs ds) :
    Sg K ⟨fun a => O a ∧ a ≠ p ∧ a ≠ d, hid (fun a => a = p ∨ a = d) H⟩ O H (L2.start N (.ref p :: vs)) (envM N (.fac (.ref p) [p, d] (objF K C p dx d none fs ms)) ds) := by
  have hn : ∀ a, a = p ∨ a = d → hid (fun a => a = p ∨ a = d) H a = none := fun a q => by
    unfold hid
    rw [if_pos q]
  refine ⟨hid_sub, fun a h => ?_, fun a h => ⟨h.1, ?_⟩, lv, envM_len (dpAll_len h), fun i s e => ?_, fun i j xs ys a h1 h2 h3 h4 => absurd h1 (envM_own (v := .ref p) h (fun _ z => by cases z) i)⟩
  · by_cases q : a = p ∨ a = d
    · exact .inr (hn a q)
    · exact .inl ⟨h, fun z => q (.inl z), fun z => q (.inr z)⟩
  · obtain ⟨o, e⟩ := lv a h.1
    exact ⟨o, (hid_iff (O := fun a => a = p ∨ a = d)).mpr ⟨fun (z : a = p ∨ a = d) => z.elim h.2.1 h.2.2, e⟩⟩
  · rcases envM_slot (v := .ref p) h i s e with ⟨rfl, rfl⟩ | ⟨u, x, q1, rfl, q2⟩
    · refine ⟨.ref p, rfl, rfl, fun a ha => ?_, hp, kvs, hd, hk⟩
      have e' : a = p ∨ a = d := by simpa using ha
      rcases e' with z | z
      · subst z
        exact ⟨op, hn _ (.inl rfl), _, hp, fun vs z => by cases z⟩
      · subst z
        exact ⟨od, hn _ (.inr rfl), _, hd, fun vs z => by cases z⟩
    · exact ⟨u, q1, q2⟩
/-- what is known where the method hands back: the object's slot, and what is handed back -/
def endM (K : PySem.W.Frag) (C p dx d : Addr) (fs : List (Str × V)) (ms' : List (Int × PyData)) (r : PyData) : (Addr → Prop) → Hp → V → Gm → Prop := fun O H v Γ => Γ[0]? = some (some (.fac (.ref p) [p, d] (objF K C p dx d none fs ms'))) ∧ Dp K (hid O H) v r
theorem fn_ofM {x q : Str} {st : Stmt} {f C : Addr} {fl : Str} {fd : FuncData} {N ps : List Str} {k : Nat} {R : List (Str × V) → List (Int × PyData) → List PyData → List (Int × PyData) → PyData → Prop} (F : Fun K x q st f fd) (S : FnScope N ps (defScope st)) (len : ∀ fs ms ds ms' r, R fs ms ds ms' r → ds.length + 1 = ps.length)
    (body : ∀ (X : Cx) (cdv : Value) (A : Around) (outer : List Env) (s : Shared) (H : Hp) (E : XK), X = (cxOf CX0 P w K mg base N q (defScope st) f cdv A outer s H E).nox → Room k X.A → ∀ p dx d fs ms ds ms' r, R fs ms ds ms' r → fs.lookup fl = some (.ref d) →
      DS X (defBody st) (envM N (.fac (.ref p) [p, d] (objF K C p dx d none fs ms)) ds) { nx := fun _ => False, rt := fun _ => False, rr := endM K C p dx d fs ms' r }) : FnOk P w K mg base CX0 (k + 1) f fd ps (spM K C fl R) := by
  refine F.ok S (fun vs H Q E h => ?_) (fun cdv A outer s H vs Q E hr h => ?_)
  · obtain ⟨O, p, dx, d, fs, kvs, ms, us, ds, ms', r, rfl, _, _, _, _, _, _, _, h1, h2, _⟩ := h
    rw [List.length_cons, dpAll_len h1, len _ _ _ _ _ h2]
  · obtain ⟨O, p, dx, d, fs, kvs, ms, us, ds, ms', r, rfl, hp, hl, hd, op, od, lv, hk, h1, h2, qq⟩ := h
    refine ⟨_, pss_w, body _ cdv A outer s H E rfl hr p dx d fs ms ds ms' r h2 hl _ O H _ _ (envM_sgM lv hp hd op od hk h1) ⟨fun _ _ _ _ m => m.elim, fun _ _ _ m => m.elim, fun _ _ _ _ m => m.elim, fun _ _ _ _ m => m.elim, fun _ _ m => m.elim, fun O' H' σ' Γ' v m g' => ?_⟩⟩
    obtain ⟨m1, m2⟩ := m
    obtain ⟨_, _, _, own, t1, kvs', t2, t3⟩ := g'.slot 0 _ m1
    have t2' : H' d = some (.dK kvs') := t2
    have sub : Same (hid O' H') (hid O H') := fun b o z => hid_iff.mpr ⟨fun ob => (hid_iff.mp z).1 (by
      by_cases q1 : b = p
      · subst q1; exact (own _ (by simp)).1
      · by_cases q2 : b = d
        · subst q2; exact (own _ (by simp)).1
        · exact (g'.fs b ⟨ob, q1, q2⟩).1), (hid_iff.mp z).2⟩
    refine qq v H' kvs' (fun b o z => ?_) (t3.mono sub) (dp_mono sub _ _ m2)
    by_cases q2 : b = d
    · subst q2
      rw [upd_same] at z
      cases z
      exact t2'
    · rw [upd_ne q2] at z
      by_cases q1 : b = p
      · subst q1
        rw [hp] at z
        cases z
        exact t1
      · exact g'.ext b o ((hid_iff (O := fun a => a = p ∨ a = d)).mpr ⟨fun (y : b = p ∨ b = d) => y.elim q1 q2, z⟩)
theorem HasM.mk' {x q : Str} {st : Stmt} {f C : Addr} {fd : FuncData} {ps : List Str} {k : Nat} {sp : Sp} (h : FnOk P w K mg base CX0 k f fd ps sp) (me : Meth K C x f) (hb : Binds K fd ps []) : HasM P w K mg base k C x ps sp := ⟨f, fd, h, me, hb⟩
end
end EY
set_option autoImplicit false
set_option maxHeartbeats 1000000
/-! for k in x.f; objects made; pairs of an object and data -/
namespace EY
open PySem PySem.Spec PyProof.Rows L2
section
variable {X : Cx} {Γ : Gm} {tg : Expr} {es : List Expr} {pe pa pos p' : Pos} {x y f m : Str} {C p dx d : Addr} {fs : List (Str × V)} {ms ms' : List (Int × PyData)} {as : List Addr} {dd r : PyData} {n : Nat} {F : Fac} {rest body : List Stmt} {P : Po}
/-- for k in x.f -/
theorem ds_forKeys (i : Nat) (I : Option (Obj × List (Key × V)) → Nat → Gm → Prop) (h : Γ[i]? = some (some (.fac (.ref p) as (objF X.K C p dx d none fs ms)))) (only : Only Γ i) (hdas : d ∈ as) (cl : Cls X.K C) (na : NoAttr X.K C f) (hl : fs.lookup f = some (.ref d))
    (hI : ∀ lk j Γ', I lk j Γ' → Γ'[i]? = some (some (.fac (.ref p) as (objF X.K C p dx d lk fs ms))) ∧ Only Γ' i)
    (h0 : ∀ lk, I lk 0 (Γ.set i (some (.fac (.ref p) as (objF X.K C p dx d lk fs ms)))))
    (hs : ∀ lk j Γ', j < ms.length → I lk j Γ' → ∃ Γ'' js, DG X tg Γ' (.int (ms.getD j (0, .none)).1) Γ'' js ∧ DS X body Γ'' { nx := I lk (j + 1), rt := fun _ => False })
    (hd : ∀ lk Γ', I lk ms.length Γ' → DS X rest (Γ'.set i (some (.fac (.ref p) as (objF X.K C p dx d none fs ms)))) P)
    (hN : X.N[i]? = some x := by rfl) (hv : Vis X.env.scope x := by first | exact Or.inl rfl | exact Or.inr (Or.inl rfl) | exact Or.inr (Or.inr rfl)) (hdb : (x == ("__debug__" : Str)) = false := by decide) (hcd : (x == ("__classdict__" : Str)) = false := by decide) (hb : attributeBase (.Name x pe) f X.env (eval (.Name x pe) X.env) = eval (.Name x pe) X.env := by rfl)
    (hp : PassesOwn (model X.prog X.w) X.A X.env X.xe := by exact PassesOwn.never) (hc : X.calm = true := by rfl) (hf : ∀ z, foldedSetIterable (.Attribute (.Name x pe) f pa) X.env z = pure z := by intro _; rfl) : DS X (.For tg (.Attribute (.Name x pe) f pa) body [] pos :: rest) Γ P := fun B O H σ D g ff => by
  obtain ⟨h1, h2, kvs, h3, h4⟩ := fac_get g h
  have h3' : H d = some (.dK kvs) := h3
  have npd : p ≠ d := fun z => by rw [z, h3'] at h2; cases h2
  refine wB_of (pss_cons (ps_lock (ps_for hp hc (pi_keys (pe_fld (pv i hN hv hdb hcd) hb)) pg_w pss_w hf)) pss_w) ⟨d, .dK kvs, h3', trivial, fun od => ?_⟩
  have g0 : Sg X.K B O (upd H d (.frz od (.dK kvs))) σ (Γ.set i (some (.fac (.ref p) as (objF X.K C p dx d (some (od, kvs)) fs ms)))) := g.mutFac h only hdas (fun vs z => by cases z) _ ⟨(upd_ne npd).trans h2, kvs, ⟨rfl, upd_same⟩, h4⟩
  refine ⟨_, h1, p, C, dx, fs, _, rfl, (upd_ne npd).trans h2, cl, na, hl, d, od, rfl, .inl ⟨kvs, upd_same, ?_⟩⟩
  refine ⟨fun j m σ' H' => m = ms.length - j ∧ j ≤ ms.length ∧ ∃ O' Γ', Sg X.K B O' H' σ' Γ' ∧ I (some (od, kvs)) j Γ', ⟨_, rfl, Nat.zero_le _, O, _, g0, h0 _⟩, ?_⟩
  rintro j m σ' H' ⟨rfl, hjn, O', Γ', g', i'⟩
  obtain ⟨q1, q2⟩ := hI _ _ _ i'
  obtain ⟨r1, r2, kvs', ⟨rfl, r3⟩, r4⟩ := fac_get g' q1
  have hlen := r4.len
  by_cases hlt : j < ms.length
  · refine .inr ⟨⟨r3, by omega⟩, fun σ2 H2 => j + 1 ≤ ms.length ∧ ∃ O2 Γ2, Sg X.K B O2 H2 σ2 Γ2 ∧ I (some (od, kvs')) (j + 1) Γ2, fun σ2 H2 w => ⟨ms.length - (j + 1), by omega, rfl, w⟩, ?_⟩
    rintro v H2 ⟨rfl, k, u, e1, rfl⟩
    obtain ⟨m1, x1, e2, rfl, e3⟩ := r4.nth e1
    obtain ⟨Γ2, js, t1, t2⟩ := hs _ j Γ' hlt i'
    have em : (ms.getD j (0, .none)).1 = m1 := by
      rw [List.getD_eq_getElem?_getD, e2]
      rfl
    rw [em] at t1
    refine t1 B O' H2 σ' _ _ g' (.int m1) fun σ2 g2 _ => t2 B O' H2 σ2 _ g2 ⟨fun O4 H4 σ4 Γ4 i4 g4 => ⟨hlt, O4, Γ4, g4, i4⟩, fun _ _ _ z => z.elim, fun _ _ _ _ z => z.elim, fun _ _ _ _ z => z.elim, fun _ _ z => z.elim, fun _ _ _ _ _ z => z.elim⟩
  · have e : j = ms.length := by omega
    subst e
    refine .inl ⟨⟨r3, by omega⟩, r3, ?_⟩
    have npd' : p ≠ d := npd
    exact hd _ Γ' i' B O' _ σ' D (g'.mutFac q1 q2 hdas (fun vs z => by cases z) _ ⟨(upd_ne npd').trans r2, kvs', upd_same, r4⟩) ff
end
/-! ### objects made -/
theorem Sg.setFac {K : PySem.W.Frag} {B : Bs} {H : Hp} {O : Addr → Prop} {σ : L2.St} {Γ : Gm} (g : Sg K B O H σ Γ) {i : Nat} {v : V} {as : List Addr} {F : Fac} (ha : ∀ a ∈ as, O a ∧ B.H a = none ∧ ∃ o, H a = some o ∧ ∀ vs, o ≠ .lst vs) (hF : F.φ H (hid O H)) : Sg K B O H (σ.set i (some v)) (Γ.set i (some (.fac v as F))) := by
  refine ⟨g.ext, g.fo, g.fs, g.live, by rw [List.length_set, List.length_set, g.len], fun j s e => ?_, fun j k xs ys p h1 h2 h3 h4 => ?_⟩
  · by_cases q : j = i
    · subst q
      obtain ⟨e1, e2⟩ := get_set_eq e
      cases e1
      exact ⟨v, get_set_of (by rw [g.len]; exact e2), rfl, ha, hF⟩
    · rw [get_set_ne q] at e ⊢
      exact g.slot j s e
  · have nj : j ≠ i := fun q => by
      subst q
      have := (get_set_eq h1).1
      cases this
    have nk : k ≠ i := fun q => by
      subst q
      have := (get_set_eq h2).1
      cases this
    rw [get_set_ne nj] at h1 h3
    rw [get_set_ne nk] at h2 h4
    exact g.inj j k xs ys p h1 h2 h3 h4
/-- two things are laid that are no one's yet, and owned -/
theorem Sg.two {K : PySem.W.Frag} {B : Bs} {H H2 : Hp} {O : Addr → Prop} {σ : L2.St} {Γ : Gm} (g : Sg K B O H σ Γ) {p d : Addr} {o1 o2 : HO} (hp : H p = none) (hd : H d = none) (s : Same H H2) (h1 : H2 p = some o1) (h2 : H2 d = some o2) (npd : p ≠ d) : Sg K B (fun a => O a ∨ a = p ∨ a = d) H2 σ Γ := by
  have g1 := g.grow hp (same_upd (o := o1) hp) ⟨_, upd_same⟩
  have s2 : Same (upd H p o1) H2 := fun b o e => by
    by_cases q : b = p
    · subst q
      rw [upd_same] at e
      cases e
      exact h1
    · rw [upd_ne q] at e
      exact s b o e
  have g2 := g1.grow (p := d) ((upd_ne npd.symm).trans hd) s2 ⟨_, h2⟩
  have e : (fun a => (O a ∨ a = p) ∨ a = d) = (fun a => O a ∨ a = p ∨ a = d) := by
    funext a
    exact propext or_assoc
  rw [e] at g2
  exact g2
def linesF (i j : Int) (d : Addr) : List (Str × V) := putF "marks" (.ref d) (putF "wide" (.int j) (putF "size" (.int i) []))
theorem lf_size (i j : Int) (d : Addr) : (linesF i j d).lookup ("size" : Str) = some (.int i) := by
  unfold linesF
  rw [lookup_putF, if_neg (by decide +kernel), lookup_putF, if_neg (by decide +kernel), lookup_putF, if_pos rfl]
theorem lf_wide (i j : Int) (d : Addr) : (linesF i j d).lookup ("wide" : Str) = some (.int j) := by
  unfold linesF
  rw [lookup_putF, if_neg (by decide +kernel), lookup_putF, if_pos rfl]
theorem lf_marks (i j : Int) (d : Addr) : (linesF i j d).lookup ("marks" : Str) = some (.ref d) := by
  unfold linesF
  rw [lookup_putF, if_pos rfl]
theorem lf_no (i j : Int) (d : Addr) {m : Str} (h1 : ¬ m = "marks") (h2 : ¬ m = "wide") (h3 : ¬ m = "size") : (linesF i j d).lookup m = none := by
  unfold linesF
  rw [lookup_putF, if_neg h1, lookup_putF, if_neg h2, lookup_putF, if_neg h3]
  all_goals rfl
theorem lf_less (i j : Int) (d : Addr) : (linesF i j d).lookup ("less" : Str) = none := lf_no i j d (by decide +kernel) (by decide +kernel) (by decide +kernel)
theorem lf_lay (i j : Int) (d : Addr) : (linesF i j d).lookup ("lay" : Str) = none := lf_no i j d (by decide +kernel) (by decide +kernel) (by decide +kernel)
/-- Lines.__init__ -/
def spLI (C : Addr) : Sp := fun vs H Q _ => ∃ (p dx : Addr) (i j : Int), vs = [.ref p, .int i, .int j] ∧ H p = some (.ins C dx []) ∧ ∀ d H2, H d = none → d ≠ p → H2 p = some (.ins C dx (linesF i j d)) → H2 d = some (.dK []) → (∀ b, b ≠ p → b ≠ d → H2 b = H b) → Q .non H2
/-- what is known of the class Lines -/
structure LinesC (K : PySem.W.Frag) (mg : Str → Option Value) (C : Addr) : Prop where
  cl : Cls K C
  size : NoAttr K C "size"
  wide : NoAttr K C "wide"
  marks : NoAttr K C "marks"
  g : mg "Lines" = some (.ref C)
structure MkL (P : Program) (w : World) (K : PySem.W.Frag) (mg : Str → Option Value) (base : Heap) (k : Nat) (C : Addr) (ps : List Str) (sp : Sp) : Prop where
  ex : ∃ f fd, FnOk P w K mg base CX0 k f fd ps sp ∧ Mk K C f ∧ Binds K fd ps []
/-- a pair of an object and data is handed back -/
def spL (K : PySem.W.Frag) (C : Addr) (R : List PyData → Int → Int → List (Int × PyData) → PyData → Prop) : Sp := fun vs H Q _ => ∃ (O : Addr → Prop) (ds : List PyData) (i j : Int) (ms : List (Int × PyData)) (r : PyData), Live O H ∧ DpAll K (hid O H) vs ds ∧ R ds i j ms r ∧
  ∀ t p dx d rv kvs H2, Same H H2 → H2 t = some (.tup [.ref p, rv]) → H p = none → H d = none → H2 p = some (.ins C dx (linesF i j d)) → H2 d = some (.dK kvs) → DK K (hid (fun a => O a ∨ a = p ∨ a = d) H2) kvs ms → Dp K (hid (fun a => O a ∨ a = p ∨ a = d) H2) rv r → Q (.ref t) H2
def endL (K : PySem.W.Frag) (C : Addr) (i j : Int) (ms : List (Int × PyData)) (r : PyData) : (Addr → Prop) → Hp → V → Gm → Prop := fun O H v Γ => ∃ (t p dx d : Addr) (rv : V) (ix : Nat), v = .ref t ∧ H t = some (.tup [.ref p, rv]) ∧ Γ[ix]? = some (some (SD.fac (.ref p) [p, d] (objF K C p dx d none (linesF i j d) ms))) ∧ Dp K (hid O H) rv r
section
variable {X : Cx} {Γ : Gm} {a b e : Expr} {es : List Expr} {pe pa pos p' px py pt : Pos} {x y f m : Str} {C p dx d : Addr} {fs : List (Str × V)} {ms ms' : List (Int × PyData)} {as : List Addr} {dd r : PyData} {n : Nat} {F : Fac} {rest body : List Stmt} {P : Po}
/-- y = Lines(a, b) -/
theorem ds_makeL (ix : Nat) {k : Nat} {ps : List Str} {i j : Int} (hND : X.N.Nodup) (L : LinesC X.K X.mg C) (hm : MkL X.prog X.w X.K X.mg X.base k C ps (spLI C)) (hr : Room n X.A) (ha : DA X [a, b] Γ [.int i, .int j])
    (kk : ∀ p dx d, DS X rest (Γ.set ix (some (.fac (.ref p) [p, d] (objF X.K C p dx d none (linesF i j d) [])))) P) (hk : k + 1 ≤ n := by decide)
    (hg : Gl X "Lines" := by rfl) (he : starEach [a, b] X.env = (false, eval a X.env) :: starEach [b] X.env := by rfl) (hpl : (backTo pos (starEach [b] X.env)).any (·.1) = false := by rfl)
    (hj : X.N[ix]? = some y := by rfl) (hy : Loc X.env.scope y := by first | exact Or.inl rfl | exact Or.inr rfl) (hf : X.fn y = true ∨ X.env.scope.names.lookup y = some .local := by first | exact .inl rfl | exact .inr rfl)
    {pos' : Pos} (hs' : swapsWith (.Call (.Name "Lines" pe) [a, b] [] pos) (some (.Name y p')) pos'.line X.env = pure false := by rfl) :
    DS X (.Assign [.Name y p'] (.Call (.Name "Lines" pe) [a, b] [] pos) pos' :: rest) Γ P := fun B O H σ D g ff => by
  obtain ⟨f', fd, Fn, mk, hb⟩ := hm.ex
  refine wB_of (pss_cons (ps_set hND hj hy (pe_make mk Fn (hr.mono hk) hg L.g hb .nil pass0 pa_w (by decide) he hpl) hs' hf) pss_w) (ha B O H σ _ g fun vs H1 s1 d1 => ?_)
  cases d1 with
  | cons q1 q2 =>
    cases q2 with
    | cons q2 q3 =>
      cases q3
      cases q1
      cases q2
      intro z dx hz hdx nez
      refine ⟨z, dx, i, j, rfl, upd_same, fun d H2 hd ndz h1 h2 h3 => ⟨rfl, ?_⟩⟩
      have hd0 : H1 d = none := by
        rw [upd_ne ndz] at hd
        by_cases q : d = dx
        · subst q
          rw [upd_same] at hd
          cases hd
        · rw [upd_ne q] at hd
          exact hd
      have nddx : d ≠ dx := fun q => by
        subst q
        rw [upd_ne ndz, upd_same] at hd
        cases hd
      have sm : Same H1 H2 := fun b o e => by
        have n1 : b ≠ z := ne_of_none e hz
        have n2 : b ≠ d := ne_of_none e hd0
        rw [h3 b n1 n2, upd_ne n1, upd_ne (ne_of_none e hdx)]
        exact e
      have g1 := g.step s1
      have g2 := g1.two hz hd0 sm h1 h2 ndz.symm
      refine kk z dx d B _ H2 _ D (g2.setFac (i := ix) (v := .ref z) (as := [z, d]) (fun a ha => ?_) ⟨h1, [], h2, .nil⟩) ff
      have e' : a = z ∨ a = d := by simpa using ha
      rcases e' with q | q
      · subst q
        exact ⟨.inr (.inl rfl), g1.ext.free hz, _, h1, fun vs z => by cases z⟩
      · subst q
        exact ⟨.inr (.inr rfl), g1.ext.free hd0, _, h2, fun vs z => by cases z⟩
/-- return (x, e), x an object -/
theorem ds_retPair (ix : Nat) {i j : Int} {kt : Nat} (h : Γ[ix]? = some (some (.fac (.ref p) [p, d] (objF X.K C p dx d none (linesF i j d) ms)))) (he : DE X e Γ r) (hP : ∀ O H t rv, H t = some (.tup [.ref p, rv]) → Dp X.K (hid O H) rv r → P.rr O H (.ref t) Γ)
    (hN : X.N[ix]? = some x := by rfl) (hv : Vis X.env.scope x := by first | exact Or.inl rfl | exact Or.inr (Or.inl rfl) | exact Or.inr (Or.inr rfl)) (hdb : (x == ("__debug__" : Str)) = false := by decide) (hcd : (x == ("__classdict__" : Str)) = false := by decide)
    (he1 : starEach [.Name x px, e] X.env = (false, eval (.Name x px) X.env) :: starEach [e] X.env := by rfl) (he2 : starEach [e] X.env = (false, eval e X.env) :: starEach [] X.env := by rfl) :
    DS X (.Return (some (.Tuple [.Name x px, e] kt pt)) pos :: rest) Γ P := fun B O H σ D g ff => by
  obtain ⟨h1, h2⟩ := fac_get g h
  refine wB_of (pss_cons (ps_ret (pe_tup (pa_cons (pv ix hN hv hdb hcd) (pa_cons pe_w pa_nil he2) he1))) pss_w) ⟨_, h1, he B O H σ _ g fun v H2 s2 d2 => ⟨(by show 2 ≤ sizeLine; decide), fun t ht => ?_⟩⟩
  have s3 := s2.trans (same_upd (o := .tup [.ref p, v]) ht)
  exact ff.rr O _ σ Γ _ (hP O _ t v upd_same (dp_mono (hid_mono (same_upd ht)) _ _ d2)) (g.step s3)
/-- x, y = f(..), a pair of an object and data -/
theorem ds_unpackL (ix jx : Nat) {k : Nat} {ps : List Str} {z : Str} {i j : Int} {kt : Nat} {ds : List PyData} {R : List PyData → Int → Int → List (Int × PyData) → PyData → Prop} (hND : X.N.Nodup) (hh : Has X.prog X.w X.K X.mg X.base k z ps (spL X.K C R)) (hr : Room n X.A) (ha : DA X (e :: es) Γ ds) (hR : R ds i j ms r)
    (kk : ∀ p dx d, DS X rest ((Γ.set ix (some (.fac (.ref p) [p, d] (objF X.K C p dx d none (linesF i j d) ms)))).set jx (some (.d r))) P) (hk : k ≤ n := by decide)
    (hg : Gl X z := by rfl) (hdb : (z == ("__debug__" : Str)) = false := by decide) (he : starEach (e :: es) X.env = (false, eval e X.env) :: starEach es X.env := by rfl) (hpl : (backTo pos (starEach es X.env)).any (·.1) = false := by rfl)
    (hix : X.N[ix]? = some x := by rfl) (hx : Loc X.env.scope x := by first | exact Or.inl rfl | exact Or.inr rfl) (hfx : X.fn x = true ∨ X.env.scope.names.lookup x = some .local := by first | exact .inl rfl | exact .inr rfl)
    (hjx : X.N[jx]? = some y := by rfl) (hy : Loc X.env.scope y := by first | exact Or.inl rfl | exact Or.inr rfl) (hfy : X.fn y = true ∨ X.env.scope.names.lookup y = some .local := by first | exact .inl rfl | exact .inr rfl)
    (hc : X.calm = true := by rfl) (h1 : (assignEach [.Name x px, .Name y py] X.env).map (·.2) = assign (.Name x px) X.env :: (assignEach [.Name y py] X.env).map (·.2) := by rfl) (h2 : (assignEach [.Name y py] X.env).map (·.2) = assign (.Name y py) X.env :: (assignEach [] X.env).map (·.2) := by rfl)
    (hn : (assignEach [.Name x px, .Name y py] X.env).length = 2 := by rfl) (hst : (assignEach [.Name x px, .Name y py] X.env).findIdx? (·.1) = none := by rfl)
    {pos' : Pos} (hs : swapsWithSole [.Tuple [.Name x px, .Name y py] kt pt] (.Call (.Name z pe) (e :: es) [] pos) pos'.line X.env = pure false := by rfl) (hw : swappedStores [.Tuple [.Name x px, .Name y py] kt pt] (.Call (.Name z pe) (e :: es) [] pos) X.env = pure none := by rfl)
    (h3 : (assignEach [.Tuple [.Name x px, .Name y py] kt pt] X.env).map (·.2) = [assign (.Tuple [.Name x px, .Name y py] kt pt) X.env] := by rfl) :
    DS X (.Assign [.Tuple [.Name x px, .Name y py] kt pt] (.Call (.Name z pe) (e :: es) [] pos) pos' :: rest) Γ P := fun B O H σ D g ff => by
  obtain ⟨f, fd, Fn, hm, hkp, hb⟩ := hh.ex
  refine wB_of (pss_cons (ps_asg (pe_call Fn (hr.mono hk) hg hm hkp hb .nil pass0 pa_w hdb he hpl) (pg_tup hc (pgs_cons (pg_name hND hix hx hfx) (pgs_cons (pg_name hND hjx hy hfy) pgs_nil h2) h1) hn hst) hs hw h3) pss_w) (ha B O H σ _ g fun vs H2 s2 d2 => ?_)
  have g1 := g.step s2
  refine ⟨O, ds, i, j, ms, r, g1.live, by rw [List.append_nil]; exact d2, hR, fun t p dx d rv kvs H3 s3 ht hp hd hp3 hd3 hk3 hr3 => ?_⟩
  have npd : p ≠ d := fun z => by rw [z, hd3] at hp3; cases hp3
  have g2 := g1.two hp hd s3 hp3 hd3 npd
  refine ⟨t, _, rfl, .inl (.inl ht), rfl, _, _, rfl, _, _, rfl, rfl, ?_⟩
  refine kk p dx d B _ H3 _ D ((g2.setFac (i := ix) (v := .ref p) (as := [p, d]) (F := objF X.K C p dx d none (linesF i j d) ms) (fun a ha => ?_) ⟨hp3, kvs, hd3, hk3⟩).setD hr3) ff
  have e' : a = p ∨ a = d := by simpa using ha
  rcases e' with q | q
  · subst q
    exact ⟨.inr (.inl rfl), g1.ext.free hp, _, hp3, fun vs z => by cases z⟩
  · subst q
    exact ⟨.inr (.inr rfl), g1.ext.free hd, _, hd3, fun vs z => by cases z⟩
/-- f(..)[1], a pair of an object and data -/
theorem de_sndL {k : Nat} {ps : List Str} {z : Str} {i j : Int} {kc : Nat} {ds : List PyData} {R : List PyData → Int → Int → List (Int × PyData) → PyData → Prop} (hh : Has X.prog X.w X.K X.mg X.base k z ps (spL X.K C R)) (hr : Room n X.A) (ha : DA X (e :: es) Γ ds) (hR : R ds i j ms r) (hk : k ≤ n := by decide)
    (hg : Gl X z := by rfl) (hdb : (z == ("__debug__" : Str)) = false := by decide) (he : starEach (e :: es) X.env = (false, eval e X.env) :: starEach es X.env := by rfl) (hpl : (backTo pos (starEach es X.env)).any (·.1) = false := by rfl) {pi ps' : Pos} (hs : PlainIx (.Constant (.int 1) kc pi) := by intro _ _; rfl) :
    DE X (.Subscript (.Call (.Name z pe) (e :: es) [] pos) (.Constant (.int 1) kc pi) ps') Γ r := fun B O H σ Q g q => by
  obtain ⟨f, fd, Fn, hm, hkp, hb⟩ := hh.ex
  refine wE_of (pe_ix ix_tup (pe_call Fn (hr.mono hk) hg hm hkp hb .nil pass0 pa_w hdb he hpl) pe_int hs) (ha B O H σ _ g fun vs H2 s2 d2 => ?_)
  have g1 := g.step s2
  refine ⟨O, ds, i, j, ms, r, g1.live, by rw [List.append_nil]; exact d2, hR, fun t p dx d rv kvs H3 s3 ht hp hd hp3 hd3 hk3 hr3 => ?_⟩
  refine ⟨t, _, _, rv, rfl, rfl, .inl (.inl ht), rfl, q rv H3 (s2.trans s3) (dp_mono (fun b o z => hid_iff.mpr ⟨fun ob => (hid_iff.mp z).1 (.inl ob), (hid_iff.mp z).2⟩) _ _ hr3)⟩
end
section
variable {P : Program} {w : World} {K : PySem.W.Frag} {mg : Str → Option Value} {base : Heap}
theorem fn_ofL {x : Str} {st : Stmt} {f C : Addr} {fd : FuncData} {N ps : List Str} {k : Nat} {R : List PyData → Int → Int → List (Int × PyData) → PyData → Prop} (F : Fun K x x st f fd) (S : FnScope N ps (defScope st)) (len : ∀ ds i j ms r, R ds i j ms r → ds.length = ps.length)
    (body : ∀ (X : Cx) (cdv : Value) (A : Around) (outer : List Env) (s : Shared) (H : Hp) (E : XK), X = (cxOf CX0 P w K mg base N x (defScope st) f cdv A outer s H E).nox → Room k X.A → ∀ ds i j ms r, R ds i j ms r → DS X (defBody st) (envOf N ds) { nx := fun _ => False, rt := fun _ => False, rr := endL K C i j ms r }) : FnOk P w K mg base CX0 (k + 1) f fd ps (spL K C R) := by
  refine F.ok S (fun vs H Q E h => ?_) (fun cdv A outer s H vs Q E hr h => ?_)
  · obtain ⟨O, ds, i, j, ms, r, _, h1, h2, _⟩ := h
    rw [dpAll_len h1, len _ _ _ _ _ h2]
  · obtain ⟨O, ds, i, j, ms, r, lv, h1, h2, q⟩ := h
    refine ⟨_, pss_w, body _ cdv A outer s H E rfl hr ds i j ms r h2 ⟨O, H⟩ O H _ _ (envOf_sg lv h1) ⟨fun _ _ _ _ m => m.elim, fun _ _ _ m => m.elim, fun _ _ _ _ m => m.elim, fun _ _ _ _ m => m.elim, fun _ _ m => m.elim, fun O' H' σ' Γ' v m g' => ?_⟩⟩
    obtain ⟨t, p, dx, d, rv, ix, rfl, ht, hsl, hr'⟩ := m
    obtain ⟨_, _, _, own, t1, kvs', t2, t3⟩ := g'.slot ix _ hsl
    have sub : Same (hid O' H') (hid (fun a => O a ∨ a = p ∨ a = d) H') := fun b o z => hid_iff.mpr ⟨fun (ob : O b ∨ b = p ∨ b = d) => (hid_iff.mp z).1 (by
      rcases ob with ob | ob | ob
      · exact (g'.fs b ob).1
      · subst ob; exact (own _ (by simp)).1
      · subst ob; exact (own _ (by simp)).1), (hid_iff.mp z).2⟩
    exact q t p dx d rv kvs' H' g'.ext ht (own p (by simp)).2.1 (own d (by simp)).2.1 t1 t2 (t3.mono sub) (dp_mono sub _ _ hr')
end
end EY
set_option autoImplicit false
set_option maxHeartbeats 1000000
namespace EY
open PySem PySem.Spec PyProof.Rows L2
def isFac : Option SD → Bool
  | some (.fac _ _ _) => true
  | _ => false
def onlyB : Gm → Nat → Bool
  | [], _ => true
  | _ :: g, 0 => g.all fun s => !isFac s
  | s :: g, i + 1 => !isFac s && onlyB g i
theorem only_of : ∀ {Γ : Gm} {i : Nat}, onlyB Γ i = true → Only Γ i
  | [], i, _, j, w, as, F, e => by simp at e
  | s :: g, 0, h, j, w, as, F, e => by
    cases j with
    | zero => rfl
    | succ j =>
      rw [List.getElem?_cons_succ] at e
      have := List.all_eq_true.mp h _ (List.mem_of_getElem? e)
      cases this
  | s :: g, i + 1, h, j, w, as, F, e => by
    rw [onlyB, Bool.and_eq_true] at h
    cases j with
    | zero =>
      rw [List.getElem?_cons_zero] at e
      cases e
      cases h.1
    | succ j =>
      rw [List.getElem?_cons_succ] at e
      rw [only_of h.2 j w as F e]
section
variable {X : Cx} {Γ : Gm} {tg : Expr} {es : List Expr} {pe pa pos p' : Pos} {x y f m : Str} {C p dx d : Addr} {fs : List (Str × V)} {ms ms' : List (Int × PyData)} {as : List Addr} {dd r : PyData} {n : Nat} {F : Fac} {rest body : List Stmt} {P : Po}
theorem DS.wkEnd {G : Gm} {Pr : PyData → Prop} (h : DS X body Γ { nx := Wk G, rt := Pr }) : DS X body Γ { nx := fun g => g = G, rt := Pr } := fun B O H σ D g f =>
  h B O H σ D g ⟨fun O' H' σ' Γ' w g' => f.nx O' H' σ' G rfl (g'.wk w), f.rt, f.bk, f.ct, f.xr, f.rr⟩
/-- for k in x.f, by what is known ahead of each turn -/
theorem ds_forKeysG (i : Nat) (G : Option (Obj × List (Key × V)) → Nat → Gm) (w : Wk (G none 0) Γ) (cl : Cls X.K C) (na : NoAttr X.K C f) (hl : fs.lookup f = some (.ref d)) (h : ∀ lk j, (G lk j)[i]? = some (some (.fac (.ref p) as (objF X.K C p dx d lk fs ms)))) (only : ∀ lk j, Only (G lk j) i) (hdas : d ∈ as)
    (h0 : ∀ lk, (G none 0).set i (some (.fac (.ref p) as (objF X.K C p dx d lk fs ms))) = G lk 0) (he : ∀ lk, (G lk ms.length).set i (some (.fac (.ref p) as (objF X.K C p dx d none fs ms))) = G none ms.length)
    (hs : ∀ lk j, j < ms.length → ∃ Γ'' js, DG X tg (G lk j) (.int (ms.getD j (0, .none)).1) Γ'' js ∧ DS X body Γ'' { nx := Wk (G lk (j + 1)), rt := fun _ => False })
    (hd : DS X rest (G none ms.length) P)
    (hN : X.N[i]? = some x := by rfl) (hv : Vis X.env.scope x := by first | exact Or.inl rfl | exact Or.inr (Or.inl rfl) | exact Or.inr (Or.inr rfl)) (hdb : (x == ("__debug__" : Str)) = false := by decide) (hcd : (x == ("__classdict__" : Str)) = false := by decide) (hb : attributeBase (.Name x pe) f X.env (eval (.Name x pe) X.env) = eval (.Name x pe) X.env := by rfl)
    (hp : PassesOwn (model X.prog X.w) X.A X.env X.xe := by exact PassesOwn.never) (hc : X.calm = true := by rfl) (hf : ∀ z, foldedSetIterable (.Attribute (.Name x pe) f pa) X.env z = pure z := by intro _; rfl) : DS X (.For tg (.Attribute (.Name x pe) f pa) body [] pos :: rest) Γ P :=
  ds_wk w (ds_forKeys i (fun lk j Γ' => Γ' = G lk j) (h none 0) (only none 0) hdas cl na hl (fun lk j Γ' e => by subst e; exact ⟨h lk j, only lk j⟩) h0
    (fun lk j Γ' hj e => by
      subst e
      obtain ⟨Γ'', js, t1, t2⟩ := hs lk j hj
      exact ⟨Γ'', js, t1, t2.wkEnd⟩)
    (fun lk Γ' e => by
      subst e
      rw [he lk]
      exact hd) hN hv hdb hcd hb hp hc hf)
end
end EY
namespace EY
open PySem PySem.Spec PyProof.Rows L2
theorem DG.wk {X : Cx} {tg : Expr} {G Γ Γ' : Gm} {d : PyData} {js : List Nat} (w : Wk G Γ) (h : DG X tg G d Γ' js) : DG X tg Γ d Γ' js := fun B O H σ v Q g hd q => h B O H σ v Q (g.wk w) hd q
end EY
set_option autoImplicit false
set_option maxHeartbeats 4000000
/-! sorted of a tuple of ints; tuple * 0, tuple * 1 -/
namespace EY
open PySem PySem.Spec PyProof.Rows L2
section
variable {prog : Program} {w : World} {A : Around} {E : Value → Shared → Prop} {s : Shared}
theorem sorted_tup {l : Addr} {vs : List Value} {ns : List Int} {Q : Value → Shared → Prop} (hl : IsTup s.heap l vs.toArray) (hI : IntsAre vs ns) (hL : vs.length ≤ sizeLine)
    (h : ∀ (h1 h' : Heap) (out : Array Value) (ns' : List Int) (ep : Nat), IntsAre out.toList ns' → ns'.Perm ns → ns'.Pairwise (· ≤ ·) → (∀ b o, s.heap.get? b = some o → h1.get? b = some o) → (∀ b o, h1.get? b = some o → h'.get? b = some o) → h'.get? h1.objs.size = some (seqObj "list" out ep) → Q (.ref h1.objs.size) { s with heap := h' }) :
    wpAny (model prog w) A (call (.builtin "sorted") [.ref l]) Q E s := by
  refine Calls.call_function_entry kind_sorted plain_sorted entry_sorted (args_sorted1 _) ?_
  unfold Builtin.«sorted»
  refine wpAny_bind (m := checkCount "sorted" 1 1 _) (wpAny_pure ?_)
  obtain ⟨o, ho, hc, n, hd⟩ := hl
  refine wpAny_bind (wpAny_collect_seq l (.inr rfl) ho hc hd (fun h1 hk => ?_) (by simpa using hL))
  refine wpAny_bind (wpAny_newList ?_)
  show wpAny _ _ _ _ _ { s with heap := h1.push (seqObj "list" vs.toArray 0) }
  have hoL : (h1.push (seqObj "list" vs.toArray 0)).get? h1.objs.size = some (seqObj "list" vs.toArray 0) := Heap.get?_push_size _ rfl
  refine wpAny_bind (wpAny_holding (wpAny_call_entry slot_list_sort ⟨_, hoL, rfl⟩ entry_list_sort (list_sort_treeAny (s := { s with heap := h1.push (seqObj "list" vs.toArray 0) }) hoL hI hL fun out ns' a1 a2 a3 => ⟨_, rfl, ?_⟩) (args_list_sort _)))
  obtain ⟨ep, he⟩ := sortedHeap_at (vs := vs) (out := out) hoL
  refine wpAny_pure ⟨_, rfl, h h1 _ out ns' ep a1 a2 a3 hk (fun b o e => ?_) he⟩
  have hb : b ≠ h1.objs.size := Nat.ne_of_lt (Heap.lt_size e)
  exact (sortedHeap_old hb (Heap.lt_size (Heap.get?_push_of_some _ e))).trans (Heap.get?_push_of_some _ e)
end
end EY

namespace EY
open PySem PySem.Spec PyProof.Rows L2
theorem perm_sorted : ∀ {a b : List Int}, a.Perm b → a.Pairwise (· ≤ ·) → b.Pairwise (· ≤ ·) → a = b
  | [], b, p, _, _ => (List.Perm.nil_eq p)
  | x :: a, [], p, _, _ => by cases p.length_eq
  | x :: a, y :: b, p, sa, sb => by
    rw [List.pairwise_cons] at sa sb
    have h1 : x ∈ y :: b := p.subset (List.mem_cons_self ..)
    have h2 : y ∈ x :: a := p.symm.subset (List.mem_cons_self ..)
    have e : x = y := by
      rcases List.mem_cons.mp h1 with q | q
      · exact q
      · rcases List.mem_cons.mp h2 with r | r
        · exact r.symm
        · have := sa.1 y r
          have := sb.1 x q
          omega
    subst e
    rw [perm_sorted (List.Perm.cons_inv p) sa.2 sb.2]
/-- the ints of a list, the least first -/
def sortI (ns : List Int) : List Int := ns.mergeSort (fun a b => decide (a ≤ b))
theorem sortI_perm (ns : List Int) : (sortI ns).Perm ns := List.mergeSort_perm ns _
theorem sortI_sorted (ns : List Int) : (sortI ns).Pairwise (· ≤ ·) := by
  have := List.pairwise_mergeSort (le := fun (a b : Int) => decide (a ≤ b)) (fun a b c h1 h2 => by simp at *; omega) (fun a b => by simp; omega) ns
  exact this.imp fun h => by simpa using h
theorem sortI_len (ns : List Int) : (sortI ns).length = ns.length := (sortI_perm ns).length_eq
theorem sortI_of {ns : List Int} (h : ns.Pairwise (· ≤ ·)) : sortI ns = ns := perm_sorted (sortI_perm ns) (sortI_sorted ns) h
theorem sortI_eq {ns ms : List Int} (p : ms.Perm ns) (h : ms.Pairwise (· ≤ ·)) : ms = sortI ns := perm_sorted (p.trans (sortI_perm ns).symm) h (sortI_sorted ns)
section
variable {X : Cx} {Γ : Gm} {a b c e : Expr} {es : List Expr} {p p2 pos : Pos} {ns : List Int} {i : Int}
def rSortT (K : PySem.W.Frag) : List V → Hp → VK → Prop := fun vs H Q => ∃ (a : Addr) (ns : List Int), vs = [V.ref a] ∧ SqT K H a (ns.map V.int) ∧ ns.length ≤ 1000 ∧
  ∀ (p : Addr), H p = none → Q (.ref p) (upd H p (.lst ((sortI ns).map V.int)))
theorem cr_sortT : CallR X (.builtin "sorted") (rSortT X.K) := by
  intro pins s σ H vs us Q I r h
  obtain ⟨a, ns, rfl, hs, h64, q⟩ := h
  obtain ⟨its, rv, hl, hz⟩ := I.tuple hs
  rw [Vals.ref1 r]
  have hi := rv.ints
  have hlen := hi.length
  have hsm : its.length ≤ sizeLine := by rw [hlen]; exact Nat.le_of_lt (small1000 h64)
  refine sorted_tup hl hi hsm fun h1 h' out ns' ep a1 a2 a3 k1 k2 he => ?_
  have e := sortI_eq a2 a3
  subst e
  have I1 := I.kept (t' := s.toks) k1
  have hl2 : ((sortI ns).map V.int).length ≤ sizeLine := by rw [List.length_map, sortI_len]; exact Nat.le_of_lt (small1000 h64)
  exact ⟨.ref _, _, I1.laid (o := .lst ((sortI ns).map V.int)) (t' := s.toks) (h' := h') (a := h1.objs.size) k2 (Nat.le_refl _) ⟨hl2, out.toList, ep, vals_of_ints a1, he⟩, rfl, q _ (I1.hok.fresh (Nat.le_refl _))⟩
theorem dl_sortT (hm : X.mg "sorted" = none) (h : DE X e Γ (tupI ns)) (hl : ns.length ≤ 1000) (hg : Gl X "sorted" := by rfl) (he : starEach [e] X.env = (false, eval e X.env) :: starEach [] X.env := by rfl) : DL X (.Call (.Name "sorted" p) [e] [] pos) Γ ((sortI ns).map .int) := fun B O H σ Q g q =>
  wE_callB cr_sortT hm PyProof.Rows.boot_sorted hg (wA_one he (h B O H σ _ g fun v H2 s2 d2 => by
    cases d2 with
    | tup hs ha =>
      rename_i l vs
      have e := dpAll_ints ha
      subst e
      exact ⟨l, ns, rfl, Same.seqT hid_sub hs, hl, fun p' hp => q p' _ _ (s2.free hp) (s2.trans (same_upd hp)) upd_same (ints_dpAll _)⟩)) (by decide) (by decide) he rfl
def rSortL (K : PySem.W.Frag) : List V → Hp → VK → Prop := fun vs H Q => ∃ (a : Addr) (ns : List Int), vs = [V.ref a] ∧ SqL K H a (ns.map V.int) ∧ ns.length ≤ 1000 ∧
  ∀ (p : Addr), H p = none → Q (.ref p) (upd H p (.lst ((sortI ns).map V.int)))
theorem cr_sortL : CallR X (.builtin "sorted") (rSortL X.K) := by
  intro pins s σ H vs us Q I r h
  obtain ⟨a, ns, rfl, hs, h64, q⟩ := h
  obtain ⟨its, rv, hl, hz⟩ := I.list hs
  rw [Vals.ref1 r]
  have hi := rv.ints
  have hlen := hi.length
  have hsm : its.length ≤ sizeLine := by rw [hlen]; exact Nat.le_of_lt (small1000 h64)
  refine sorted_intsAny hl.isList hi hsm fun out ns' h1 h2 h3 => ?_
  have e := sortI_eq h2 h3
  subst e
  obtain ⟨ep, he'⟩ := PyProof.Rows.sortedAll_at s.heap its out
  have hl2 : ((sortI ns).map V.int).length ≤ sizeLine := by rw [List.length_map, sortI_len]; exact Nat.le_of_lt (small1000 h64)
  exact ⟨.ref _, upd H (s.heap.objs.size + 1) (.lst ((sortI ns).map V.int)), I.laid (t' := s.toks) (fun _ _ => PyProof.Rows.sortedAll_old) (Nat.le_succ _) ⟨hl2, out.toList, ep, vals_of_ints h1, he'⟩, rfl, q _ (I.hok.fresh (Nat.le_succ _))⟩
theorem dl_sortL (hm : X.mg "sorted" = none) (h : DR X e Γ (ns.map .int)) (hl : ns.length ≤ 1000) (hg : Gl X "sorted" := by rfl) (he : starEach [e] X.env = (false, eval e X.env) :: starEach [] X.env := by rfl) : DL X (.Call (.Name "sorted" p) [e] [] pos) Γ ((sortI ns).map .int) := fun B O H σ Q g q =>
  wE_callB cr_sortL hm PyProof.Rows.boot_sorted hg (wA_one he (h B O H σ _ g fun l vs H2 s2 l2 a2 => by
    have e := dpAll_ints a2
    subst e
    exact ⟨l, ns, rfl, l2, hl, fun p' hp => q p' _ _ (s2.free hp) (s2.trans (same_upd hp)) upd_same (ints_dpAll _)⟩)) (by decide) (by decide) he rfl
end
/-! ### tuple * 0, tuple * 1 -/
theorem tuple_mulSame (l : Addr) (items : Array Value) (n : Nat) (dd : Option Addr) (sl : Array (Option Value)) (x : Int) (u : Tok) (c0 : (decide (x < -(2 ^ 63)) || decide (x ≥ 2 ^ 63)) = false) (c1 : (items.isEmpty || x == 1) = true) :
    Meets (Builtin.«tuple.__mul__» ⟨[.ref l, .int x u], []⟩) (fun _ R s => s.heap.get? l = some { cls := .type "tuple", dict := dd, data := .seq items n, slots := sl } ∧
      R (.ok (.ret (Value.ref l))) s) :=
  .of_wp fun prog w A R s h => by
    obtain ⟨hp, g, d, tk, os⟩ := s
    obtain ⟨hl, h⟩ := h
    have f1 := AutoSeq1.idx_int
    have hT : Shared.TypeIs ⟨hp, g, d, tk, os⟩ (.ref l) "tuple" := ⟨_, hl, rfl⟩
    wp_walk using wpAny_loadPart' hl
    repeat (first
      | (refine wpAny_ite_false (decide_eq_false (by rw [c0]; exact Bool.false_ne_true)) ?_; wp_walk using wpAny_loadPart' hl)
      | (refine wpAny_ite_true (decide_eq_true c1) ?_; wp_walk using wpAny_loadPart' hl, wpAny_typeOf hT))
    exact ⟨_, rfl, h⟩
theorem tuple_mulZero (l : Addr) (items : Array Value) (n : Nat) (dd : Option Addr) (sl : Array (Option Value)) (x : Int) (u : Tok) (c0 : (decide (x < -(2 ^ 63)) || decide (x ≥ 2 ^ 63)) = false) (c1 : (items.isEmpty || x == 1) = false) (c2 : (decide (x ≤ 0) || items.isEmpty) = true) :
    Meets (Builtin.«tuple.__mul__» ⟨[.ref l, .int x u], []⟩) (fun _ R s => s.heap.get? l = some { cls := .type "tuple", dict := dd, data := .seq items n, slots := sl } ∧
      R (.ok (.ret (Value.ref s.heap.objs.size))) { s with heap := s.heap.push { cls := Value.type "tuple", data := Data.seq #[] }, toks := s.toks }) :=
  .of_wp fun prog w A R s h => by
    obtain ⟨hp, g, d, tk, os⟩ := s
    obtain ⟨hl, h⟩ := h
    have f1 := AutoSeq1.idx_int
    wp_walk using wpAny_loadPart' hl
    repeat (first
      | (refine wpAny_ite_false (decide_eq_false (by rw [c0]; exact Bool.false_ne_true)) ?_; wp_walk using wpAny_loadPart' hl)
      | (refine wpAny_ite_false (decide_eq_false (by rw [c1]; exact Bool.false_ne_true)) ?_; wp_walk using wpAny_loadPart' hl)
      | (refine wpAny_ite_true (decide_eq_true c2) ?_; wp_walk using wpAny_loadPart' hl))
    exact ⟨_, rfl, h⟩
def rRepE (K : PySem.W.Frag) : R2 := fun x y H Q => ∃ l k, x = .ref l ∧ y = .int k ∧ SqT K H l [] ∧ (-1000 ≤ k ∧ k ≤ 1000) ∧ Q (.ref l) H
theorem op_repE {X : Cx} : OpR X (binaryOp .Mult) (rRepE X.K) := by
  intro pins s σ H x y v u Q I rx ry h
  obtain ⟨l, k, rfl, rfl, hT, h1, q1⟩ := h
  cases rx
  obtain ⟨t, rfl⟩ := ry
  obtain ⟨its, r, ⟨⟨cls, dd, data, sl⟩, ho, hc, n, hd⟩, hs⟩ := I.tuple hT
  simp only at hc hd
  subst hc hd
  have hle : its.length = 0 := r.length.symm
  have c0 : (decide (k < -(2 ^ 63)) || decide (k ≥ 2 ^ 63)) = false := by
    rw [decide_eq_false (by omega), decide_eq_false (by omega)] <;> rfl
  have c1 : (its.toArray.isEmpty || k == 1) = true := by
    have : its = [] := List.eq_nil_of_length_eq_zero hle
    rw [this]
    rfl
  refine wpAny_binaryOp_repeat_ref (T := "tuple") (U := "int") (by decide) ⟨_, ho, rfl⟩ (fun s' => typeIs_int s' k t) noFill_tuple_mul F.fills_int_mul F.slot_int_rmul repeat_tuple F.slot_int_index.lookup
    (call_meets F.slot_int_rmul (typeIs_int s k t) F.entry_int_rmul (F.args_int_rmul_2 _ _) (int_rmul_tuple k t l its.toArray n dd sl)
      ⟨ho, rfl, ⟨_, ho, rfl⟩, call_meets F.slot_tuple_mul ⟨_, ho, rfl⟩ F.entry_tuple_mul (F.args_tuple_mul_2 _ _) (tuple_mulSame l its.toArray n dd sl k t c0 c1) ⟨ho, ?_⟩⟩)
  exact ⟨.ref l, H, I, rfl, q1⟩
def rRep0 (K : PySem.W.Frag) : R2 := fun x y H Q => ∃ l k xs, x = .ref l ∧ y = .int k ∧ SqT K H l xs ∧ -1000 ≤ k ∧ k ≤ 1 ∧ (k = 1 ∨ xs = [] → Q (.ref l) H) ∧ (k ≤ 0 → xs ≠ [] → ∀ p, H p = none → Q (.ref p) (upd H p (.tup [])))
section
variable {X : Cx} {Γ : Gm} {a b c e : Expr} {es : List Expr} {p p2 pos : Pos} {ns : List Int} {i : Int} {xs : List PyData}
theorem op_rep0 : OpR X (binaryOp .Mult) (rRep0 X.K) := by
  intro pins s σ H x y v u Q I rx ry h
  obtain ⟨l, k, xs, rfl, rfl, hT, h1, h2, q1, q2⟩ := h
  cases rx
  obtain ⟨t, rfl⟩ := ry
  obtain ⟨its, r, ⟨⟨cls, dd, data, sl⟩, ho, hc, n, hd⟩, hs⟩ := I.tuple hT
  simp only at hc hd
  subst hc hd
  have hle : its.length = xs.length := r.length.symm
  have c0 : (decide (k < -(2 ^ 63)) || decide (k ≥ 2 ^ 63)) = false := by
    rw [decide_eq_false (by omega), decide_eq_false (by omega)] <;> rfl
  by_cases z : k = 1 ∨ xs = []
  · have c1 : (its.toArray.isEmpty || k == 1) = true := by
      rcases z with z | z
      · rw [z]; simp
      · rw [z] at hle
        have : its = [] := List.eq_nil_of_length_eq_zero hle
        rw [this]
        rfl
    refine wpAny_binaryOp_repeat_ref (T := "tuple") (U := "int") (by decide) ⟨_, ho, rfl⟩ (fun s' => typeIs_int s' k t) noFill_tuple_mul F.fills_int_mul F.slot_int_rmul repeat_tuple F.slot_int_index.lookup
      (call_meets F.slot_int_rmul (typeIs_int s k t) F.entry_int_rmul (F.args_int_rmul_2 _ _) (int_rmul_tuple k t l its.toArray n dd sl)
        ⟨ho, rfl, ⟨_, ho, rfl⟩, call_meets F.slot_tuple_mul ⟨_, ho, rfl⟩ F.entry_tuple_mul (F.args_tuple_mul_2 _ _) (tuple_mulSame l its.toArray n dd sl k t c0 c1) ⟨ho, ?_⟩⟩)
    exact ⟨.ref l, H, I, rfl, q1 z⟩
  · have hk : k ≤ 0 := by
      have : k ≠ 1 := fun w => z (.inl w)
      omega
    have hx : xs ≠ [] := fun w => z (.inr w)
    have hi : its.toArray.isEmpty = false := by
      cases its with
      | nil => exact absurd (List.eq_nil_of_length_eq_zero hle.symm) hx
      | cons a b => rfl
    have c1 : (its.toArray.isEmpty || k == 1) = false := by
      rw [hi, Bool.false_or]
      exact beq_eq_false_iff_ne.mpr (by omega)
    have c2 : (decide (k ≤ 0) || its.toArray.isEmpty) = true := by
      rw [decide_eq_true hk]
      rfl
    refine wpAny_binaryOp_repeat_ref (T := "tuple") (U := "int") (by decide) ⟨_, ho, rfl⟩ (fun s' => typeIs_int s' k t) noFill_tuple_mul F.fills_int_mul F.slot_int_rmul repeat_tuple F.slot_int_index.lookup
      (call_meets F.slot_int_rmul (typeIs_int s k t) F.entry_int_rmul (F.args_int_rmul_2 _ _) (int_rmul_tuple k t l its.toArray n dd sl)
        ⟨ho, rfl, ⟨_, ho, rfl⟩, call_meets F.slot_tuple_mul ⟨_, ho, rfl⟩ F.entry_tuple_mul (F.args_tuple_mul_2 _ _) (tuple_mulZero l its.toArray n dd sl k t c0 c1 c2) ⟨ho, ?_⟩⟩)
    refine ⟨.ref s.heap.objs.size, _, I.laid (t' := s.toks) (o := .tup []) (fun b ob q => Heap.get?_push_of_some _ q) (Nat.le_refl _) ?_, rfl, q2 hk hx _ (I.hok.fresh (Nat.le_refl _))⟩
    exact ⟨Nat.zero_le _, [], .nil, IsTup.new _ _⟩
theorem flatten_rep_nil {α : Type} : ∀ n : Nat, (List.replicate n ([] : List α)).flatten = []
  | 0 => rfl
  | n + 1 => by rw [List.replicate_succ, List.flatten_cons, flatten_rep_nil n]; rfl
/-- a tuple * a number -/
theorem de_repT (ha : DE X a Γ (.tuple xs)) (hb : DE X b Γ (.int i)) (h : -1000 ≤ i ∧ i ≤ 1000 ∧ xs.length ≤ 1000) : DE X (.BinOp a .Mult b pos) Γ (.tuple (List.replicate i.toNat xs).flatten) := by
  by_cases z : 2 ≤ i ∧ xs ≠ []
  · refine de_bin op_repT ha hb fun O H x y Q lv h1 h2 q => ?_
    cases h1 with
    | tup hs1 ha1 =>
      cases h2
      have hl := dpAll_len ha1
      refine ⟨_, _, _, rfl, rfl, Same.seqT hid_sub hs1, fun w => z.2 ?_, z.1, h.2.1, by omega, fun p' hp => ?_⟩
      · rw [w] at hl
        exact List.eq_nil_of_length_eq_zero hl.symm
      · refine q _ _ (same_upd hp) (.tup (sqT_new (live_not lv hp)) ?_)
        exact dpAll_rep (dpAll_mono (hid_mono (O := O) (same_upd (o := .tup (List.replicate i.toNat ‹List V›).flatten) hp)) _ _ ha1) i.toNat
  · by_cases y : i ≤ 1
    · refine de_bin op_rep0 ha hb fun O H x y' Q lv h1 h2 q => ?_
      cases h1 with
      | tup hs1 ha1 =>
        cases h2
        have hl := dpAll_len ha1
        refine ⟨_, _, _, rfl, rfl, Same.seqT hid_sub hs1, h.1, y, fun w => ?_, fun w1 w2 p' hp => ?_⟩
        · rcases w with w | w
          · have e : (List.replicate i.toNat xs).flatten = xs := by
              rw [w]
              show (List.replicate 1 xs).flatten = xs
              simp
            rw [e] at q
            exact q _ H (Same.refl H) (.tup hs1 ha1)
          · have e0 : xs = [] := by
              rw [w] at hl
              exact List.eq_nil_of_length_eq_zero hl.symm
            subst e0
            rw [flatten_rep_nil] at q
            exact q _ H (Same.refl H) (.tup hs1 ha1)
        · have e : (List.replicate i.toNat xs).flatten = [] := by
            rw [show i.toNat = 0 by omega]
            rfl
          rw [e] at q
          exact q _ _ (same_upd hp) (.tup (sqT_new (live_not lv hp)) .nil)
    · -- an empty tuple, often
      have e0 : xs = [] := Classical.byContradiction fun w => z ⟨by omega, w⟩
      subst e0
      refine de_bin op_repE ha hb fun O H x y' Q lv h1 h2 q => ?_
      cases h1 with
      | tup hs1 ha1 =>
        cases h2
        cases ha1
        rw [flatten_rep_nil] at q
        exact ⟨_, _, rfl, rfl, Same.seqT hid_sub hs1, by omega, q _ H (Same.refl H) (.tup hs1 .nil)⟩
theorem de_repI0 (ha : DE X a Γ (tupI ns)) (hb : DE X b Γ (.int i)) (h : -1000 ≤ i ∧ i ≤ 1000 ∧ ns.length ≤ 1000) : DE X (.BinOp a .Mult b pos) Γ (tupI (List.replicate i.toNat ns).flatten) :=
  (de_repT ha hb (by rw [List.length_map]; exact h)).is (by show PyData.tuple _ = PyData.tuple (List.map _ _); rw [List.map_flatten, List.map_replicate])
end
end EY
set_option autoImplicit false
set_option maxHeartbeats 4000000
/-! a number * a tuple; str of an int -/
namespace EY
open PySem PySem.Spec PyProof.Rows L2
theorem int_mul_tuple (a : Int) (t : Tok) (l : Addr) (items : Array Value) (n : Nat) (dd : Option Addr) (sl : Array (Option Value)) :
    Meets (Builtin.«int.__mul__» ⟨[.int a t, .ref l], []⟩) (fun _ R s => s.heap.get? l = some { cls := .type "tuple", dict := dd, data := .seq items n, slots := sl } ∧ R (.ok (.ret Value.notImplemented)) s) :=
  .of_wp fun prog w A R s h => by obtain ⟨hp, g, d, tk, os⟩ := s; obtain ⟨hl, h⟩ := h; wp_walk using wpAny_loadPart' hl; exact ⟨_, rfl, h⟩
def rMulT (K : PySem.W.Frag) : R2 := fun y x H Q => ∃ l k xs, x = .ref l ∧ y = .int k ∧ SqT K H l xs ∧ xs ≠ [] ∧ 2 ≤ k ∧ k ≤ 1000 ∧ xs.length ≤ 1000 ∧ ∀ p, H p = none → Q (.ref p) (upd H p (.tup (List.replicate k.toNat xs).flatten))
theorem op_mulT {X : Cx} : OpR X (binaryOp .Mult) (rMulT X.K) := by
  intro pins s σ H y x u v Q I ry rx h
  obtain ⟨l, k, xs, rfl, rfl, hT, hne, h1, h2, hz, q⟩ := h
  cases rx
  obtain ⟨t, rfl⟩ := ry
  obtain ⟨its, r, ⟨⟨cls, dd, data, sl⟩, ho, hc, n, hd⟩, hs⟩ := I.tuple hT
  simp only at hc hd
  subst hc hd
  have hle : its.length = xs.length := r.length.symm
  have hn : its ≠ [] := fun e => hne (by
    rw [e] at hle
    exact List.eq_nil_of_length_eq_zero hle.symm)
  have hi : its.toArray.isEmpty = false := by
    cases its with
    | nil => exact absurd rfl hn
    | cons a b => rfl
  have hsz0 : its.toArray.size = xs.length := by rw [List.size_toArray, hle]
  have hm : ((its.toArray.size : Nat) : Int) * k ≤ 1000000 := by
    rw [hsz0]
    have a1 : ((xs.length : Nat) : Int) * k ≤ 1000 * k := Int.mul_le_mul_of_nonneg_right (by omega) (by omega)
    omega
  have flen : (List.replicate k.toNat its).flatten.length ≤ sizeLine := by
    rw [PyProof.Rows.lm_len_rep_flat, hle, sizeLine_eq]
    have a1 : k.toNat * xs.length ≤ 1000 * 1000 := Nat.mul_le_mul (by omega) hz
    omega
  have c0 : (decide (k < -(2 ^ 63)) || decide (k ≥ 2 ^ 63)) = false := by
    rw [decide_eq_false (by omega), decide_eq_false (by omega)] <;> rfl
  have c1 : (its.toArray.isEmpty || k == 1) = false := by
    rw [hi, Bool.false_or]
    exact beq_eq_false_iff_ne.mpr (by omega)
  have c2 : (decide (k ≤ 0) || its.toArray.isEmpty) = false := by
    rw [hi, Bool.or_false]
    exact decide_eq_false (by omega)
  have c4 : Builtin.Tuple.tupleTooMany (((its.toArray.size : Nat) : Int) * k) = false := by
    unfold Builtin.Tuple.tupleTooMany
    rw [sizeLine_eq]
    exact decide_eq_false (by omega)
  refine lm_binaryOp_repeat_right (T := "tuple") (U := "int") (by decide) (fun s' => typeIs_int s' k t) ⟨_, ho, rfl⟩ F.fills_int_mul noFill_tuple_mul F.slot_int_mul lm_noRepeat_int repeat_tuple F.slot_int_index.lookup
    (call_meets F.slot_int_mul (typeIs_int s k t) F.entry_int_mul (F.args_int_mul_2 _ _) (int_mul_tuple k t l its.toArray n dd sl)
      ⟨ho, rfl, ⟨_, ho, rfl⟩, call_meets F.slot_tuple_mul ⟨_, ho, rfl⟩ F.entry_tuple_mul (F.args_tuple_mul_2 _ _) (tuple_mulW l its.toArray n dd sl k t c0 c1 c2 (by omega) c4 (by rw [size_rep, List.size_toArray]; exact flen)) ⟨ho, ?_⟩⟩)
  rw [size_rep]
  refine ⟨.ref s.heap.objs.size, _, I.laid (t' := s.toks) (o := .tup (List.replicate k.toNat xs).flatten) (fun b ob q => Heap.get?_push_of_some _ q) (Nat.le_refl _) ?_, rfl, q _ (I.hok.fresh (Nat.le_refl _))⟩
  exact ⟨by rw [PyProof.Rows.lm_len_rep_flat, sizeLine_eq]; have a1 : k.toNat * xs.length ≤ 1000 * 1000 := Nat.mul_le_mul (by omega) hz; omega, _, r.rep k.toNat, IsTup.new _ _⟩
section
variable {X : Cx} {Γ : Gm} {a b c e : Expr} {es : List Expr} {p p2 pos : Pos} {ns : List Int} {i : Int} {xs : List PyData}
theorem de_mulT (hb : DE X b Γ (.int i)) (ha : DE X a Γ (tupI ns)) (h : ns ≠ [] ∧ 2 ≤ i ∧ i ≤ 1000 ∧ ns.length ≤ 1000) : DE X (.BinOp b .Mult a pos) Γ (tupI (List.replicate i.toNat ns).flatten) :=
  de_bin op_mulT hb ha fun O H y x Q lv h2 h1 q => by
    cases h1 with
    | tup hs1 ha1 =>
      cases h2
      have hl := dpAll_len ha1
      rw [List.length_map] at hl
      refine ⟨_, _, _, rfl, rfl, Same.seqT hid_sub hs1, fun z => h.1 ?_, h.2.1, h.2.2.1, by omega, fun p' hp => ?_⟩
      · rw [z] at hl
        exact List.eq_nil_of_length_eq_zero hl.symm
      · refine q _ _ (same_upd hp) (.tup (sqT_new (live_not lv hp)) ?_)
        have := dpAll_rep (dpAll_mono (hid_mono (O := O) (same_upd (o := .tup (List.replicate i.toNat ‹List V›).flatten) hp)) _ _ ha1) i.toNat
        rw [List.map_flatten, List.map_replicate]
        exact this
def strI (i : Int) : Str := toString i
theorem de_strI (hm : X.mg "str" = none) (h : DE X e Γ (.int i)) (hz : i.natAbs.log2 < 1920) (hg : Gl X "str" := by rfl) (he : starEach [e] X.env = (false, eval e X.env) :: starEach [] X.env := by rfl) : DE X (.Call (.Name "str" p) [e] [] pos) Γ (.str (strI i)) := fun B O H σ Q g q =>
  wE_callTy call_str_int hm PyProof.Rows.boot_str hg (wA_one he (h B O H σ _ g fun v H2 s2 d2 => by cases d2; exact ⟨i, rfl, hz, q _ H2 s2 (.str _)⟩)) (by decide) (by decide) he rfl
theorem log2_small {i : Int} (h : -1000000 ≤ i ∧ i ≤ 1000000) : i.natAbs.log2 < 1920 := by
  have h1 : i.natAbs < 2 ^ 20 := by omega
  have : i.natAbs.log2 < 20 ∨ i.natAbs = 0 := by
    by_cases z : i.natAbs = 0
    · exact .inr z
    · exact .inl ((Nat.log2_lt z).mpr h1)
  rcases this with q | q
  · omega
  · rw [q]; decide
theorem atI_nthD {xs : List PyData} {i : Int} (h0 : 0 ≤ i) (h : i < xs.length) : atI xs i = some (xs.getD i.toNat .none) := by
  unfold atI ixN
  rw [if_pos h0, if_pos h]
  show xs[i.toNat]? = _
  rw [List.getD_eq_getElem?_getD, List.getElem?_eq_getElem (by omega)]
  rfl
end
end EY
namespace EY
open PySem PySem.Spec PyProof.Rows L2
def notStar : Expr → Bool
  | .Starred _ _ => false
  | _ => true
theorem star_of {e : Expr} {rest : List Expr} {env : Env} (h : notStar e = true) : starEach (e :: rest) env = (false, eval e env) :: starEach rest env := by
  cases e <;> first | rfl | cases h
theorem da_consN {X : Cx} {Γ : Gm} {e : Expr} {es : List Expr} {d : PyData} {ds : List PyData} (ha : DE X e Γ d) (hr : DA X es Γ ds) (h : notStar e = true := by rfl) : DA X (e :: es) Γ (d :: ds) := da_cons ha hr (star_of h)
end EY
set_option autoImplicit false
set_option maxHeartbeats 1000000
/-! texts; a module's tuple of ints, its texts; in -/
namespace EY
open PySem PySem.Spec PyProof.Rows L2
theorem log_small {n : Nat} (h : n ≤ 1000000) : n ≤ sizeLine := by rw [sizeLine_eq]; omega
section
variable {X : Cx} {Γ : Gm} {a b c e tg : Expr} {es : List Expr} {p p2 pos ap cp : Pos} {ns : List Int} {i : Int} {xs : List PyData} {x y z : Str} {ys : List Str}
theorem de_addS (ha : DE X a Γ (.str x)) (hb : DE X b Γ (.str y)) (h : x.length + y.length ≤ 1000000) : DE X (.BinOp a .Add b pos) Γ (.str (x ++ y)) := de_bin op_add_str ha hb fun O H u v Q _ h1 h2 q => by
  cases h1; cases h2; exact ⟨_, _, rfl, rfl, log_small h, q _ H (Same.refl H) (.str _)⟩
/-- a.join(list of texts) -/
theorem de_join (ha : DE X a Γ (.str x)) (hb : DR X b Γ (ys.map .str)) (h : (ys.map (·.length)).sum + ys.length * x.length ≤ 1000000)
    (hs : starEach [b] X.env = [(false, eval b X.env)] := by rfl) (hbase : attributeBase a "join" X.env (eval a X.env) = eval a X.env := by rfl) (hline : (ap.endLine == pos.line) = true := by rfl) :
    DE X (.Call (.Attribute a "join" ap) [b] [] pos) Γ (.str (Str.join x ys)) := fun B O H σ Q g q =>
  wE_of (pe_join pe_w pe_w hs hbase hline) (ha B O H σ _ g fun v H1 s1 d1 => by
    cases d1
    refine ⟨⟨_, rfl⟩, hb B O H1 σ _ (g.step s1) fun l vs H2 s2 l2 a2 => ?_⟩
    have e := dpAll_strs a2
    subst e
    refine ⟨x, l, ys, rfl, rfl, .inl l2, Nat.le_trans h (by decide), ?_⟩
    rw [TL.join_eq]
    exact q _ H2 (s1.trans s2) (.str _))
/-- a.split(b) -/
theorem dl_split (ha : DE X a Γ (.str x)) (hb : DE X b Γ (.str y)) (h : (y.length == 0) = false) (hl : x.length ≤ 1000000)
    (hs : starEach [b] X.env = [(false, eval b X.env)] := by rfl) (hbase : attributeBase a "split" X.env (eval a X.env) = eval a X.env := by rfl) (hline : (ap.endLine == pos.line) = true := by rfl) :
    DL X (.Call (.Attribute a "split" ap) [b] [] pos) Γ ((Txt.split x y).map .str) := fun B O H σ Q g q =>
  wE_of (pe_split pe_w pe_w hs hbase hline) (ha B O H σ _ g fun v H1 s1 d1 => by
    cases d1
    refine ⟨⟨_, rfl⟩, hb B O H1 σ _ (g.step s1) fun u H2 s2 d2 => ?_⟩
    cases d2
    refine ⟨x, y, rfl, rfl, h, by rw [sizeLine_eq]; omega, fun l hl' => ?_⟩
    exact q l _ _ ((s1.trans s2).free hl') ((s1.trans s2).trans (same_upd hl')) upd_same (strs_dpAll _))
theorem de_intS {n : Int} (hm : X.mg "int" = none) (h : DE X e Γ (.str x)) (hn : PySem.intText? x = some n) (hl : x.length ≤ 640) (hg : Gl X "int" := by rfl) (he : starEach [e] X.env = (false, eval e X.env) :: starEach [] X.env := by rfl) : DE X (.Call (.Name "int" p) [e] [] pos) Γ (.int n) := fun B O H σ Q g q =>
  wE_callTy call_int_str hm PyProof.Rows.boot_int hg (wA_one he (h B O H σ _ g fun v H2 s2 d2 => by cases d2; exact ⟨_, n, rfl, hn, hl, q _ H2 s2 (.int _)⟩)) (by decide) (by decide) he rfl
/-- for c in a text -/
theorem dif_str (h : DE X e Γ (.str x)) : DIF X tg e Γ x.cps.size (fun i => .str ⟨#[x.cps.getD i 0]⟩) := fun B O H σ R g q =>
  wI_of (pi_str pe_w) (h B O H σ _ g fun v H2 s2 d2 => by
    cases d2
    refine ⟨x, rfl, q _ H2 s2 fun H3 O3 s3 lv => ⟨fun i hi => hi, Nat.le_refl _, fun i hi u H4 y => ?_⟩⟩
    obtain ⟨rfl, c, hc, rfl⟩ := y
    refine ⟨Same.refl _, ?_⟩
    have e : x.cps.getD i 0 = c := by
      rw [Array.getD_eq_getD_getElem?, hc]
      rfl
    dsimp only
    rw [e]
    exact .str _)
theorem ce_inSign {k : Nat} (ha : DE X a Γ (.str ⟨#[k]⟩)) (hb : DE X b Γ (.str y)) : CE X a .In b Γ (decide (k ∈ y.cps.toList)) := ce_of op_in_sign ha hb fun O H u v Q h1 h2 q => by
  cases h1; cases h2; exact ⟨_, _, rfl, rfl, q⟩
theorem inV_ints (i : Int) (ns : List Int) : inV (.int i) (ns.map V.int) = decide (i ∈ ns) := by
  unfold inV
  induction ns with
  | nil => rfl
  | cons n ns ih =>
    rw [List.map_cons, List.any_cons, ih]
    show (decide (n = i) || decide (i ∈ ns)) = _
    by_cases h : n = i
    · subst h
      simp
    · rw [decide_eq_false h, Bool.false_or, decide_eq_decide]
      simp [Ne.symm h]
theorem flat_ints (ns : List Int) : (ns.map V.int).all flatV = true := by
  rw [List.all_map, List.all_eq_true]
  intro n _
  rfl
/-- a number in a tuple of numbers -/
theorem ce_inT (ha : DE X a Γ (.int i)) (hb : DE X b Γ (tupI ns)) : CE X a .In b Γ (decide (i ∈ ns)) := ce_of op_in_seq ha hb fun O H u v Q h1 h2 q => by
  cases h1
  cases h2 with
  | tup hs hd =>
    have e := dpAll_ints hd
    subst e
    refine ⟨_, _, rfl, .inr (Same.seqT hid_sub hs), rfl, flat_ints ns, ?_⟩
    rw [if_neg Bool.false_ne_true, inV_ints]
    exact q
theorem ce_niT (ha : DE X a Γ (.int i)) (hb : DE X b Γ (tupI ns)) : CE X a .NotIn b Γ (!decide (i ∈ ns)) := ce_of op_notIn_seq ha hb fun O H u v Q h1 h2 q => by
  cases h1
  cases h2 with
  | tup hs hd =>
    have e := dpAll_ints hd
    subst e
    refine ⟨_, _, rfl, .inr (Same.seqT hid_sub hs), rfl, flat_ints ns, ?_⟩
    rw [if_pos rfl, inV_ints]
    exact q
/-- a module's tuple of ints -/
structure GTup (K : PySem.W.Frag) (mg : Str → Option Value) (x : Str) (ns : List Int) : Prop where
  ex : ∃ (a : Addr) (o : Obj) (its : Array Value) (n : Nat), mg x = some (.ref a) ∧ K.lookup a = some o ∧ o.cls = .type "tuple" ∧ o.data = .seq its n ∧ its.size ≤ sizeLine ∧ Vals (ns.map V.int) its.toList
theorem de_globT (G : GTup X.K X.mg x ns) (hg : Gl X x := by rfl) (hdb : (x == ("__debug__" : Str)) = false := by decide) : DE X (.Name x pos) Γ (tupI ns) := fun B O H σ Q g q => by
  obtain ⟨l, o, its, n, h1, h2, h3, h4, h5, h6⟩ := G.ex
  exact wE_of (pe_glob hg h1 (v := .ref l) rfl hdb) (q _ H (Same.refl H) (.tup (.inr ⟨o, its, n, h2, h3, h4, h5, h6⟩) (ints_dpAll ns)))
theorem de_globS {t : Tok} (hm : X.mg x = some (.str z t)) (hg : Gl X x := by rfl) (hdb : (x == ("__debug__" : Str)) = false := by decide) : DE X (.Name x pos) Γ (.str z) := fun B O H σ Q g q =>
  wE_of (pe_glob hg hm (v := .str z) ⟨t, rfl⟩ hdb) (q _ H (Same.refl H) (.str z))
end
end EY
set_option autoImplicit false
set_option maxHeartbeats 4000000
/-! an empty dict among other things -/
namespace EY
open PySem PySem.Spec PyProof.Rows L2 PySem.SeqAt
theorem dict_ne_declines_int (l : Addr) (es : Array DictEntry) (n : Nat) (sl : Array (Option Value)) (b : Int) (u : Tok) :
    Meets (Builtin.«dict.__ne__» ⟨[.ref l, .int b u], []⟩) (fun _ R s => s.heap.get? l = some { cls := .type "dict", dict := none, data := .dict es n, slots := sl } ∧ R (.ok (.ret .notImplemented)) s) :=
  .of_wp fun prog w A R s h => by obtain ⟨hp, g, d, tk, os⟩ := s; obtain ⟨hl, h⟩ := h; have f1 := F.sub_int_dict; wp_walk using wpAny_loadPart' hl, wpAny_load hl; exact ⟨_, rfl, h⟩
theorem int_ne_declines_dict (b : Int) (u : Tok) (l : Addr) (es : Array DictEntry) (n : Nat) (sl : Array (Option Value)) :
    Meets (Builtin.«int.__ne__» ⟨[.int b u, .ref l], []⟩) (fun _ R s => s.heap.get? l = some { cls := .type "dict", dict := none, data := .dict es n, slots := sl } ∧ R (.ok (.ret .notImplemented)) s) :=
  .of_wp fun prog w A R s h => by obtain ⟨hp, g, d, tk, os⟩ := s; obtain ⟨hl, h⟩ := h; wp_walk using wpAny_loadPart' hl, wpAny_load hl; exact ⟨_, rfl, h⟩
def rNeDict : R2 := fun x y H Q => ∃ q i, x = .ref q ∧ y = .int i ∧ H q = some (.dK []) ∧ Q (.bl true) H
theorem op_neDict {X : Cx} {n : Nat} (hr : Room n X.A) : OpR X (compareOp .NotEq) rNeDict := by
  intro pins s σ H x y v u Q I rx ry h
  obtain ⟨q, i, rfl, rfl, hq, hQ⟩ := h
  cases rx
  obtain ⟨t, rfl⟩ := ry
  obtain ⟨_, _, vs, _, o, es, ep, ho, hx, hd, _⟩ := I.hok q _ hq
  obtain ⟨cls, dd, data, sl⟩ := o
  obtain ⟨h1, h2, h3⟩ := hx
  simp only at h1 h2 h3 hd
  subst h1 h2 h3 hd
  refine rc_ne_decline_or (k := false) ⟨_, ho, rfl⟩ (typeIs_int s i t) (by decide) F.sub_int_dict F.slot_dict_ne F.slot_int_ne_refl
    (fun _ hq => call_meets F.slot_dict_ne ⟨_, ho, rfl⟩ F.entry_dict_ne (F.args_dict_ne_2 _ _) (dict_ne_declines_int q es ep #[] i t) ⟨ho, hq⟩)
    (fun _ hq => call_meets F.slot_int_ne_refl (typeIs_int s i t) F.entry_int_ne (F.args_int_ne_2 _ _) (int_ne_declines_dict i t q es ep #[]) ⟨ho, hq⟩)
    (fun _ hq => wpAny_of_eq (rfl : isSame (.ref q) (.int i t) = pure false) hq) (.inr ?_) ⟨.bl true, H, I, rfl, hQ⟩
  have := hu_of hr
  omega
/-- an empty dict stands at q -/
def dictF (q : Addr) : Fac where
  φ H _ := H q = some (.dK [])
  mono e _ h := e _ _ h
  away := fun {H D a vs us} ha h => (upd_ne (fun z => by rw [z, ha] at h; cases h)).trans h
/-! ### arguments that are data, or things with a fact -/
def ArgOk (K : PySem.W.Frag) (O : Addr → Prop) (H : Hp) (v : V) : SD → Prop
  | .d x => Dp K (hid O H) v x
  | .fac w as F => v = w ∧ as = [] ∧ F.φ H (hid O H)
  | _ => False
inductive ArgsOk (K : PySem.W.Frag) (O : Addr → Prop) (H : Hp) : List V → List SD → Prop
  | nil : ArgsOk K O H [] []
  | cons {v : V} {s : SD} {vs : List V} {ss : List SD} : ArgOk K O H v s → ArgsOk K O H vs ss → ArgsOk K O H (v :: vs) (s :: ss)
theorem ArgOk.mono {K : PySem.W.Frag} {O : Addr → Prop} {H H2 : Hp} (e : Same H H2) {v : V} {s : SD} (h : ArgOk K O H v s) : ArgOk K O H2 v s := by
  cases s with
  | d x => exact dp_mono (hid_mono e) _ _ h
  | fac w as F => exact ⟨h.1, h.2.1, F.mono e (hid_mono e) h.2.2⟩
  | own xs => exact h.elim
  | raw w => exact h.elim
theorem ArgsOk.len {K : PySem.W.Frag} {O : Addr → Prop} {H : Hp} {vs : List V} {ss : List SD} (h : ArgsOk K O H vs ss) : vs.length = ss.length := by
  induction h with
  | nil => rfl
  | cons _ _ ih => simp [ih]
theorem ArgsOk.get {K : PySem.W.Frag} {O : Addr → Prop} {H : Hp} {vs : List V} {ss : List SD} (h : ArgsOk K O H vs ss) : ∀ {i : Nat} {s : SD}, ss[i]? = some s → ∃ v, vs[i]? = some v ∧ ArgOk K O H v s := by
  induction h with
  | nil => intro i s e; simp at e
  | cons h1 _ ih =>
    intro i s e
    cases i with
    | zero =>
      have := Option.some.inj e
      subst this
      exact ⟨_, rfl, h1⟩
    | succ i => exact ih e
def DAg (X : Cx) (es : List Expr) (Γ : Gm) (ss : List SD) : Prop := ∀ (B : Bs) (O : Addr → Prop) (H : Hp) (σ : L2.St) (Q : List V → Hp → Prop), Sg X.K B O H σ Γ → (∀ vs H2, Same H H2 → ArgsOk X.K O H2 vs ss → Q vs H2) → wA X es σ H Q
theorem ArgsOk.mono {K : PySem.W.Frag} {O : Addr → Prop} {H H2 : Hp} (e : Same H H2) {vs : List V} {ss : List SD} (h : ArgsOk K O H vs ss) : ArgsOk K O H2 vs ss := by
  induction h with
  | nil => exact .nil
  | cons h1 _ ih => exact .cons (h1.mono e) ih
section
variable {X : Cx} {Γ : Gm} {a b c e : Expr} {es : List Expr} {p pos pe : Pos} {d : PyData} {ss : List SD} {x : Str} {n : Nat}
theorem dag_nil : DAg X [] Γ [] := fun B O H σ Q g q => wA_of pa_nil (q [] H (Same.refl H) .nil)
theorem dag_cons (ha : DE X e Γ d) (hr : DAg X es Γ ss) (h : notStar e = true := by rfl) : DAg X (e :: es) Γ (.d d :: ss) := fun B O H σ Q g q =>
  wA_of (pa_cons pe_w pa_w (star_of h)) (ha B O H σ _ g fun v H2 s2 d2 => hr B O H2 σ _ (g.step s2) fun vs H3 s3 d3 => q _ H3 (s2.trans s3) (.cons (ArgOk.mono (s := .d d) s3 d2) d3))
theorem dag_fac (i : Nat) {w : V} {as : List Addr} {F : Fac} (hi : Γ[i]? = some (some (.fac w as F))) (hr : DAg X es Γ ss)
    (hN : X.N[i]? = some x := by rfl) (hv : Vis X.env.scope x := by first | exact Or.inl rfl | exact Or.inr (Or.inl rfl) | exact Or.inr (Or.inr rfl)) (hd : (x == ("__debug__" : Str)) = false := by decide) (hcd : (x == ("__classdict__" : Str)) = false := by decide) : DAg X (.Name x pe :: es) Γ (.fac w [] F :: ss) := fun B O H σ Q g q => by
  obtain ⟨h1, h2⟩ := fac_get g hi
  exact wA_of (pa_cons (pv i hN hv hd hcd) pa_w (star_of rfl)) ⟨w, h1, hr B O H σ _ g fun vs H3 s3 d3 => q _ H3 s3 (.cons ⟨rfl, rfl, F.mono s3 (hid_mono s3) h2⟩ d3)⟩
/-- a def whose arguments are such -/
def spG (K : PySem.W.Frag) (R : List SD → PyData → Prop) (XR : List SD → Value → Prop) : Sp := fun vs H Q E => ∃ (O : Addr → Prop) (ss : List SD), Live O H ∧ ArgsOk K O H vs ss ∧
  ((∃ d, R ss d ∧ ∀ v H2, Same H H2 → Dp K (hid O H2) v d → Q v H2) ∨ ∃ C, XR ss C ∧ ∀ H2, Same H H2 → E C none H2)
theorem de_callG {k : Nat} {ps : List Str} {R : List SD → PyData → Prop} {XR : List SD → Value → Prop} (h : HasX X.prog X.w X.K X.mg X.base k x ps (spG X.K R XR)) (hr : Room n X.A) (ha : DAg X (e :: es) Γ ss) (hR : R ss d) (hk : k ≤ n := by decide) (hg : Gl X x := by rfl)
    (hdb : (x == ("__debug__" : Str)) = false := by decide) (he : starEach (e :: es) X.env = (false, eval e X.env) :: starEach es X.env := by rfl) (hpl : (backTo pos (starEach es X.env)).any (·.1) = false := by rfl) :
    DE X (.Call (.Name x p) (e :: es) [] pos) Γ d := fun B O H σ Q g q => by
  obtain ⟨f, fd, F, hm, hkp, hb⟩ := h.ex
  exact wE_of (pe_call F (hr.mono hk) hg hm hkp hb .nil passX0 pa_w hdb he hpl) (ha B O H σ _ g fun vs H2 s2 d2 => ⟨O, ss, (g.step s2).live, by rw [List.append_nil]; exact d2, .inl ⟨d, hR, fun v H3 s3 d3 => q v H3 (s2.trans s3) d3⟩⟩)
theorem wE_raiseG {k : Nat} {ps : List Str} {R : List SD → PyData → Prop} {XR : List SD → Value → Prop} {B : Bs} {O : Addr → Prop} {H : Hp} {σ : L2.St} {Q : VK} {W : WX} {C : Value} (h : HasX X.prog X.w X.K X.mg X.base k x ps (spG X.K R XR)) (hr : Room n X.A) (ha : DAg X (e :: es) Γ ss) (hX : XR ss C) (g : Sg X.K B O H σ Γ) (tk : Takes X W) (hW : ∀ H', Same H H' → W C none σ H') (hk : k ≤ n) (hg : Gl X x)
    (hdb : (x == ("__debug__" : Str)) = false) (he : starEach (e :: es) X.env = (false, eval e X.env) :: starEach es X.env) (hpl : (backTo pos (starEach es X.env)).any (·.1) = false) : wE X (.Call (.Name x p) (e :: es) [] pos) σ H Q := by
  obtain ⟨f, fd, F, hm, hkp, hb⟩ := h.ex
  exact wE_of (pe_callS F (hr.mono hk) hg hm hkp hb (fun σ => passAt tk σ) pa_w hdb he hpl) (ha B O H σ _ g fun vs H2 s2 d2 => ⟨O, ss, (g.step s2).live, d2, .inr ⟨C, hX, fun H3 s3 => hW H3 (s2.trans s3)⟩⟩)
theorem ds_exprRG {k : Nat} {ps : List Str} {R : List SD → PyData → Prop} {XR : List SD → Value → Prop} {C : Value} {spos : Pos} {rest : List Stmt} {P : Po} (h : HasX X.prog X.w X.K X.mg X.base k x ps (spG X.K R XR)) (hr : Room n X.A) (ha : DAg X (e :: es) Γ ss) (hX : XR ss C) (hP : P.xr C Γ) (hk : k ≤ n := by decide) (hg : Gl X x := by rfl)
    (hdb : (x == ("__debug__" : Str)) = false := by decide) (he : starEach (e :: es) X.env = (false, eval e X.env) :: starEach es X.env := by rfl) (hpl : (backTo pos (starEach es X.env)).any (·.1) = false := by rfl) (hs : swapsWith (.Call (.Name x p) (e :: es) [] pos) none spos.line X.env = pure false := by rfl) :
    DS X (.Expr (.Call (.Name x p) (e :: es) [] pos) spos :: rest) Γ P := fun B O H σ D g f => by
  obtain ⟨W, tk, hW⟩ := f.xr C Γ hP
  exact wB_of (pss_cons (ps_expr pe_w hs) pss_w) (wE_raiseG h hr ha hX g tk (fun H' s => hW O H' σ (g.step s)) hk hg hdb he hpl)
/-- here != a number, here a dict -/
theorem ce_neDict (i : Nat) {q : Addr} {as : List Addr} {j : Int} {k : Nat} (hr : Room k X.A) (hi : Γ[i]? = some (some (.fac (.ref q) as (dictF q)))) (hb : DE X b Γ (.int j))
    (hN : X.N[i]? = some x := by rfl) (hv : Vis X.env.scope x := by first | exact Or.inl rfl | exact Or.inr (Or.inl rfl) | exact Or.inr (Or.inr rfl)) (hd : (x == ("__debug__" : Str)) = false := by decide) (hcd : (x == ("__classdict__" : Str)) = false := by decide) : CE X (.Name x pe) .NotEq b Γ true := fun B O H σ Q g q' => by
  obtain ⟨h1, h2⟩ := fac_get g hi
  exact wE_of (pv i hN hv hd hcd) ⟨_, h1, hb B O H σ _ g fun u H3 s3 d3 => by cases d3; exact wR_of (op_neDict hr) ⟨q, j, rfl, rfl, s3 _ _ h2, q' H3 s3⟩⟩
/-- isinstance(here, int), here a dict -/
theorem de_isiDict (i : Nat) {q : Addr} {as : List Addr} {p2 : Pos} (hm : X.mg "isinstance" = none) (hx : X.mg "int" = none) (hi : Γ[i]? = some (some (.fac (.ref q) as (dictF q))))
    (hN : X.N[i]? = some x := by rfl) (hv : Vis X.env.scope x := by first | exact Or.inl rfl | exact Or.inr (Or.inl rfl) | exact Or.inr (Or.inr rfl)) (hd : (x == ("__debug__" : Str)) = false := by decide) (hcd : (x == ("__classdict__" : Str)) = false := by decide)
    (hg2 : Gl X "int" := by rfl) (hg : Gl X "isinstance" := by rfl) (he : starEach [.Name x pe, .Name "int" p2] X.env = (false, eval (.Name x pe) X.env) :: starEach [.Name "int" p2] X.env := by rfl) (he2 : starEach [.Name "int" p2] X.env = (false, eval (.Name "int" p2) X.env) :: starEach [] X.env := by rfl) (hpl : (backTo pos (starEach [.Name "int" p2] X.env)).any (·.1) = false := by rfl) :
    DE X (.Call (.Name "isinstance" p) [.Name x pe, .Name "int" p2] [] pos) Γ (.bool false) := fun B O H σ Q g q' => by
  obtain ⟨h1, h2⟩ := fac_get g hi
  exact wE_of (pe_callB call_isi hg hm PyProof.Rows.boot_isinstance (pa_cons (pv i hN hv hd hcd) (pa_cons (pe_bltn (v := .ty "int") hg2 hx PyProof.Rows.boot_int rfl (by decide) (by decide)) pa_nil he2) he) (by decide) (by decide) he hpl)
    ⟨_, h1, .ref q, .ty "int", .type "dict", .type "int", false, rfl, .ty "int", .base (.dK h2), kit_ty (by decide +kernel), q' _ H (Same.refl H) (.bl false)⟩
end
/-! ### such a def -/
def envS (N : List Str) (ss : List SD) : Gm := ss.map some ++ List.replicate (N.length - ss.length) none
theorem envS_sg {K : PySem.W.Frag} {O : Addr → Prop} {H : Hp} {N : List Str} {vs : List V} {ss : List SD} (lv : Live O H) (h : ArgsOk K O H vs ss) : Sg K ⟨O, H⟩ O H (L2.start N vs) (envS N ss) := by
  have hl := h.len
  have slot : ∀ (i : Nat) s, (envS N ss)[i]? = some (some s) → ∃ v, (L2.start N vs)[i]? = some (some v) ∧ ArgOk K O H v s := fun i s e => by
    unfold envS at e
    unfold L2.start
    by_cases hi : i < ss.length
    · rw [List.getElem?_append_left (by simpa using hi), List.getElem?_map, List.getElem?_eq_getElem hi] at e
      have e' := Option.some.inj (Option.some.inj e)
      obtain ⟨v, h1, h2⟩ := h.get (List.getElem?_eq_getElem hi)
      rw [e'] at h2
      refine ⟨v, ?_, h2⟩
      rw [List.getElem?_append_left (by simpa [hl] using hi), List.getElem?_map, h1]
      rfl
    · rw [List.getElem?_append_right (by simpa using hi), List.getElem?_replicate] at e
      split at e <;> cases e
  refine ⟨Same.refl H, fun a h => .inl h, fun a h => ⟨h, lv a h⟩, lv, ?_, fun i s e => ?_, fun i j xs ys p h1 h2 h3 h4 => ?_⟩
  · unfold L2.start envS
    simp [hl]
  · obtain ⟨v, h1, h2⟩ := slot i s e
    refine ⟨v, h1, ?_⟩
    cases s with
    | d x => exact h2
    | fac w as F =>
      obtain ⟨q1, q2, q3⟩ := h2
      subst q2
      exact ⟨q1, fun a ha => absurd ha List.not_mem_nil, q3⟩
    | own xs => exact h2.elim
    | raw w => exact h2.elim
  · obtain ⟨v, _, q⟩ := slot i _ h1
    exact q.elim
section
variable {P : Program} {w : World} {K : PySem.W.Frag} {mg : Str → Option Value} {base : Heap}
theorem fn_ofG {x : Str} {st : Stmt} {f : Addr} {fd : FuncData} {N ps : List Str} {k : Nat} {R : List SD → PyData → Prop} {XR : List SD → Value → Prop} (F : Fun K x x st f fd) (S : FnScope N ps (defScope st)) (len : ∀ ss d, R ss d → ss.length = ps.length) (lenX : ∀ ss C, XR ss C → ss.length = ps.length)
    (body : ∀ (X : Cx) (cdv : Value) (A : Around) (outer : List Env) (s : Shared) (H : Hp) (E : XK), X = cxOf (L2.CX P w) P w K mg base N x (defScope st) f cdv A outer s H E → Room k X.A → ∀ ss, (∀ d, R ss d → DS X (defBody st) (envS N ss) { nx := fun _ => d = .none, rt := fun d' => d' = d }) ∧ ∀ C, XR ss C → DS X (defBody st) (envS N ss) { nx := fun _ => False, rt := fun _ => False, xr := fun C' _ => C' = C }) :
    FnOk P w K mg base (L2.CX P w) (k + 1) f fd ps (spG K R XR) := by
  refine F.okX S (fun vs H Q E h => ?_) (fun cdv A outer s H vs Q E hr h => ?_)
  · obtain ⟨O, ss, _, h1, h2⟩ := h
    rcases h2 with ⟨d, h2, _⟩ | ⟨C, h2, _⟩
    · rw [h1.len, len ss d h2]
    · rw [h1.len, lenX ss C h2]
  · obtain ⟨O, ss, lv, h1, h2⟩ := h
    obtain ⟨b1, b2⟩ := body _ cdv A outer s H E rfl hr ss
    rcases h2 with ⟨d, h2, q⟩ | ⟨C, h2, q⟩
    · refine ⟨_, pss_w, b1 d h2 ⟨O, H⟩ O H _ _ (envS_sg lv h1) ⟨fun O' H' σ' Γ' e g' => ?_, fun H' v d' e sm hd => ?_, fun _ _ _ _ m => m.elim, fun _ _ _ _ m => m.elim, fun _ _ m => m.elim, fun _ _ _ _ _ m => m.elim⟩⟩
      · subst e
        exact q _ H' g'.ext .non
      · subst e
        exact q v H' sm hd
    · refine ⟨_, pss_w, b2 C h2 ⟨O, H⟩ O H _ _ (envS_sg lv h1) ⟨fun _ _ _ _ m => m.elim, fun _ _ _ m => m.elim, fun _ _ _ _ m => m.elim, fun _ _ _ _ m => m.elim, fun C' Γ' e => ⟨_, takes_of rfl rfl rfl rfl, fun O' H' σ' g' => ?_⟩, fun _ _ _ _ _ m => m.elim⟩⟩
      subst e
      exact q H' g'.ext
end
/-! ### a display with an empty dict in it -/
inductive AT where
  | d (x : PyData)
  | dict
def TagOk (K : PySem.W.Frag) (O : Addr → Prop) (H : Hp) (v : V) : AT → Prop
  | .d x => Dp K (hid O H) v x
  | .dict => ∃ q, v = .ref q ∧ H q = some (.dK [])
theorem TagOk.mono {K : PySem.W.Frag} {O : Addr → Prop} {H H2 : Hp} (e : Same H H2) {v : V} {t : AT} (h : TagOk K O H v t) : TagOk K O H2 v t := by
  cases t with
  | d x => exact dp_mono (hid_mono e) _ _ h
  | dict => obtain ⟨q, h1, h2⟩ := h; exact ⟨q, h1, e _ _ h2⟩
inductive TagsOk (K : PySem.W.Frag) (O : Addr → Prop) (H : Hp) : List V → List AT → Prop
  | nil : TagsOk K O H [] []
  | cons {v : V} {t : AT} {vs : List V} {ts : List AT} : TagOk K O H v t → TagsOk K O H vs ts → TagsOk K O H (v :: vs) (t :: ts)
theorem TagsOk.len {K : PySem.W.Frag} {O : Addr → Prop} {H : Hp} {vs : List V} {ss : List AT} (h : TagsOk K O H vs ss) : vs.length = ss.length := by
  induction h with
  | nil => rfl
  | cons _ _ ih => simp [ih]
theorem TagsOk.get {K : PySem.W.Frag} {O : Addr → Prop} {H : Hp} {vs : List V} {ss : List AT} (h : TagsOk K O H vs ss) : ∀ {i : Nat} {s : AT}, ss[i]? = some s → ∃ v, vs[i]? = some v ∧ TagOk K O H v s := by
  induction h with
  | nil => intro i s e; simp at e
  | cons h1 _ ih =>
    intro i s e
    cases i with
    | zero =>
      have := Option.some.inj e
      subst this
      exact ⟨_, rfl, h1⟩
    | succ i => exact ih e
def DAt (X : Cx) (es : List Expr) (Γ : Gm) (ts : List AT) : Prop := ∀ (B : Bs) (O : Addr → Prop) (H : Hp) (σ : L2.St) (Q : List V → Hp → Prop), Sg X.K B O H σ Γ → (∀ vs H2, Same H H2 → TagsOk X.K O H2 vs ts → Q vs H2) → wA X es σ H Q
section
variable {X : Cx} {Γ : Gm} {e idx : Expr} {es : List Expr} {p pos pl ps p' spos : Pos} {d : PyData} {ts : List AT} {y : Str} {rest : List Stmt} {P : Po}
theorem dat_nil : DAt X [] Γ [] := fun B O H σ Q g q => wA_of pa_nil (q [] H (Same.refl H) .nil)
theorem dat_cons (ha : DE X e Γ d) (hr : DAt X es Γ ts) (h : notStar e = true := by rfl) : DAt X (e :: es) Γ (.d d :: ts) := fun B O H σ Q g q =>
  wA_of (pa_cons pe_w pa_w (star_of h)) (ha B O H σ _ g fun v H2 s2 d2 => hr B O H2 σ _ (g.step s2) fun vs H3 s3 d3 => q _ H3 (s2.trans s3) (.cons (TagOk.mono (t := .d d) s3 d2) d3))
theorem dat_dict (hr : DAt X es Γ ts) : DAt X (.Dict [] [] p :: es) Γ (.dict :: ts) := fun B O H σ Q g q =>
  wA_of (pa_cons pe_dnewK pa_w (star_of rfl)) fun l hl => hr B O _ σ _ (g.step (same_upd hl)) fun vs H3 s3 d3 => q _ H3 ((same_upd hl).trans s3) (.cons ⟨l, rfl, s3 _ _ upd_same⟩ d3)
/-- y = [.., {}, ..][idx] -/
theorem ds_setTag (i : Nat) {k : Int} {t : AT} (hND : X.N.Nodup) (ha : DAt X es Γ ts) (hidx : DE X idx Γ (.int k)) (h0 : 0 ≤ k) (ht : ts[k.toNat]? = some t) (hl : ts.length ≤ 1000)
    (hk : match t with
      | .d x => DS X rest (Γ.set i (some (.d x))) P
      | .dict => ∀ q, DS X rest (Γ.set i (some (.fac (.ref q) [] (dictF q)))) P)
    (hs : PlainIx idx := by intro _ _; rfl) (hi : X.N[i]? = some y := by rfl) (hx : Loc X.env.scope y := by first | exact Or.inl rfl | exact Or.inr rfl) (hf : X.fn y = true ∨ X.env.scope.names.lookup y = some .local := by first | exact .inl rfl | exact .inr rfl)
    (hsw : swapsWith (.Subscript (.List es pl) idx ps) (some (.Name y p')) spos.line X.env = pure false := by rfl) :
    DS X (.Assign [.Name y p'] (.Subscript (.List es pl) idx ps) spos :: rest) Γ P := fun B O H σ D g f => by
  have hlt : k.toNat < ts.length := (List.getElem?_eq_some_iff.mp ht).1
  refine wB_of (pss_cons (ps_set hND hi hx (pe_ix ix_list (pe_lst pa_w) pe_w hs) hsw hf) pss_w) (ha B O H σ _ g fun vs H2 s2 d2 => ⟨Nat.le_of_lt (small1000 (by rw [d2.len]; exact hl)), fun l hl' => ?_⟩)
  have g2 := g.step (s2.trans (same_upd (o := .lst vs) hl'))
  refine hidx B O _ σ _ g2 fun u H3 s3 d3 => ?_
  cases d3
  obtain ⟨v, h1, h2⟩ := d2.get ht
  have hat : atI vs k = some v := by
    unfold atI ixN
    rw [if_pos h0, if_pos (by rw [d2.len]; omega)]
    exact h1
  have sm : Same H2 H3 := (same_upd hl').trans s3
  refine ⟨l, vs, k, v, rfl, rfl, .inl (.inl (s3 _ _ upd_same)), hat, ?_⟩
  have g3 := g2.step s3
  cases t with
  | d x => exact hk B O H3 _ D (g3.setD (dp_mono (hid_mono sm) _ _ h2)) f
  | dict =>
    obtain ⟨q, rfl, hq⟩ := h2
    exact hk q B O H3 _ D (g3.setFac (fun a ha => absurd ha List.not_mem_nil) (sm _ _ hq)) f
end
end EY
namespace EY
open PySem
theorem exm_mk {K : PySem.W.Frag} {C D : Addr} (h1 : PySem.W.subIn K (.ref D) (.type "BaseException") = some true) (h2 : PySem.W.isClsIn K D = true) (h3 : PySem.W.typeIn K (.ref D) = some (.type "type")) (h4 : PySem.W.subIn K (.ref C) (.ref D) = some true) : PySem.W.exmOne K (.ref C) (.ref D) = some true := by
  have e1 : (PySem.W.subIn K (.ref D) (.type "BaseException") == some true) = true := by rw [h1] <;> rfl
  have e2 : ((PySem.W.clsIn K D).isSome && PySem.W.typeIn K (.ref D) == some (.type "type")) = true := by
    have h2' : (PySem.W.clsIn K D).isSome = true := h2
    rw [h2', h3] <;> rfl
  show (if (PySem.W.subIn K (.ref D) (.type "BaseException") == some true) = true then (if ((PySem.W.clsIn K D).isSome && PySem.W.typeIn K (.ref D) == some (.type "type")) = true then PySem.W.subIn K (.ref C) (.ref D) else none) else none) = some true
  rw [if_pos e1, if_pos e2]
  exact h4
end EY
set_option autoImplicit false
set_option maxHeartbeats 1000000
/-! a raise inside a comprehension -/
namespace EY
open PySem PySem.Spec PyProof.Rows L2
/-- what a comprehension that never ends well leaves behind its block -/
def cpR (M : Model) (A : Around) (E : Value → Shared → Prop) (cenv : Env) (r : Result) (s' : Shared) : Prop :=
  match r with
  | .ok _ => False
  | .error x => ∃ m, s'.heap.Ns cenv.locals m ∧ ∀ h' m', h'.Ns cenv.locals m' → Heap.SameBut cenv.locals s'.heap h' →
      wpAny M A (PySem.passOn "comprehension.variables-let-go" x cenv : Sem Value) (fun _ _ => False) E { s' with heap := h' }
theorem comp_raise {M : Model} {A : Around} {E : Value → Shared → Prop} {s : Shared} {env : Env} {e : Expr} {scope : Scope} {pos : Pos} {newAcc first : Sem Value} {g : Comprehension} {gs : List Comprehension} {cl : List (Str × Addr)}
    {use : Option (Value → Sem Unit)} {Q : Value → Shared → Prop} (h1 : clausesOf e = g :: gs) (h2 : ∀ x, foldedSetIterable g.iter env x = pure x) (h3 : closureFor scope env = pure cl) (h4 : scope.kind = .function)
    (h5 : ∀ x ∈ scope.names, x.2 = .local → scope.names.lookup x.1 = some .local)
    (h : wpAny M A first (fun x t1 => wpAny M A (pyIter x) (fun it t2 => wpAny M A newAcc (fun acc t3 => wpAny M A (newFunctionEnv scope env.globals cl [] env.qual none .none (some env)) (fun cenv t4 =>
      codeAny M A (.compStart e 0 it acc { cenv with scope := relabel scope env }) (cpR M A E { cenv with scope := relabel scope env }) t4) E t3) E t2) E t1) E s) : wpAny M A (comprehension e scope env pos newAcc false first use) Q E s := by
  unfold comprehension
  rw [h3, h1]
  refine wpAny_bind (thn h fun x t1 k1 => ?_)
  refine wpAny_bind (wpAny_standAt (wpAny_bind (wpAny_of_eq (h2 x) ?_)))
  refine wpAny_bind (wpAny_holding (thn k1 fun it t2 k2 => ?_))
  refine wpAny_standIf (wpAny_bind (thn k2 fun acc t3 k3 => ?_))
  refine wpAny_bind (wpAny_pure (wpAny_bind (thn k3 fun cenv t4 k4 => ?_)))
  dsimp only
  refine wpAny_holding (wpAny_bind (wpAny_attempt (wpAny_holding (wpAny_run (codeAny_mono k4 fun r t5 hr => ?_)))))
  cases r with
  | ok f => exact hr.elim
  | error x =>
    obtain ⟨m, hn, hr⟩ := hr
    refine wpAny_bind (wpAny_holding (wpAny_comp_letGo (cenv := { cenv with scope := relabel scope env }) h4 _ t5 m ?_ hn fun h' m' hm' hs' => wpAny_mono (hr h' m' hm' hs') (fun _ _ f => f.elim) fun _ _ y => y))
    intro y hy hl
    exact lookup_relabel_local (h5 y (List.mem_filter.mp (List.mem_reverse.mp hy)).1 hl)
/-- noted by the frame that runs -/
theorem sky_note {M : Model} {A : Around} {E : Value → Shared → Prop} {B : Heap} {s : Shared} {env : Env} {outer : List Env} {L a : Addr} {Z : Obj → Prop} {Q : Unit → Shared → Prop} (hZ : HandSPX.Steady Z) (hfr : A.frames = some (env :: outer)) (hf : env.frame = some L)
    (x : Sky B (env :: outer) a Z L s.heap) (hQ : ∀ h', HandSPX.HeldZ B (env :: outer) a Z L h' → s.heap.UpToSlots h' → Q () { s with heap := h' }) : wpAny M A (noteFrame (.ref a) env) Q E s := by
  rcases x with ⟨q1, q2, q3, oe, vs, he, hz, hd, h1⟩ | fl | hh
  · exact HandSPX.look_newZ hZ hfr q3 hf he q1 q2 hd h1 hz hQ
  · exact HandSPX.looks_onZ hZ hfr hf fl hQ
  · exact HandSPX.againZ hf hh.2.2.2 (hQ s.heap hh (Heap.UpToSlots.refl _))
theorem note_frame {e : Value} {env env' : Env} (h : env'.frame = env.frame) : noteFrame e env' = noteFrame e env := by
  unfold noteFrame PySem.frameOf
  rw [h]
theorem frames_at {h h' B : Heap} : ∀ {l : List Env}, (∀ b ∈ frs l, h'.get? b = h.get? b) → h.FunFrames B l → h'.FunFrames B l
  | [], _, _ => trivial
  | env :: r, k, hl => by
    obtain ⟨hk, ⟨L, o, hf, hn, ho, hd⟩, hr⟩ := hl
    exact ⟨hk, ⟨L, o, hf, hn, (k L (List.mem_filterMap.mpr ⟨env, List.mem_cons_self, hf⟩)).trans ho, hd⟩, frames_at (fun b hb => k b (by
      obtain ⟨e, he, q⟩ := List.mem_filterMap.mp hb
      exact List.mem_filterMap.mpr ⟨e, List.mem_cons_of_mem _ he, q⟩)) hr⟩
/-- what a call inside the block raises goes on from the def that holds the block -/
theorem block_pass {X : Cx} {W : WX} {pins pins' : List (Addr × Obj)} {σ σ' : L2.St} {H3 H' : Hp} {s3 s' s'' : Shared} {scope : Scope} {ce : Env} {fp : List Addr} {xe : Value → Shared → Prop} {u : Value} (tk : Takes X W) (hs : X.stack = X.env :: X.outer) (hf : X.env.frame = some X.env.locals)
    (I3 : Inv X pins σ H3 s3) (f3 : ∀ b ∈ fp, FpOk X pins H3 b ∧ b < s3.heap.objs.size) (cL : ce.locals = s3.heap.objs.size) (cf : ce.frame = X.env.frame) (Ib : Inv ((X.blk s3 H3 scope ce fp).wish xe) pins' σ' H' s')
    (c : L2.CX X.prog X.w X.stack H' s' (fun cls d H2 => W cls d σ H2) u s'') : notedBy (model X.prog X.w) X.A ce (fun e t => cpR (model X.prog X.w) X.A X.xe ce (.error e) t) u s'' := by
  have I7 : Inv X pins σ H' s' := I3.call' (ch := fp) Ib.os Ib.base Ib.hok Ib.bare fun b hb =>
    let q := (f3 b hb).1
    ⟨q.2.2.2.1, q.2.1, q.2.2.2.2.1, q.2.2.2.2.2⟩
  obtain ⟨m, hn, _⟩ := Ib.loc
  have hn : s'.heap.Ns ce.locals m := hn
  have nC : H' ce.locals = none := Ib.free
  obtain ⟨o, es, ep, ho, hd, r⟩ := hn
  have fpC : FpOk X pins H' ce.locals := I3.fpOk (Nat.le_of_eq cL.symm) nC
  have nst : ce.locals ∉ frs X.stack := fun hm => by
    rcases List.mem_cons.mp (I7.stkSub _ hm) with z | z
    · exact fpC.2.1 z
    · exact fpC.2.2.1 z
  have c2 : L2.CX X.prog X.w X.stack H' s' (fun cls d H2 => W cls d σ H2 ∧ H2 ce.locals = none) u s'' ∧ s''.heap.get? ce.locals = some o := by
    obtain ⟨a, B, H2, cls, d, e, fl, hok, ub, na, os, ag, hE⟩ := c
    exact ⟨⟨a, B, H2, cls, d, e, fl, hok, ub, na, os, ag, hE, ub.free _ _ ho nC⟩, fl.1 _ _ (ub.keep _ _ ho nC nst)⟩
  obtain ⟨c3, hC⟩ := c2
  obtain ⟨a, B, sI, pins2, σ2, H2, cls, d, eu, J, nb, up, sky, na, os, ag, eσ, w, nC2⟩ := XE.of_call (W := fun cls d σ' H2 => σ' = σ ∧ W cls d σ H2 ∧ H2 ce.locals = none) I7 (fun cls d H2 h => ⟨rfl, h⟩) c3
  subst eu
  subst eσ
  have J0 : Inv X [] σ2 H2 sI := Inv.unpinned (pins := []) (pl := pins2) J
  generalize hB' : PySem.W.hideAll B [ce.locals] = B'
  have J' : Inv X [] σ2 H2 { sI with heap := PySem.W.hideAll sI.heap [ce.locals], toks := sI.toks } := J0.turned (it := ce.locals) (fun b o hb e => PySem.W.hideAll_get _ e (by simpa using hb)) nC2 fpC.2.1 fpC.2.2.2.1 fpC.2.2.2.2.1 fun p hp => fpC.2.2.2.2.2 p (by
    rw [List.append_nil] at hp
    exact List.mem_append_left _ hp)
  have hfr : X.A.frames = some (X.env :: X.outer) := by rw [I7.ok.frames, hs]
  have hnf : ∀ vs, o.data ≠ .fields vs := fun vs e => by rw [hd] at e; cases e
  show wpAny _ X.A (noteFrame (.ref a) ce) _ _ _
  rw [note_frame cf]
  refine sky_note Zc.steady hfr hf (by rw [← hs]; exact sky) fun h1 hh up1 => ?_
  obtain ⟨sl, hC1⟩ := up1 _ _ hC hnf
  refine ⟨m, ⟨_, es, ep, hC1, hd, r⟩, fun h' m' _ sb => ?_⟩
  have sb2 : ∀ b, b ≠ ce.locals → h'.get? b = h1.get? b := sb.2
  obtain ⟨k1, k2, k3, oe, vs, T, oT, ts, he, hz, hdd, hv1, hBT, hTe, hT, hdT, hv3⟩ := hh
  have na1 : a ≠ ce.locals := fun z => by
    rw [z, hC1] at he; cases he
    exact hnf _ hdd
  have nT1 : T ≠ ce.locals := fun z => by
    rw [z, hC1] at hT; cases hT
    exact hnf _ hdT
  have bB : ∀ b, B.get? b = none → B'.get? b = none := fun b e => by
    cases q : B'.get? b with
    | none => rfl
    | some o' =>
      rw [← hB'] at q
      have z := PySem.W.of_hideAll _ q
      rw [e] at z; cases z
  have Bb : ∀ b o', B'.get? b = some o' → B.get? b = some o' ∧ b ≠ ce.locals := fun b o' q => by
    rw [← hB'] at q
    refine ⟨PySem.W.of_hideAll _ q, fun z => ?_⟩
    rw [z, PySem.W.hideAll_none _ (by simp)] at q
    cases q
  have held : HandSPX.HeldZ B' (X.env :: X.outer) a (Zc cls d) X.env.locals h' := by
    refine ⟨fun b o' e => ?_, bB _ k2, ?_, oe, vs, T, oT, ts, (sb2 a na1).trans he, hz, hdd, hv1, bB _ hBT, hTe, (sb2 T nT1).trans hT, hdT, hv3⟩
    · obtain ⟨e1, e2⟩ := Bb b o' e
      exact (sb2 b e2).trans (k1 b o' e1)
    · refine funFrames_none (frames_at (fun b hb => sb2 b fun z => ?_) k3) fun b hb => bB b (k3.mem hb).1
      rw [← hs] at hb
      exact nst (z ▸ hb)
  unfold PySem.passOn
  refine wpAny_bind (wpAny_field ((sb2 a na1).trans he) hdd hv1 ?_)
  rw [if_neg (show ¬ ((Value.ref T == Value.none) = true) from by simp)]
  have fin : wpAny (model X.prog X.w) X.A (setFlight (.ref a) ce.frame) (fun _ t => wpAny (model X.prog X.w) X.A (throw (.ref a) : Sem Value) (fun _ _ => False) X.xe t) X.xe { s'' with heap := h' } := by
    rw [cf, hf]
    refine HandSPX.setFlight_onZ held fun h4 hh4 up4 => wpAny_throw (tk _ _ ?_)
    refine ⟨a, B', _, [], σ2, H2, cls, d, rfl, J', fun b o' e hb => ?_, fun b o' e hno => ?_, .inr (.inr (by rw [hs]; exact hh4)), na, os, ag, w⟩
    · have e1 : sI.heap.get? b = some o' := PySem.W.of_hideAll _ e
      have e2 : b ≠ ce.locals := fun z => by
        have e : (PySem.W.hideAll sI.heap [ce.locals]).get? b = some o' := e
        rw [z, PySem.W.hideAll_none _ (by simp)] at e
        cases e
      rw [← hB']
      exact PySem.W.hideAll_get _ (nb b o' e1 hb) (by simpa using e2)
    · have e1 : sI.heap.get? b = some o' := PySem.W.of_hideAll _ e
      have e2 : b ≠ ce.locals := fun z => by
        have e : (PySem.W.hideAll sI.heap [ce.locals]).get? b = some o' := e
        rw [z, PySem.W.hideAll_none _ (by simp)] at e
        cases e
      obtain ⟨s1, q1⟩ := up b o' e1 hno
      obtain ⟨s2, q2⟩ := up1 b _ q1 hno
      have q3 : h'.get? b = some { o' with slots := s2 } := (sb2 b e2).trans q2
      obtain ⟨s4, q4⟩ := up4 b _ q3 hno
      exact ⟨s4, q4⟩
  first
    | exact wpAny_bind (wpAny_pure (wpAny_bind fin))
    | exact wpAny_bind fin
end EY
set_option autoImplicit false
set_option maxHeartbeats 1000000
namespace EY
open PySem PySem.Spec PyProof.Rows L2
/-- what is wanted of the block's wish about errors -/
def BPass (X X' : Cx) (E : XK) : Prop := ∀ (pins : List (Addr × Obj)) (σ : L2.St) (H : Hp) (s : Shared) (u : Value) (s' : Shared), Inv X' pins σ H s → L2.CX X.prog X.w X.stack H s E u s' → X'.xe u s'
section
variable {X : Cx} {Γ : Gm} {P : Po} {rest : List Stmt}
/-- a comprehension in which an error rises, whatever it was for -/
theorem lc_raise {W : WX} {pins : List (Addr × Obj)} {s : Shared} {σ : L2.St} {H : Hp} {elt tg iter : Expr} {ifs : List Expr} {scope : Scope} {own : List (Str × Nat)} {pos pos' : Pos} {wi : TI} {g : TG} {tt : TT} {te : TE} {use : Option (Value → Sem Unit)} {Qf : Value → Shared → Prop}
    (tk : Takes X W) (hst : X.stack = X.env :: X.outer) (hfr : X.env.frame = some X.env.locals) (hc : X.calm = true) (hN : X.N.Nodup) (I : Inv X pins σ H s) (hi : PI X tg iter wi) (ok : BlkOk X.N X.env.scope scope own)
    (hg : ∀ (s : Shared) (H : Hp) (C : Addr) (cl : List (Str × Addr)) (fp : List Addr), PG (X.blk s H scope (compEnvC scope cl C X.env) fp) tg g)
    (ht : ∀ (s : Shared) (H : Hp) (C : Addr) (cl : List (Str × Addr)) (fp : List Addr), PTs (X.blk s H scope (compEnvC scope cl C X.env) fp) ifs tt)
    (he : ∀ (s : Shared) (H : Hp) (C : Addr) (cl : List (Str × Addr)) (fp : List Addr) (xe : Value → Shared → Prop), BPass X ((X.blk s H scope (compEnvC scope cl C X.env) fp).wish xe) (fun c d H2 => W c d σ H2) → PE ((X.blk s H scope (compEnvC scope cl C X.env) fp).wish xe) elt te)
    (hs : ∀ x, foldedSetIterable iter X.env x = pure x) (h : tLc wi g tt te (own.map (·.2)) σ H (fun _ _ => False)) :
    wpAny (model X.prog X.w) X.A (comprehension (.ListComp elt [⟨tg, iter, ifs, 0⟩] scope pos) scope X.env pos' (newList []) false (eval iter X.env) use) Qf X.xe s := by
  have hfree : ∀ y ∈ scope.names, y.2 = .free → ∃ c, X.env.cells.lookup y.1 = some c := fun y hy e => I.ok.has _ (ok.free y hy e)
  refine comp_raise rfl hs (closure_ok hfree) ok.kind (fun y hy e => by rw [ok.uniq y hy, e]) (thn (hi.run pins s σ H _ I h) fun xv s1 hx => thn hx fun itv s2 h2 => ?_)
  obtain ⟨it, fp, tn, J, H2, e, I2, T, st2, f2, q⟩ := h2
  subst e
  refine wpAny_newObj_type (newEnv_comp ?_) (by show 0 ≤ sizeLine; decide)
  generalize hD : s2.heap.objs.size = D
  obtain ⟨V, ⟨m0, w0⟩, turn⟩ := q D (I2.hok.fresh (Nat.le_of_eq hD))
  generalize hs3 : ({ s2 with heap := s2.heap.push { cls := .type "list", data := .seq ([] : List Value).toArray } } : Shared) = s3
  have h3 : s3.heap = s2.heap.push { cls := .type "list", data := .seq ([] : List Value).toArray } := by rw [← hs3]
  have I3 : Inv X pins σ (upd H2 D (.lst [])) s3 := by
    rw [← hs3]
    refine I2.laid (t' := s2.toks) (fun b o e => Heap.get?_push_of_some _ e) (Nat.le_of_eq hD) ⟨Nat.zero_le _, [], 0, .nil, ?_⟩
    rw [← hD]
    exact Heap.get?_push_size _ rfl
  have f3 : ∀ b ∈ fp, FpOk X pins (upd H2 D (.lst [])) b ∧ b < s3.heap.objs.size := fun b hb => by
    obtain ⟨o, e, _⟩ := T.obj _ _ st2 b hb
    have hlt := Heap.lt_size e
    refine ⟨⟨?_, (f2 b hb).2⟩, by rw [h3, Heap.size_push]; exact Nat.lt_succ_of_lt hlt⟩
    rw [upd_ne (by rw [← hD]; exact Nat.ne_of_lt hlt)]
    exact (f2 b hb).1
  have st3 : tn 0 s3.heap := T.keep _ _ _ st2 fun b _ o e => by rw [h3]; exact Heap.get?_push_of_some _ e
  have I4 := block_start I3 ok hN f3
  generalize hH3 : upd H2 D (.lst []) = H3 at I3 I4 w0 f3
  generalize hcl : cellsFrom (s3.heap.objs.size + 1) scope.names (cloFrom X.env.cells scope.names []) = cl at I4
  show codeAny _ _ (.compStart (.ListComp elt [⟨tg, iter, ifs, 0⟩] scope pos) 0 (.ref it) (.ref D) (compEnvC scope cl s3.heap.objs.size X.env))
    (cpR (model X.prog X.w) X.A X.xe (compEnvC scope cl s3.heap.objs.size X.env)) { s3 with heap := pushCells (s3.heap.push { cls := .type "dict", data := .dict #[] }) scope.names }
  have pg := hg s3 H3 s3.heap.objs.size cl fp
  have pt := ht s3 H3 s3.heap.objs.size cl fp
  have pe := he s3 H3 s3.heap.objs.size cl fp (notedBy (model X.prog X.w) X.A (compEnvC scope cl s3.heap.objs.size X.env) fun e t => cpR (model X.prog X.w) X.A X.xe (compEnvC scope cl s3.heap.objs.size X.env) (.error e) t)
    fun pins' σ' H' s' u s'' Ib c => block_pass tk hst hfr I3 f3 rfl rfl Ib c
  have nfp : ∀ b ∈ fp, H3 b = none := fun b hb => (f3 b hb).1.1
  generalize hce : compEnvC scope cl s3.heap.objs.size X.env = ce at I4 pg pt pe ⊢
  generalize hs4 : ({ s3 with heap := pushCells (s3.heap.push { cls := .type "dict", data := .dict #[] }) scope.names } : Shared) = s4 at I4 ⊢
  have st4 : tn 0 s4.heap := T.keep _ _ _ st3 fun b _ o e => by rw [← hs4]; exact pushCells_keeps _ _ _ _ (Heap.get?_push_of_some _ e)
  have stat : ∀ {σ' : L2.St} {H' : Hp} {s' : Shared}, Inv (X.blk s3 H3 scope ce fp) [] σ' H' s' → (∀ b ∈ fp, H' b = none) → ∀ b ∈ fp, FpOk (X.blk s3 H3 scope ce fp) [] H' b := fun {σ' H' s'} I' hn b hb =>
    ⟨hn b hb, (I'.ok.exf b hb).1, I'.ok.exfs b hb, .inl hb, fun x c e => (I'.ok.exf b hb).2 x c e, fun p hp => absurd (show p ∈ ([] : List (Addr × Obj)) ++ [] from hp) (by simp)⟩
  generalize hR : (fun r t => cpR (model X.prog X.w) X.A X.xe ce r t) = R
  have loop : codeAny (model X.prog X.w) X.A (.compLoop (.ListComp elt [⟨tg, iter, ifs, 0⟩] scope pos) 0 (.ref it) (.ref D) ce) R s4 := by
    refine compLoop_any (fun n t => ∃ i H', Inv (X.blk s3 H3 scope ce fp) [] (wipe σ (own.map (·.2))) H' t ∧ tn i t.heap ∧ (∀ b ∈ fp, H' b = none) ∧ V i n H') ?_ m0 ⟨0, H3, I4, st4, nfp, w0⟩
    rintro n s5 ⟨i, H5, I5, st5, n5, w5⟩
    rcases turn i n H5 w5 with ⟨_, no⟩ | ⟨go, Nx, hNx, step⟩
    · exact no.elim
    · refine thnF (T.item (X.blk s3 H3 scope ce fp) rfl rfl rfl hc i [] s5 _ H5 (fun _ _ => False) I5 (stat I5 n5) st5 go) fun r s6 ⟨u, hr, h6⟩ => ?_
      subst hr
      refine thnF h6 fun _ s7 ⟨x, H7, I7, r7, y7, st7, n7⟩ => ?_
      refine thnF (pg.run _ s7 _ H7 x u _ (I7.pinned (stat I7 n7) (T.obj _ _ st7)) r7 (step x H7 y7)) fun _ s8 ⟨σ8, H8, I8, hw8, q8⟩ => ?_
      refine thnF (pt.run _ s8 σ8 H8 _ I8 q8) fun b s9 ⟨H9, I9, q9⟩ => ?_
      have fin : ∀ {t : Shared} {H' : Hp}, Inv (X.blk s3 H3 scope ce fp) ([] ++ pinsAt fp s7.heap) σ8 H' t → Nx H' → ∃ m, m < n ∧ ∃ i H', Inv (X.blk s3 H3 scope ce fp) [] (wipe σ (own.map (·.2))) H' t ∧ tn i t.heap ∧ (∀ b ∈ fp, H' b = none) ∧ V i m H' := fun {t H'} I' nx => by
        obtain ⟨m', hm, w'⟩ := hNx H' nx
        have pin' : ∀ b ∈ fp, ∀ o, s7.heap.get? b = some o → t.heap.get? b = some o ∧ H' b = none := fun b hb o e =>
          let z := I'.pin (b, o) (List.mem_append_right _ (List.mem_append_right _ (mem_pinsAt hb e)))
          ⟨z.1, z.2.1⟩
        refine ⟨m', hm, i + 1, H', (I'.unpinned (pins := [])).weak (by rw [← hw8, wipe_length]) (fun j v e => ?_), T.keep _ _ _ st7 fun b hb o e => (pin' b hb o e).1, fun b hb => ?_, w'⟩
        · rw [← hw8] at e
          exact (wipe_some e).1
        · obtain ⟨o, e, _⟩ := T.obj _ _ st7 b hb
          exact (pin' b hb o e).2
      cases b with
      | false =>
        simp only [Bool.false_eq_true, if_false] at q9 ⊢
        exact fin I9 q9
      | true =>
        simp only [if_true] at q9 ⊢
        subst hR
        refine thn (pe.run _ s9 σ8 H9 _ (I9.wish _) q9) fun z s10 ⟨yv, H10, I10, r10, acc, hD10, hz10, nx⟩ => ?_
        exact app_ok (X := X.blk s3 H3 scope ce fp) I10.unwish hD10 hz10 r10 fun s11 I11 => fin I11 nx
  subst hR
  exact codeAny_compStart_list loop (T.self X.A 0 _ _ _ st4 loop)
/-- name = [..], raised -/
theorem ps_setLcR {W : WX} {y : Str} {py : Pos} {elt tg iter : Expr} {ifs : List Expr} {scope : Scope} {own : List (Str × Nat)} {pos spos : Pos} {wi : TI} {g : TG} {tt : TT} {te : TE} {pins : List (Addr × Obj)} {s : Shared} {σ : L2.St} {H : Hp} {D : Ends} (tk : Takes X W) (hst : X.stack = X.env :: X.outer) (hfr : X.env.frame = some X.env.locals) (hc : X.calm = true) (hN : X.N.Nodup)
    (hsw : swapsWith (.ListComp elt [⟨tg, iter, ifs, 0⟩] scope pos) (some (.Name y py)) spos.line X.env = pure true) (I : Inv X pins σ H s) (hi : PI X tg iter wi) (ok : BlkOk X.N X.env.scope scope own)
    (hg : ∀ (s : Shared) (H : Hp) (C : Addr) (cl : List (Str × Addr)) (fp : List Addr), PG (X.blk s H scope (compEnvC scope cl C X.env) fp) tg g)
    (ht : ∀ (s : Shared) (H : Hp) (C : Addr) (cl : List (Str × Addr)) (fp : List Addr), PTs (X.blk s H scope (compEnvC scope cl C X.env) fp) ifs tt)
    (he : ∀ (s : Shared) (H : Hp) (C : Addr) (cl : List (Str × Addr)) (fp : List Addr) (xe : Value → Shared → Prop), BPass X ((X.blk s H scope (compEnvC scope cl C X.env) fp).wish xe) (fun c d H2 => W c d σ H2) → PE ((X.blk s H scope (compEnvC scope cl C X.env) fp).wish xe) elt te)
    (hs : ∀ x, foldedSetIterable iter X.env x = pure x) (h : tLc wi g tt te (own.map (·.2)) σ H (fun _ _ => False)) :
    wpAny (model X.prog X.w) X.A (exec (.Assign [.Name y py] (.ListComp elt [⟨tg, iter, ifs, 0⟩] scope pos) spos) X.env) (SP X pins D) X.xe s := by
  rw [exec_Assign_Name_used _ _ _ _ hsw]
  refine wpAny_bind (wpAny_standAt (wpAny_bind ?_))
  show wpAny _ X.A (do let _ ← comprehension (.ListComp elt [⟨tg, iter, ifs, 0⟩] scope pos) scope X.env (firstIterPos [⟨tg, iter, ifs, 0⟩] pos) (newList []) false (eval iter X.env) (some (assign (.Name y py) X.env))) _ _ s
  exact wpAny_bind (thn (lc_raise (Qf := fun _ _ => False) tk hst hfr hc hN I hi ok hg ht he hs h) fun _ _ z => z.elim)
/-- f(..) in the block, raised -/
def DX (X' : Cx) (e : Expr) (Γ : Gm) (C : Value) : Prop := ∀ (B : Bs) (O : Addr → Prop) (H : Hp) (σ : L2.St) (Q : VK) (E : XK) (X : Cx), X.prog = X'.prog → X.w = X'.w → X.stack = X'.stack → Sg X'.K B O H σ Γ → BPass X X' E → (∀ H', Same H H' → E C none H') → wE X' e σ H Q
theorem dx_call {e : Expr} {es : List Expr} {x : Str} {p pos : Pos} {ds : List PyData} {k n : Nat} {ps : List Str} {R : List PyData → PyData → Prop} {XR : List PyData → Value → Prop} {C : Value} (h : HasX X.prog X.w X.K X.mg X.base k x ps (spX X.K R XR)) (hr : Room n X.A) (ha : DA X (e :: es) Γ ds) (hX : XR ds C) (hk : k ≤ n := by decide) (hg : Gl X x := by rfl)
    (hdb : (x == ("__debug__" : Str)) = false := by decide) (he : starEach (e :: es) X.env = (false, eval e X.env) :: starEach es X.env := by rfl) (hpl : (backTo pos (starEach es X.env)).any (·.1) = false := by rfl) : DX X (.Call (.Name x p) (e :: es) [] pos) Γ C := fun B O H σ Q E X0 e1 e2 e3 g bp hE => by
  obtain ⟨f, fd, F, hm, hkp, hb⟩ := h.ex
  refine wE_of (pe_callS (E := fun _ => E) F (hr.mono hk) hg hm hkp hb (fun σ pins H s u s' I c => bp pins σ H s u s' I (by rw [e1, e2, e3]; exact c)) pa_w hdb he hpl) (ha B O H σ _ g fun vs H2 s2 d2 => ⟨O, ds, (g.step s2).live, d2, .inr ⟨C, hX, fun H3 s3 => hE H3 (s2.trans s3)⟩⟩)
/-- x = [.. for ..], raised at its k-th turn -/
theorem ds_setLcR {elt tg iter : Expr} {x : Str} {ifs : List Expr} {scope : Scope} {py pos spos : Pos} {C : Value} {n k : Nat} {it : Nat → PyData} {own : List (Str × Nat)} {js : List Nat} (hN : X.N.Nodup) (hi : DIC X tg iter Γ n it) (ok : BlkOk X.N X.env.scope scope own) (Γi : Nat → Gm) (f : Nat → Bool) (v : Nat → PyData) (hn : n ≤ 10000) (hk : k < n) (hfk : f k = true) (hP : P.xr C Γ)
    (hg : ∀ i, i < n → ∀ (s : Shared) (H : Hp) (C : Addr) (cl : List (Str × Addr)) (fp : List Addr), DG (X.blk s H scope (compEnvC scope cl C X.env) fp) tg (wipeG Γ (own.map (·.2))) (it i) (Γi i) js) (hj : ∀ j ∈ js, j ∈ own.map (·.2))
    (ht : ∀ i, i < n → ∀ (s : Shared) (H : Hp) (C : Addr) (cl : List (Str × Addr)) (fp : List Addr), DTs (X.blk s H scope (compEnvC scope cl C X.env) fp) ifs (Γi i) (f i))
    (he : ∀ i, i < k → f i = true → ∀ (s : Shared) (H : Hp) (C : Addr) (cl : List (Str × Addr)) (fp : List Addr) (xe : Value → Shared → Prop), DE ((X.blk s H scope (compEnvC scope cl C X.env) fp).wish xe) elt (Γi i) (v i))
    (hr : ∀ (s : Shared) (H : Hp) (C' : Addr) (cl : List (Str × Addr)) (fp : List Addr) (xe : Value → Shared → Prop), DX ((X.blk s H scope (compEnvC scope cl C' X.env) fp).wish xe) elt (Γi k) C)
    (hst : X.stack = X.env :: X.outer := by rfl) (hfr : X.env.frame = some X.env.locals := by rfl) (hc : X.calm = true := by rfl) (hs : ∀ x, foldedSetIterable iter X.env x = pure x := by intro _; rfl)
    (hsw : swapsWith (.ListComp elt [⟨tg, iter, ifs, 0⟩] scope pos) (some (.Name x py)) spos.line X.env = pure true := by exact sw_true rfl rfl rfl (by decide +kernel)) :
    DS X (.Assign [.Name x py] (.ListComp elt [⟨tg, iter, ifs, 0⟩] scope pos) spos :: rest) Γ P := fun B O H σ D g fi => by
  obtain ⟨W, tk, hW⟩ := fi.xr C Γ hP
  refine wB_of (pss_cons ps_w pss_w) ?_
  refine ⟨fun pins s I => ?_⟩
  refine ps_setLcR (own := own) (wi := wI X tg iter) (g := fun v σ H Q => ∀ (s : Shared) (H' : Hp) (C : Addr) (cl : List (Str × Addr)) (fp : List Addr), wG (X.blk s H' scope (compEnvC scope cl C X.env) fp) tg v σ H Q)
    (tt := fun σ H Q => ∀ (s : Shared) (H' : Hp) (C : Addr) (cl : List (Str × Addr)) (fp : List Addr), ∃ t, PTs (X.blk s H' scope (compEnvC scope cl C X.env) fp) ifs t ∧ t σ H Q)
    (te := fun σ' H Q => ∀ (s : Shared) (H' : Hp) (C : Addr) (cl : List (Str × Addr)) (fp : List Addr) (xe : Value → Shared → Prop), BPass X ((X.blk s H' scope (compEnvC scope cl C X.env) fp).wish xe) (fun c d H2 => W c d σ H2) → wE ((X.blk s H' scope (compEnvC scope cl C X.env) fp).wish xe) elt σ' H Q)
    tk hst hfr hc hN hsw I pi_w ok (fun s H C cl fp => ⟨fun pins s' σ H' v u Q I r h => (h s H C cl fp).run pins s' u I r⟩) (fun s H C cl fp => ⟨fun pins s' σ H' Q I h => let ⟨t, h1, h2⟩ := h s H C cl fp; h1.run pins s' σ H' Q I h2⟩)
    (fun s H C cl fp xe bp => ⟨fun pins s' σ H' Q I h => (h s H C cl fp xe bp).run pins s' I⟩) hs ?_
  refine hi B O H σ _ g fun J H1 s1 wk D hD => ?_
  have g1 := g.step s1
  refine ⟨fun i m H' => m = n - i ∧ i ≤ k ∧ Same H1 H' ∧ ∃ vs, H' D = some (.lst vs) ∧ vs.length ≤ i, ⟨n, by simp, Nat.zero_le _, same_upd hD, [], upd_same, Nat.le_refl _⟩, ?_⟩
  rintro i m H' ⟨rfl, hik, sm, vs, hvs, hdp⟩
  have g2 : Sg X.K B (fun a => O a ∨ a = D) H' σ Γ := g1.grow hD sm ⟨_, hvs⟩
  have o2 : ∀ a, (O a ∨ a = D) → O a ∨ H1 a = none := fun a h => by
    rcases h with h | h
    · exact .inl h
    · subst h
      exact .inr hD
  obtain ⟨w1, w2, w3⟩ := wk H' (fun a => O a ∨ a = D) sm o2 g2.live
  have hlt : i < n := by omega
  refine .inr ⟨w1 i hlt, fun H' => i + 1 ≤ k ∧ Same H1 H' ∧ ∃ vs, H' D = some (.lst vs) ∧ vs.length ≤ i + 1, fun H2 h2 => ⟨n - (i + 1), by omega, rfl, h2⟩, fun x H3 hy => ?_⟩
  obtain ⟨s3, hx⟩ := w3 i hlt x H3 hy
  have g3 := (g2.step s3).wipe (own.map (·.2))
  intro s5 H5 C5 cl5 fp5
  refine hg i hlt s5 H5 C5 cl5 fp5 B _ H3 _ x _ g3 hx fun σ2 gs2 ag => ⟨wipe_agr hj ag, ?_⟩
  intro s6 H6 C6 cl6 fp6
  refine ht i hlt s6 H6 C6 cl6 fp6 B _ H3 σ2 _ gs2 fun H4 s4 => ?_
  by_cases hk2 : i = k
  · subst hk2
    rw [hfk, if_pos rfl]
    intro s7 H7 C7 cl7 fp7 xe bp
    refine hr s7 H7 C7 cl7 fp7 xe B _ H4 σ2 _ _ X rfl rfl rfl (gs2.step s4) bp fun H8 s8 => ?_
    exact hW O H8 σ (g1.step (((sm.trans s3).trans s4).trans s8))
  · have hik2 : i < k := by omega
    cases hf : f i with
    | true =>
      rw [if_pos rfl]
      intro s7 H7 C7 cl7 fp7 xe bp
      refine he i hik2 hf s7 H7 C7 cl7 fp7 xe B _ H4 σ2 _ (gs2.step s4) fun y H8 s8 hy8 => ?_
      have sm8 := (s3.trans s4).trans s8
      refine ⟨vs, sm8 _ _ hvs, ?_, by omega, ?_, vs ++ [y], upd_same, by rw [List.length_append]; simpa using hdp⟩
      · exact Nat.lt_of_le_of_lt (show vs.length ≤ 10000 by omega) (by decide)
      · intro b o e
        rw [upd_ne (ne_of_none e hD)]
        exact sm8 _ _ (sm _ _ e)
    | false =>
      rw [if_neg Bool.false_ne_true]
      exact ⟨by omega, sm.trans (s3.trans s4), vs, (s3.trans s4) _ _ hvs, by omega⟩
end
end EY
set_option autoImplicit false
set_option maxHeartbeats 1000000
/-! lists of texts; parts of texts -/
namespace EY
open PySem PySem.Spec PyProof.Rows L2
theorem canLay_strs : ∀ ys : List Str, (∀ y ∈ ys, PyData.strOk y = true) → PyData.canLayAll0 (ys.map .str) = true
  | [], _ => by simp [PyData.canLayAll0]
  | y :: ys, h => by simp [PyData.canLayAll0, PyData.canLay0, h y (List.mem_cons_self ..), canLay_strs ys fun z hz => h z (List.mem_cons_of_mem _ hz)]
theorem eqvAll_strs : ∀ ns ms : List Str, PyData.eqvAll (ns.map .str) (ms.map .str) = decide (ns = ms)
  | [], [] => by simp [PyData.eqvAll]
  | [], _ :: _ => by simp [PyData.eqvAll]
  | _ :: _, [] => by simp [PyData.eqvAll]
  | n :: ns, m :: ms => by
    rw [List.map_cons, List.map_cons, PyData.eqvAll, eqvAll_strs ns ms]
    by_cases h : n = m
    · subst h; simp [PyData.eqv]
    · simp [PyData.eqv, h]
theorem getD_strs {ys : List Str} {i : Nat} (h : i < ys.length) : (ys.map PyData.str).getD i .none = .str (ys.getD i Str.empty) := by
  simp [List.getD_eq_getElem?_getD, List.getElem?_eq_getElem h]
section
variable {X : Cx} {Γ : Gm} {a b c e tg : Expr} {es : List Expr} {p p2 pos ap cp : Pos} {ns : List Int} {i : Int} {xs : List PyData} {x y z : Str} {ys zs : List Str} {k : Nat}
theorem dl_slS {lo hi : Option Expr} {l h : Option Int} {p2 : Pos} (ha : DR X a Γ (ys.map .str)) (hl : DO X lo Γ l) (hh : DO X hi Γ h) : DL X (.Subscript a (.Slice lo hi none p2) pos) Γ ((cut ys l h).map .str) := (dl_slL ha hl hh).is (by rw [cut_map])
theorem dic_listS (h : DR X e Γ (ys.map .str)) : DIC X tg e Γ ys.length (fun i => .str (ys.getD i Str.empty)) := ((dic_list h).len (by rw [List.length_map])).is fun i hi => getD_strs hi
theorem dif_listS (h : DE X e Γ (.list (ys.map .str))) : DIF X tg e Γ ys.length (fun i => .str (ys.getD i Str.empty)) := ((dif_list h).len (by rw [List.length_map])).is fun i hi => getD_strs hi
theorem dif_tupS (h : DE X e Γ (.tuple (ys.map .str))) : DIF X tg e Γ ys.length (fun i => .str (ys.getD i Str.empty)) := ((dif_tup h).len (by rw [List.length_map])).is fun i hi => getD_strs hi
theorem de_ixLS (ha : DR X a Γ (ys.map .str)) (hb : DE X b Γ (.int i)) (h : atI ys i = some z) (hs : PlainIx b := by intro _ _; rfl) : DE X (.Subscript a b pos) Γ (.str z) := de_ixL ha hb (by rw [atI_map, h]; rfl) hs
theorem de_lenLS (hm : X.mg "len" = none) (h : DR X e Γ (ys.map .str)) (hg : Gl X "len" := by rfl) (he : starEach [e] X.env = (false, eval e X.env) :: starEach [] X.env := by rfl) : DE X (.Call (.Name "len" p) [e] [] pos) Γ (.int ys.length) := (de_lenL hm h hg he).is (by rw [List.length_map])
theorem dl_catS (ha : DR X a Γ (ys.map .str)) (hb : DR X b Γ (zs.map .str)) (hl : ys.length + zs.length ≤ 100000) : DL X (.BinOp a .Add b pos) Γ ((ys ++ zs).map .str) := (dl_catR ha hb (by rw [List.length_map, List.length_map]; exact hl)).is (by rw [List.map_append])
theorem gathS (n : Nat) (u : Nat → Str) : gath n (fun _ => true) (fun i => .str (u i)) = ((List.range n).map u).map .str := by
  unfold gath
  rw [filter_true, List.map_map]
  rfl
theorem depth_strs : ∀ ys : List Str, PyData.depthAll (ys.map .str) ≤ 1
  | [] => by simp [PyData.depthAll]
  | y :: ys => by
    have := depth_strs ys
    rw [List.map_cons]
    simp [PyData.depthAll, PyData.depth]
    omega
theorem shaped_strs {ys : List Str} (h : ∀ y ∈ ys, PyData.strOk y = true) : SeqAt.shaped (.list (ys.map .str)) = true := by
  have h1 := canLay_strs ys h
  have h2 := depth_strs ys
  simp [SeqAt.shaped, PyData.canLay0, PyData.depth, h1]
  omega
theorem ce_eqLS (hr : Room k X.A) (ha : DR X a Γ (ys.map .str)) (hb : DR X b Γ (zs.map .str)) (hy : ∀ y ∈ ys, PyData.strOk y = true) (hz : ∀ y ∈ zs, PyData.strOk y = true) : CE X a .Eq b Γ (decide (ys = zs)) := (ce_eqL hr ha hb (shaped_strs hy) (shaped_strs hz)).is (by rw [PyData.eqv]; exact eqvAll_strs ys zs)
theorem ce_neLS (hr : Room k X.A) (ha : DR X a Γ (ys.map .str)) (hb : DR X b Γ (zs.map .str)) (hy : ∀ y ∈ ys, PyData.strOk y = true) (hz : ∀ y ∈ zs, PyData.strOk y = true) : CE X a .NotEq b Γ (!decide (ys = zs)) := (ce_neL hr ha hb (shaped_strs hy) (shaped_strs hz)).is (by rw [PyData.eqv, eqvAll_strs ys zs])
/-- text[i] -/
theorem de_ixS {n : Nat} (ha : DE X a Γ (.str x)) (hb : DE X b Γ (.int i)) (hx : x.length ≤ 1000000) (h : atI x.cps.toList i = some n) (hs : PlainIx b := by intro _ _; rfl) : DE X (.Subscript a b pos) Γ (.str ⟨#[n]⟩) := fun B O H σ Q g q =>
  wE_of (pe_ix ix_str pe_w pe_w hs) (ha B O H σ _ g fun v H2 s2 d2 => hb B O H2 σ _ (g.step s2) fun u H3 s3 d3 => by
    cases d2; cases d3
    exact ⟨_, _, _, rfl, rfl, log_small hx, h, q _ H3 (s2.trans s3) (.str _)⟩)
/-- text[lo:hi] -/
theorem de_slS {lo hi : Option Expr} {l h : Option Int} {p2 : Pos} (ha : DE X a Γ (.str x)) (hl : DO X lo Γ l) (hh : DO X hi Γ h) (hx : x.length ≤ 1000000) : DE X (.Subscript a (.Slice lo hi none p2) pos) Γ (.str (cutS x l h)) := fun B O H σ Q g q =>
  wE_of (pe_slice sl_str pe_w po_w po_w) (ha B O H σ _ g fun v H2 s2 d2 => hl B O H2 σ _ (g.step s2) fun H3 s3 => hh B O H3 σ _ (g.step (s2.trans s3)) fun H4 s4 => by
    cases d2
    exact ⟨_, rfl, log_small hx, q _ H4 (s2.trans (s3.trans s4)) (.str _)⟩)
def repS (x : Str) (n : Nat) : Str := ⟨(List.replicate n x.cps).foldl (· ++ ·) #[]⟩
theorem op_mul_str : OpR X (binaryOp .Mult) (fun x y H Q => ∃ i k, x = .str i ∧ y = .int k ∧ 2 ≤ k ∧ k ≤ 1000 ∧ 0 < i.length ∧ i.length ≤ 1000 ∧ Q (.str (repS i k.toNat)) H) := by
  intro pins s σ H x y v u Q I rx ry h
  obtain ⟨i, k, rfl, rfl, h1, h2, h3, h4, q⟩ := h
  obtain ⟨t, rfl⟩ := rx
  obtain ⟨t', rfl⟩ := ry
  have e0 : (k == 1 || i.length == 0) = false := by
    rw [Bool.or_eq_false_iff]
    exact ⟨by simp; omega, by simp; omega⟩
  have hl : i.length * k.toNat ≤ 1000000 := by
    have : i.length * k.toNat ≤ 1000 * 1000 := Nat.mul_le_mul h4 (by omega)
    omega
  refine PySem.P.mul_str ?_ (fun _ _ => ?_) (fun _ _ => ?_) ?_
  · rw [decide_eq_false (by omega), decide_eq_false (by omega)]; rfl
  · have hk : (1000 : Int) ≤ (2 ^ 63 - 1) / k := by
      rw [Int.le_ediv_iff_mul_le (by omega)]
      omega
    omega
  · unfold Builtin.Str.tooLong
    rw [decide_eq_false]
    have := log_small hl
    omega
  · rw [if_neg (by omega), if_neg (by rw [e0]; decide)]
    refine ⟨?_, .str _, H, I.tok _, ⟨_, rfl⟩, q⟩
    have hh : ∀ (n : Nat) (acc : Array Nat), ((List.replicate n i.cps).foldl (· ++ ·) acc).size = acc.size + n * i.cps.size := by
      intro n
      induction n with
      | zero => intro acc; simp
      | succ n ih =>
        intro acc
        rw [List.replicate_succ, List.foldl_cons, ih, Array.size_append, Nat.succ_mul]
        omega
    have hz := hh k.toNat #[]
    have e : i.length = i.cps.size := rfl
    show ((List.replicate k.toNat i.cps).foldl (· ++ ·) #[]).size ≤ sizeLine
    rw [hz]
    refine log_small ?_
    rw [e] at hl
    rw [Nat.mul_comm] at hl
    simpa using hl
/-- text * n -/
theorem de_repS (ha : DE X a Γ (.str x)) (hb : DE X b Γ (.int i)) (h : 2 ≤ i ∧ i ≤ 1000 ∧ 0 < x.length ∧ x.length ≤ 1000) : DE X (.BinOp a .Mult b pos) Γ (.str (repS x i.toNat)) := de_bin op_mul_str ha hb fun O H u v Q _ h1 h2 q => by
  cases h1; cases h2
  exact ⟨_, _, rfl, rfl, h.1, h.2.1, h.2.2.1, h.2.2.2, q _ H (Same.refl H) (.str _)⟩
end
end EY
set_option autoImplicit false
set_option maxHeartbeats 1000000
/-! the greatest of a tuple -/
namespace EY
open PySem PySem.Spec PyProof.Rows L2
theorem max_tuple {prog : Program} {w : World} {A : Around} {E : Value → Shared → Prop} {s : Shared} {l : Addr} {its : List Value} {ns : List Int} {Q : Value → Shared → Prop} (hh : A.handled = none) (hl : s.heap.IsTuple l its.toArray) (hi : IntsAre its ns) (hne : 0 < ns.length)
    (h : ∀ h' tk m t', (∀ b o, s.heap.get? b = some o → h'.get? b = some o) → m ∈ ns → (∀ a, a ∈ ns → a ≤ m) → Q (.int m t') { s with heap := h', toks := tk }) : wpAny (model prog w) A (call (.builtin "max") [.ref l]) Q E s := by
  obtain ⟨xs, e⟩ := hi.allInts.items
  have hn : numsOf (intItems xs).toList = ns := by rw [← e]; exact hi.numsOf
  rw [nums_intItems] at hn
  subst hn
  rw [e] at hl
  have hsz : 0 < xs.size := by simpa using hne
  have hlt : l < s.heap.objs.size := by
    obtain ⟨o, q, _⟩ := hl
    exact Heap.lt_size q
  refine call_max_walk (wpAny_pyIter_tuple hl ?_)
  refine ⟨_, [_, l], [_], _, _, _, _, rfl, Walks.tuple (A := A.in1) hh _ l (Nat.ne_of_lt hlt) (intItems xs), ⟨⟨_, Heap.get?_push_size _ rfl, rfl, rfl⟩, hl.push _⟩, fun d hd => ?_, by simpa [intItems] using hsz,
    CmpOf.ints_gt (numAt xs) (fun _ _ => intItems_at), fun v h' tk hP hk => ?_⟩
  · show d < (s.heap.push _).objs.size
    rw [Heap.size_push]
    rcases List.mem_cons.mp hd with q | hd
    · rw [q]; exact Nat.lt_succ_self _
    · rcases List.mem_cons.mp hd with q | hd
      · rw [q]; exact Nat.lt_succ_of_lt hlt
      · cases hd
  · have hP : (intItems xs)[argBest (fun i j => decide (numAt xs i > numAt xs j)) (xs.size - 1)]? = some v := by simpa [intItems] using hP
    obtain ⟨t, rfl⟩ := intItems_at hP
    obtain ⟨h1, h2⟩ := argBest_gt (numAt xs) (xs.size - 1)
    refine h h' tk _ t (fun b o q => hk b o (fun hm => ?_) (Heap.get?_push_of_some _ q)) ?_ fun a ha => ?_
    · rw [List.mem_singleton] at hm
      have := Heap.lt_size q
      rw [hm] at this
      exact Nat.lt_irrefl _ this
    · rw [numAt_eq]; exact PySem.getD_mem (by rw [List.length_map, Array.length_toList]; omega)
    · obtain ⟨j, hj, rfl⟩ := mem_getD ha
      rw [List.length_map, Array.length_toList] at hj
      rw [← numAt_eq]; exact h2 j (by omega)
section
variable {X : Cx} {Γ : Gm} {e : Expr} {p pos : Pos} {ns : List Int}
theorem cr_maxT (hc : X.calm = true) : CallR X (.builtin "max") (fun vs H Q => ∃ (a : Addr) (ns : List Int), vs = [V.ref a] ∧ SqT X.K H a (ns.map V.int) ∧ 0 < ns.length ∧ ∀ m, m ∈ ns → (∀ y, y ∈ ns → y ≤ m) → Q (.int m) H) := by
  intro pins s σ H vs us Q I r h
  obtain ⟨a, ns, rfl, hs, hne, q⟩ := h
  obtain ⟨its, rv, hl, _⟩ := I.tuple hs
  rw [Vals.ref1 r]
  exact max_tuple (I.ok.hd hc) hl rv.ints hne fun h' tk m t' hk h1 h2 => ⟨.int _, H, I.kept hk, ⟨_, rfl⟩, q m h1 h2⟩
theorem de_maxT {m : Int} (hm : X.mg "max" = none) (h : DE X e Γ (tupI ns)) (hq : m ∈ ns ∧ ∀ y ∈ ns, y ≤ m) (hc : X.calm = true := by rfl) (hg : Gl X "max" := by rfl) (he : starEach [e] X.env = (false, eval e X.env) :: starEach [] X.env := by rfl) : DE X (.Call (.Name "max" p) [e] [] pos) Γ (.int m) := fun B O H σ Q g q =>
  wE_callB (cr_maxT hc) hm PyProof.Rows.boot_max hg (wA_one he (h B O H σ _ g fun v H2 s2 d2 => by
    cases d2 with
    | tup hs ha =>
      have e := dpAll_ints ha
      subst e
      refine ⟨_, ns, rfl, Same.seqT hid_sub hs, List.length_pos_of_mem hq.1, fun m' h1 h2 => ?_⟩
      have : m' = m := Int.le_antisymm (hq.2 m' h1) (h2 m hq.1)
      rw [this]
      exact q _ H2 s2 (.int _))) (by decide) (by decide) he rfl
end
end EY
set_option autoImplicit false
set_option maxHeartbeats 1000000
/-! objects whose fields are data, changed by their methods -/
namespace EY
open PySem PySem.Spec PyProof.Rows L2
inductive FD (K : PySem.W.Frag) (D : Hp) : List (Str × V) → List (Str × PyData) → Prop
  | nil : FD K D [] []
  | cons {f : Str} {v : V} {x : PyData} {fs : List (Str × V)} {xs : List (Str × PyData)} : Dp K D v x → FD K D fs xs → FD K D ((f, v) :: fs) ((f, x) :: xs)
def putD (f : Str) (x : PyData) : List (Str × PyData) → List (Str × PyData)
  | [] => [(f, x)]
  | (g, y) :: r => if g = f then (g, x) :: r else (g, y) :: putD f x r
section
variable {K : PySem.W.Frag} {D D2 : Hp} {fs : List (Str × V)} {xs : List (Str × PyData)}
theorem FD.mono (e : Same D D2) (h : FD K D fs xs) : FD K D2 fs xs := by
  induction h with
  | nil => exact .nil
  | cons h1 _ ih => exact .cons (dp_mono e _ _ h1) ih
theorem FD.len (h : FD K D fs xs) : fs.length = xs.length := by
  induction h with
  | nil => rfl
  | cons _ _ ih => simp [ih]
theorem FD.get (h : FD K D fs xs) {f : Str} {x : PyData} (e : xs.lookup f = some x) : ∃ v, fs.lookup f = some v ∧ Dp K D v x := by
  induction h with
  | nil => cases e
  | @cons g v y fs xs h1 _ ih =>
    rw [List.lookup_cons] at e ⊢
    cases q : f == g with
    | true => rw [q] at e; cases e; exact ⟨v, rfl, h1⟩
    | false => rw [q] at e; exact ih e
theorem FD.no (h : FD K D fs xs) {f : Str} (e : xs.lookup f = none) : fs.lookup f = none := by
  induction h with
  | nil => rfl
  | @cons g v y fs xs h1 _ ih =>
    rw [List.lookup_cons] at e ⊢
    cases q : f == g with
    | true => rw [q] at e; cases e
    | false => rw [q] at e; exact ih e
theorem FD.put (h : FD K D fs xs) {f : Str} {v : V} {x : PyData} (hv : Dp K D v x) : FD K D (putF f v fs) (putD f x xs) := by
  induction h with
  | nil => exact .cons hv .nil
  | @cons g u y fs xs h1 h2 ih =>
    unfold putF putD
    by_cases q : g = f
    · rw [if_pos q, if_pos q]
      exact .cons hv h2
    · rw [if_neg q, if_neg q]
      exact .cons h1 ih
end
/-- an instance of C at p with these fields -/
def insD (K : PySem.W.Frag) (C p dx : Addr) (xs : List (Str × PyData)) : Fac where
  φ H D := ∃ fs, H p = some (.ins C dx fs) ∧ FD K D fs xs
  mono e e' h := let ⟨fs, h1, h2⟩ := h; ⟨fs, e _ _ h1, h2.mono e'⟩
  away := fun {H D a vs us} ha h => by
    obtain ⟨fs, h1, h2⟩ := h
    exact ⟨fs, (upd_ne (fun z => by rw [z, ha] at h1; cases h1)).trans h1, h2⟩
/-- a def whose first argument is such an object, which it may change; an error leaves it as it was -/
def spN (K : PySem.W.Frag) (C : Addr) (R : List (Str × PyData) → List PyData → List (Str × PyData) → PyData → Prop) (XR : List (Str × PyData) → List PyData → Value → Prop) : Sp := fun vs H Q E => ∃ (O : Addr → Prop) (p dx : Addr) (fs : List (Str × V)) (xs : List (Str × PyData)) (us : List V) (ds : List PyData),
  vs = .ref p :: us ∧ H p = some (.ins C dx fs) ∧ FD K (hid O H) fs xs ∧ O p ∧ Live O H ∧ DpAll K (hid O H) us ds ∧
  ((∃ xs' r, R xs ds xs' r ∧ ∀ v H2 fs', Same (upd H p (.ins C dx fs')) H2 → FD K (hid O H2) fs' xs' → Dp K (hid O H2) v r → Q v H2) ∨
    ∃ c, XR xs ds c ∧ ∀ H2 fs', Same (upd H p (.ins C dx fs')) H2 → FD K (hid O H2) fs' xs → E c none H2)
structure HasN (P : Program) (w : World) (K : PySem.W.Frag) (mg : Str → Option Value) (base : Heap) (k : Nat) (C : Addr) (m : Str) (ps : List Str) (sp : Sp) : Prop where
  ex : ∃ f fd, FnOk P w K mg base (L2.CX P w) k f fd ps sp ∧ Meth K C m f ∧ Binds K fd ps []
/-- an expression that may change an object -/
def DM (X : Cx) (e : Expr) (Γ : Gm) (d : PyData) (Γ' : Gm) : Prop := ∀ (B : Bs) (O : Addr → Prop) (H : Hp) (σ : L2.St) (Q : VK), Sg X.K B O H σ Γ → (∀ v H2, Sg X.K B O H2 σ Γ' → Dp X.K (hid O H2) v d → Q v H2) → wE X e σ H Q
def DTM (X : Cx) (e : Expr) (Γ : Gm) (k : Bool) (Γ' : Gm) : Prop := ∀ (B : Bs) (O : Addr → Prop) (H : Hp) (σ : L2.St) (Q : Bool → Hp → Prop), Sg X.K B O H σ Γ → (∀ H2, Sg X.K B O H2 σ Γ' → Q k H2) → wT X e σ H Q
section
variable {X : Cx} {Γ Γ' : Gm} {a b c e : Expr} {es : List Expr} {pe pa p p' pos : Pos} {x y f m : Str} {C q dx : Addr} {xs xs' : List (Str × PyData)} {as : List Addr} {d r : PyData} {n : Nat} {rest t : List Stmt} {P : Po} {ds : List PyData}
/-- x.f -/
theorem de_fldD (i : Nat) (h : Γ[i]? = some (some (.fac (.ref q) as (insD X.K C q dx xs)))) (cl : Cls X.K C) (na : NoAttr X.K C f) (hl : xs.lookup f = some d)
    (hN : X.N[i]? = some x := by rfl) (hv : Vis X.env.scope x := by first | exact Or.inl rfl | exact Or.inr (Or.inl rfl) | exact Or.inr (Or.inr rfl)) (hd : (x == ("__debug__" : Str)) = false := by decide) (hcd : (x == ("__classdict__" : Str)) = false := by decide) (hb : attributeBase (.Name x pe) f X.env (eval (.Name x pe) X.env) = eval (.Name x pe) X.env := by rfl) :
    DE X (.Attribute (.Name x pe) f pos) Γ d := fun B O H σ Q g k => by
  obtain ⟨h1, fs, h2, h3⟩ := fac_get g h
  obtain ⟨v, e1, e2⟩ := h3.get hl
  exact wE_of (pe_fld (pv i hN hv hd hcd) hb) ⟨_, h1, q, C, dx, fs, _, rfl, h2, cl, na, e1, k _ H (Same.refl H) e2⟩
/-- x.f = e -/
theorem ds_fldD (i : Nat) (h : Γ[i]? = some (some (.fac (.ref q) as (insD X.K C q dx xs)))) (only : Only Γ i) (ha : q ∈ as) (cl : Cls X.K C) (na : NoAttr X.K C f) (hlen : xs.length < 1000) (he : DE X e Γ d)
    (kk : DS X rest (Γ.set i (some (.fac (.ref q) as (insD X.K C q dx (putD f d xs))))) P)
    (hN : X.N[i]? = some x := by rfl) (hv : Vis X.env.scope x := by first | exact Or.inl rfl | exact Or.inr (Or.inl rfl) | exact Or.inr (Or.inr rfl)) (hd : (x == ("__debug__" : Str)) = false := by decide) (hcd : (x == ("__classdict__" : Str)) = false := by decide)
    (hs : swapsWith e (some (.Attribute (.Name x pe) f p')) pos.line X.env = pure false := by rfl) : DS X (.Assign [.Attribute (.Name x pe) f p'] e pos :: rest) Γ P := fun B O H σ D g ff => by
  refine wB_of (pss_cons (ps_fld (pv i hN hv hd hcd) pe_w hs) pss_w) (he B O H σ _ g fun v H2 s2 d2 => ?_)
  have g2 := g.step s2
  obtain ⟨h1, fs, h2, h3⟩ := fac_get g2 h
  obtain ⟨_, _, _, own, _⟩ := g2.slot i _ h
  refine ⟨_, h1, q, C, dx, fs, rfl, h2, cl, na, by rw [h3.len]; exact hlen, ?_⟩
  have hO : O q := (own q ha).1
  exact kk B O _ σ D (g2.mutFac h only ha (fun vs z => by cases z) (insD X.K C q dx (putD f d xs)) ⟨_, upd_same, h3.put d2⟩) ff
theorem DM.de (h : DE X e Γ d) : DM X e Γ d Γ := fun B O H σ Q g k => h B O H σ Q g fun v H2 s2 d2 => k v H2 (g.step s2) d2
/-- what such a def leaves -/
theorem mut_sg {B : Bs} {O : Addr → Prop} {H H2 : Hp} {σ : L2.St} {i : Nat} {fs' : List (Str × V)} (g : Sg X.K B O H σ Γ) (h : Γ[i]? = some (some (.fac (.ref q) as (insD X.K C q dx xs)))) (only : Only Γ i) (ha : q ∈ as) (s : Same (upd H q (.ins C dx fs')) H2) (hf : FD X.K (hid O H2) fs' xs') :
    Sg X.K B O H2 σ (Γ.set i (some (.fac (.ref q) as (insD X.K C q dx xs')))) :=
  g.mutMore h only ha (fun vs z => by cases z) s (insD X.K C q dx xs') ⟨fs', s _ _ upd_same, hf⟩
/-- x.m(..) -/
theorem dm_meth (i : Nat) {k : Nat} {ps : List Str} {R : List (Str × PyData) → List PyData → List (Str × PyData) → PyData → Prop} {XR : List (Str × PyData) → List PyData → Value → Prop} (h : Γ[i]? = some (some (.fac (.ref q) as (insD X.K C q dx xs)))) (only : Only Γ i) (hq : q ∈ as) (cl : Cls X.K C) (hm : HasN X.prog X.w X.K X.mg X.base k C m ps (spN X.K C R XR)) (hr : Room n X.A) (hno : xs.lookup m = none) (ha : DA X (e :: es) Γ ds) (hR : R xs ds xs' r) (hk : k ≤ n := by decide)
    (hN : X.N[i]? = some x := by rfl) (hv : Vis X.env.scope x := by first | exact Or.inl rfl | exact Or.inr (Or.inl rfl) | exact Or.inr (Or.inr rfl)) (hd : (x == ("__debug__" : Str)) = false := by decide) (hcd : (x == ("__classdict__" : Str)) = false := by decide)
    (hst : starEach (e :: es) X.env = (false, eval e X.env) :: starEach es X.env := by rfl) (hpl : (backTo pos (starEach es X.env)).any (·.1) = false := by rfl)
    {pl : Sem Bool} (ht : eval (.Call (.Attribute (.Name x pe) m pa) (e :: es) [] pos) X.env = (do
      let ov ← eval (.Name x pe) X.env
      standAt pa.atName
      let (f, first) ← holding [ov] (getMethod ov m pl)
      callWith pos f first (backTo pos (starEach (e :: es) X.env)) (backToKw pos (keywordEach [] X.env))) := by rfl) :
    DM X (.Call (.Attribute (.Name x pe) m pa) (e :: es) [] pos) Γ r (Γ.set i (some (.fac (.ref q) as (insD X.K C q dx xs')))) := fun B O H σ Q g kk => by
  obtain ⟨f, fd, Fn, me, hb⟩ := hm.ex
  obtain ⟨h1, fs, h2, h3⟩ := fac_get g h
  refine wE_of (pe_meth (pl := pl) (pv i hN hv hd hcd) cl me Fn (hr.mono hk) hb .nil passX0 pa_w hst hpl ht) ⟨_, h1, q, dx, fs, rfl, h2, h3.no hno, ha B O H σ _ g fun vs H2 s2 d2 => ?_⟩
  have g2 := g.step s2
  obtain ⟨_, fs2, t2, t3⟩ := fac_get g2 h
  obtain ⟨_, _, _, own, _⟩ := g2.slot i _ h
  exact ⟨O, q, dx, fs2, xs, _, ds, rfl, t2, t3, (own q hq).1, g2.live, by rw [List.append_nil]; exact d2, .inl ⟨xs', r, hR, fun v H3 fs' s3 hf dv => kk v H3 (mut_sg g2 h only hq s3 hf) dv⟩⟩
theorem dm_meth0 (i : Nat) {k : Nat} {ps : List Str} {R : List (Str × PyData) → List PyData → List (Str × PyData) → PyData → Prop} {XR : List (Str × PyData) → List PyData → Value → Prop} (h : Γ[i]? = some (some (.fac (.ref q) as (insD X.K C q dx xs)))) (only : Only Γ i) (hq : q ∈ as) (cl : Cls X.K C) (hm : HasN X.prog X.w X.K X.mg X.base k C m ps (spN X.K C R XR)) (hr : Room n X.A) (hno : xs.lookup m = none) (hR : R xs [] xs' r) (hk : k ≤ n := by decide)
    (hN : X.N[i]? = some x := by rfl) (hv : Vis X.env.scope x := by first | exact Or.inl rfl | exact Or.inr (Or.inl rfl) | exact Or.inr (Or.inr rfl)) (hd : (x == ("__debug__" : Str)) = false := by decide) (hcd : (x == ("__classdict__" : Str)) = false := by decide)
    {pl : Sem Bool} (ht : eval (.Call (.Attribute (.Name x pe) m pa) [] [] pos) X.env = (do
      let ov ← eval (.Name x pe) X.env
      standAt pa.atName
      let (f, first) ← holding [ov] (getMethod ov m pl)
      callWith pos f first (backTo pos (starEach [] X.env)) (backToKw pos (keywordEach [] X.env))) := by rfl) :
    DM X (.Call (.Attribute (.Name x pe) m pa) [] [] pos) Γ r (Γ.set i (some (.fac (.ref q) as (insD X.K C q dx xs')))) := fun B O H σ Q g kk => by
  obtain ⟨f, fd, Fn, me, hb⟩ := hm.ex
  obtain ⟨h1, fs, h2, h3⟩ := fac_get g h
  obtain ⟨_, _, _, own, _⟩ := g.slot i _ h
  refine wE_of (pe_meth0 (pl := pl) (pv i hN hv hd hcd) cl me Fn (hr.mono hk) hb .nil passX0 ht) ⟨_, h1, q, dx, fs, rfl, h2, h3.no hno, ?_⟩
  exact ⟨O, q, dx, fs, xs, [], [], rfl, h2, h3, (own q hq).1, g.live, .nil, .inl ⟨xs', r, hR, fun v H3 fs' s3 hf dv => kk v H3 (mut_sg g h only hq s3 hf) dv⟩⟩
/-- f(x, ..), x the object -/
theorem dm_call (i : Nat) {k : Nat} {ps : List Str} {R : List (Str × PyData) → List PyData → List (Str × PyData) → PyData → Prop} {XR : List (Str × PyData) → List PyData → Value → Prop} (h : Γ[i]? = some (some (.fac (.ref q) as (insD X.K C q dx xs)))) (only : Only Γ i) (hq : q ∈ as) (hm : HasX X.prog X.w X.K X.mg X.base k f ps (spN X.K C R XR)) (hr : Room n X.A) (ha : DA X es Γ ds) (hR : R xs ds xs' r) (hk : k ≤ n := by decide) (hg : Gl X f := by rfl)
    (hN : X.N[i]? = some x := by rfl) (hv : Vis X.env.scope x := by first | exact Or.inl rfl | exact Or.inr (Or.inl rfl) | exact Or.inr (Or.inr rfl)) (hd : (x == ("__debug__" : Str)) = false := by decide) (hcd : (x == ("__classdict__" : Str)) = false := by decide) (hdb : (f == ("__debug__" : Str)) = false := by decide)
    (he : starEach (.Name x pe :: es) X.env = (false, eval (.Name x pe) X.env) :: starEach es X.env := by rfl) (hpl : (backTo pos (starEach es X.env)).any (·.1) = false := by rfl) :
    DM X (.Call (.Name f p) (.Name x pe :: es) [] pos) Γ r (Γ.set i (some (.fac (.ref q) as (insD X.K C q dx xs')))) := fun B O H σ Q g kk => by
  obtain ⟨fn, fd, Fn, hm', hkp, hb⟩ := hm.ex
  obtain ⟨h1, _⟩ := fac_get g h
  refine wE_of (pe_call Fn (hr.mono hk) hg hm' hkp hb .nil passX0 (pa_cons (pv i hN hv hd hcd) pa_w he) hdb he hpl) ⟨_, h1, ha B O H σ _ g fun vs H2 s2 d2 => ?_⟩
  have g2 := g.step s2
  obtain ⟨_, fs2, t2, t3⟩ := fac_get g2 h
  obtain ⟨_, _, _, own, _⟩ := g2.slot i _ h
  exact ⟨O, q, dx, fs2, xs, _, ds, rfl, t2, t3, (own q hq).1, g2.live, by show DpAll _ _ (vs ++ []) _; rw [List.append_nil]; exact d2, .inl ⟨xs', r, hR, fun v H3 fs' s3 hf dv => kk v H3 (mut_sg g2 h only hq s3 hf) dv⟩⟩
/-- a != b, a may change the object -/
theorem dtm_ne {k : Nat} {d1 d2 : PyData} (hr : Room k X.A) (ha : DM X a Γ d1 Γ') (hb : DE X b Γ' d2) (s1 : SeqAt.shaped d1 = true) (s2 : SeqAt.shaped d2 = true) (hm : behindInMarks .NotEq b = false := by first | exact nomark _ | with_unfolding_all rfl) : DTM X (.Compare a [.NotEq] [b] pos) Γ (!PyData.eqv d1 d2) Γ' := fun B O H σ Q g q =>
  wT_of (pt_cmpR opr_w pe_w pe_w hm) (ha B O H σ _ g fun v H2 g2 e2 => hb B O H2 σ _ g2 fun u H3 s3 e3 => wR_of (op_neD hr.units) ⟨_, _, dp_mono (hid_sub.trans s3) _ _ e2, dp_mono hid_sub _ _ e3, s1, s2, ⟨_, rfl, q H3 (g2.step s3)⟩⟩)
theorem DTM.is {k k' : Bool} (h : DTM X c Γ k Γ') (q : k = k') : DTM X c Γ k' Γ' := q ▸ h
theorem ds_whenM {k : Bool} (hc : DTM X c Γ k Γ') (h1 : k = true → DS X t Γ' { P with nx := fun _ => False }) (h2 : k = false → DS X rest Γ' P) : DS X (.If c t [] pos :: rest) Γ P := fun B O H σ D g f =>
  wB_of (pss_cons (ps_if pt_w pss_w pss_w) pss_w) (hc B O H σ _ g fun H2 g2 => by
    cases k with
    | true => rw [if_pos rfl]; exact h1 rfl B O H2 σ _ g2 ⟨fun _ _ _ _ m => m.elim, f.rt, f.bk, f.ct, f.xr, f.rr⟩
    | false => rw [if_neg Bool.false_ne_true]; exact wB_of pss_nil (h2 rfl B O H2 σ D g2 f))
/-- return e, e may change the object -/
theorem ds_retM (he : DM X e Γ d Γ') (h : ∀ O H v, Dp X.K (hid O H) v d → P.rr O H v Γ') : DS X (.Return (some e) pos :: rest) Γ P := fun B O H σ D g f =>
  wB_of (pss_cons (ps_ret pe_w) pss_w) (he B O H σ _ g fun v H2 g2 d2 => f.rr O H2 σ Γ' v (h O H2 v d2) g2)
/-- e alone -/
theorem ds_exprM (he : DM X e Γ d Γ') (k : DS X rest Γ' P) (hs : swapsWith e none pos.line X.env = pure false := by rfl) : DS X (.Expr e pos :: rest) Γ P := fun B O H σ D g f =>
  wB_of (pss_cons (ps_expr pe_w hs) pss_w) (he B O H σ _ g fun v H2 g2 d2 => k B O H2 σ D g2 f)
/-- y = e -/
theorem ds_setDM (j : Nat) (hND : X.N.Nodup) (he : DM X e Γ d Γ') (k : DS X rest (Γ'.set j (some (.d d))) P) (hj : X.N[j]? = some y := by rfl) (hy : Loc X.env.scope y := by first | exact Or.inl rfl | exact Or.inr rfl)
    (hs : swapsWith e (some (.Name y p')) pos.line X.env = pure false := by rfl) (hf : X.fn y = true ∨ X.env.scope.names.lookup y = some .local := by first | exact .inl rfl | exact .inr rfl) : DS X (.Assign [.Name y p'] e pos :: rest) Γ P := fun B O H σ D g f =>
  wB_of (pss_cons (ps_set hND hj hy pe_w hs hf) pss_w) (he B O H σ _ g fun v H2 g2 d2 => k B O H2 _ D (g2.setD d2) f)
end
/-! ### methods that raise, told of the caller's slots -/
def tMethS (C : Addr) (m : Str) (sp : Sp) (E : L2.St → XK) (ta : TE) (t : TA) : TE := fun σ H Q => ta σ H fun x H1 => ∃ a dx fs, x = .ref a ∧ H1 a = some (.ins C dx fs) ∧ fs.lookup m = none ∧ t σ H1 fun vs H2 => sp ((.ref a :: vs) ++ []) H2 Q (E σ)
section
variable {X : Cx} {CX : CXT} {k : Nat} {C f : Addr} {fd : FuncData} {ps : List Str} {sp : Sp} {E : L2.St → XK} {o e : Expr} {es : List Expr} {ta : TE} {t : TA} {m : Str} {apos pos : Pos}
theorem pe_methE {pl : Sem Bool} (he : PE X o ta) (c : Cls X.K C) (hm : Meth X.K C m f) (F : FnOk X.prog X.w X.K X.mg X.base CX k f fd ps sp) (hr : Room k X.A) (hb : Binds X.K fd ps []) (hx : ∀ σ, PassesAt CX X σ (E σ)) (ha : PA X (e :: es) t)
    (hst : starEach (e :: es) X.env = (false, eval e X.env) :: starEach es X.env) (hpl : (backTo pos (starEach es X.env)).any (·.1) = false)
    (ht : eval (.Call (.Attribute o m apos) (e :: es) [] pos) X.env = (do
      let ov ← eval o X.env
      standAt apos.atName
      let (f, first) ← holding [ov] (getMethod ov m pl)
      callWith pos f first (backTo pos (starEach (e :: es) X.env)) (backToKw pos (keywordEach [] X.env)))) : PE X (.Call (.Attribute o m apos) (e :: es) [] pos) (tMethS C m sp E ta t) := by
  refine ⟨fun pins s σ H Q I h => PySem.W.methodCall_KW (pl := pl) (thn (he.run pins s σ H _ I h) fun u s1 hu => ?_) ht⟩
  obtain ⟨x, H1, I1, rx, a, dx, fs, ex, ea, l, q⟩ := hu
  subst ex
  obtain rfl : u = Value.ref a := rx
  refine getmeth_ok I1 ea c hm l (PySem.W.callWith_K (first := [.ref a]) (h₀ := X.base) I.ok.mod.kin hm.kp (thn (ha.run pos pins s1 σ H1 _ I1 q) fun us s2 h2 => ?_) hst hpl)
  obtain ⟨vs, H2, I2, r, q2⟩ := h2
  exact ⟨I2.kIn, run_fnSD (us := .ref a :: us) (vs := .ref a :: vs) F hr hb .nil (hx σ) I2 (.cons rfl r) q2⟩
theorem pe_methE0 {pl : Sem Bool} (he : PE X o ta) (c : Cls X.K C) (hm : Meth X.K C m f) (F : FnOk X.prog X.w X.K X.mg X.base CX k f fd ps sp) (hr : Room k X.A) (hb : Binds X.K fd ps []) (hx : ∀ σ, PassesAt CX X σ (E σ))
    (ht : eval (.Call (.Attribute o m apos) [] [] pos) X.env = (do
      let ov ← eval o X.env
      standAt apos.atName
      let (f, first) ← holding [ov] (getMethod ov m pl)
      callWith pos f first (backTo pos (starEach [] X.env)) (backToKw pos (keywordEach [] X.env)))) : PE X (.Call (.Attribute o m apos) [] [] pos) (tMethS C m sp E ta tNil) := by
  refine ⟨fun pins s σ H Q I h => PySem.W.methodCall_KW (pl := pl) (thn (he.run pins s σ H _ I h) fun u s1 hu => ?_) ht⟩
  obtain ⟨x, H1, I1, rx, a, dx, fs, ex, ea, l, q⟩ := hu
  subst ex
  obtain rfl : u = Value.ref a := rx
  exact getmeth_ok I1 ea c hm l (PySem.W.callWith_K0 (first := [.ref a]) I1.kIn hm.kp (run_fnSD (us := [.ref a]) (vs := [.ref a]) F hr hb .nil (hx σ) I1 (.cons rfl .nil) q))
end
section
variable {X : Cx} {Γ Γ' : Gm} {a b c e : Expr} {es : List Expr} {pe pa p p' pos : Pos} {x y f m : Str} {C q dx : Addr} {xs xs' : List (Str × PyData)} {as : List Addr} {d r : PyData} {n : Nat} {rest t : List Stmt} {P : Po} {ds : List PyData}
/-- return x.m(..), raised -/
theorem ds_retMX (i : Nat) {cc : Value} {k : Nat} {ps : List Str} {R : List (Str × PyData) → List PyData → List (Str × PyData) → PyData → Prop} {XR : List (Str × PyData) → List PyData → Value → Prop} (h : Γ[i]? = some (some (.fac (.ref q) as (insD X.K C q dx xs)))) (only : Only Γ i) (hq : q ∈ as) (cl : Cls X.K C) (hm : HasN X.prog X.w X.K X.mg X.base k C m ps (spN X.K C R XR)) (hr : Room n X.A) (hno : xs.lookup m = none) (ha : DA X (e :: es) Γ ds) (hX : XR xs ds cc) (hP : P.xr cc (Γ.set i (some (.fac (.ref q) as (insD X.K C q dx xs))))) (hk : k ≤ n := by decide)
    (hN : X.N[i]? = some x := by rfl) (hv : Vis X.env.scope x := by first | exact Or.inl rfl | exact Or.inr (Or.inl rfl) | exact Or.inr (Or.inr rfl)) (hd : (x == ("__debug__" : Str)) = false := by decide) (hcd : (x == ("__classdict__" : Str)) = false := by decide)
    (hst : starEach (e :: es) X.env = (false, eval e X.env) :: starEach es X.env := by rfl) (hpl : (backTo pos (starEach es X.env)).any (·.1) = false := by rfl)
    {pl : Sem Bool} (ht : eval (.Call (.Attribute (.Name x pe) m pa) (e :: es) [] pos) X.env = (do
      let ov ← eval (.Name x pe) X.env
      standAt pa.atName
      let (f, first) ← holding [ov] (getMethod ov m pl)
      callWith pos f first (backTo pos (starEach (e :: es) X.env)) (backToKw pos (keywordEach [] X.env))) := by rfl) : DS X (.Return (some (.Call (.Attribute (.Name x pe) m pa) (e :: es) [] pos)) p :: rest) Γ P := fun B O H σ D g ff => by
  obtain ⟨W, tk, hW⟩ := ff.xr cc _ hP
  obtain ⟨f, fd, Fn, me, hb⟩ := hm.ex
  obtain ⟨h1, fs, h2, h3⟩ := fac_get g h
  refine wB_of (pss_cons (ps_ret (pe_methE (pl := pl) (pv i hN hv hd hcd) cl me Fn (hr.mono hk) hb (fun σ => passAt tk σ) pa_w hst hpl ht)) pss_w) ⟨_, h1, q, dx, fs, rfl, h2, h3.no hno, ha B O H σ _ g fun vs H2 s2 d2 => ?_⟩
  have g2 := g.step s2
  obtain ⟨_, fs2, t2, t3⟩ := fac_get g2 h
  obtain ⟨_, _, _, own, _⟩ := g2.slot i _ h
  exact ⟨O, q, dx, fs2, xs, _, ds, rfl, t2, t3, (own q hq).1, g2.live, by show DpAll _ _ (vs ++ []) _; rw [List.append_nil]; exact d2, .inr ⟨cc, hX, fun H3 fs' s3 hf => hW O H3 σ (mut_sg g2 h only hq s3 hf)⟩⟩
theorem ds_retMX0 (i : Nat) {cc : Value} {k : Nat} {ps : List Str} {R : List (Str × PyData) → List PyData → List (Str × PyData) → PyData → Prop} {XR : List (Str × PyData) → List PyData → Value → Prop} (h : Γ[i]? = some (some (.fac (.ref q) as (insD X.K C q dx xs)))) (only : Only Γ i) (hq : q ∈ as) (cl : Cls X.K C) (hm : HasN X.prog X.w X.K X.mg X.base k C m ps (spN X.K C R XR)) (hr : Room n X.A) (hno : xs.lookup m = none) (hX : XR xs [] cc) (hP : P.xr cc (Γ.set i (some (.fac (.ref q) as (insD X.K C q dx xs))))) (hk : k ≤ n := by decide)
    (hN : X.N[i]? = some x := by rfl) (hv : Vis X.env.scope x := by first | exact Or.inl rfl | exact Or.inr (Or.inl rfl) | exact Or.inr (Or.inr rfl)) (hd : (x == ("__debug__" : Str)) = false := by decide) (hcd : (x == ("__classdict__" : Str)) = false := by decide)
    {pl : Sem Bool} (ht : eval (.Call (.Attribute (.Name x pe) m pa) [] [] pos) X.env = (do
      let ov ← eval (.Name x pe) X.env
      standAt pa.atName
      let (f, first) ← holding [ov] (getMethod ov m pl)
      callWith pos f first (backTo pos (starEach [] X.env)) (backToKw pos (keywordEach [] X.env))) := by rfl) : DS X (.Return (some (.Call (.Attribute (.Name x pe) m pa) [] [] pos)) p :: rest) Γ P := fun B O H σ D g ff => by
  obtain ⟨W, tk, hW⟩ := ff.xr cc _ hP
  obtain ⟨f, fd, Fn, me, hb⟩ := hm.ex
  obtain ⟨h1, fs, h2, h3⟩ := fac_get g h
  obtain ⟨_, _, _, own, _⟩ := g.slot i _ h
  refine wB_of (pss_cons (ps_ret (pe_methE0 (pl := pl) (pv i hN hv hd hcd) cl me Fn (hr.mono hk) hb (fun σ => passAt tk σ) ht)) pss_w) ⟨_, h1, q, dx, fs, rfl, h2, h3.no hno, ?_⟩
  exact ⟨O, q, dx, fs, xs, [], [], rfl, h2, h3, (own q hq).1, g.live, .nil, .inr ⟨cc, hX, fun H3 fs' s3 hf => hW O H3 σ (mut_sg g h only hq s3 hf)⟩⟩
/-! ### read-only methods: the promise of a def whose arguments are data or facts -/
theorem de_methG (i : Nat) {k : Nat} {ps : List Str} {R : List SD → PyData → Prop} {XR : List SD → Value → Prop} (h : Γ[i]? = some (some (.fac (.ref q) as (insD X.K C q dx xs)))) (cl : Cls X.K C) (hm : HasN X.prog X.w X.K X.mg X.base k C m ps (spG X.K R XR)) (hr : Room n X.A) (hno : xs.lookup m = none) (hR : R [.fac (.ref q) [] (insD X.K C q dx xs)] d) (hk : k ≤ n := by decide)
    (hN : X.N[i]? = some x := by rfl) (hv : Vis X.env.scope x := by first | exact Or.inl rfl | exact Or.inr (Or.inl rfl) | exact Or.inr (Or.inr rfl)) (hd : (x == ("__debug__" : Str)) = false := by decide) (hcd : (x == ("__classdict__" : Str)) = false := by decide)
    {pl : Sem Bool} (ht : eval (.Call (.Attribute (.Name x pe) m pa) [] [] pos) X.env = (do
      let ov ← eval (.Name x pe) X.env
      standAt pa.atName
      let (f, first) ← holding [ov] (getMethod ov m pl)
      callWith pos f first (backTo pos (starEach [] X.env)) (backToKw pos (keywordEach [] X.env))) := by rfl) : DE X (.Call (.Attribute (.Name x pe) m pa) [] [] pos) Γ d := fun B O H σ Q g kk => by
  obtain ⟨f, fd, Fn, me, hb⟩ := hm.ex
  obtain ⟨h1, fs, h2, h3⟩ := fac_get g h
  refine wE_of (pe_meth0 (pl := pl) (pv i hN hv hd hcd) cl me Fn (hr.mono hk) hb .nil passX0 ht) ⟨_, h1, q, dx, fs, rfl, h2, h3.no hno, ?_⟩
  exact ⟨O, [.fac (.ref q) [] (insD X.K C q dx xs)], g.live, .cons ⟨rfl, rfl, fs, h2, h3⟩ .nil, .inl ⟨d, hR, fun v H3 s3 d3 => kk v H3 s3 d3⟩⟩
/-- y = C(..), the class's __init__ lays the fields -/
theorem ds_makeN (j : Nat) {k : Nat} {fI : Addr} {fd : FuncData} {ps : List Str} {R : List (Str × PyData) → List PyData → List (Str × PyData) → PyData → Prop} {XR : List (Str × PyData) → List PyData → Value → Prop} (hND : X.N.Nodup) (mk : Mk X.K C fI) (Fn : FnOk X.prog X.w X.K X.mg X.base (L2.CX X.prog X.w) k fI fd ps (spN X.K C R XR)) (hb : Binds X.K fd ps []) (hmg : X.mg f = some (.ref C)) (hr : Room n X.A) (ha : DA X (e :: es) Γ ds) (hR : R [] ds xs' .none)
    (kk : ∀ q dx, DS X rest (Γ.set j (some (.fac (.ref q) [q] (insD X.K C q dx xs')))) P) (hk : k + 1 ≤ n := by decide) (hg : Gl X f := by rfl) (hdb : (f == ("__debug__" : Str)) = false := by decide)
    (he : starEach (e :: es) X.env = (false, eval e X.env) :: starEach es X.env := by rfl) (hpl : (backTo pos (starEach es X.env)).any (·.1) = false := by rfl)
    (hj : X.N[j]? = some y := by rfl) (hy : Loc X.env.scope y := by first | exact Or.inl rfl | exact Or.inr rfl) (hf : X.fn y = true ∨ X.env.scope.names.lookup y = some .local := by first | exact .inl rfl | exact .inr rfl)
    {pos' : Pos} (hs' : swapsWith (.Call (.Name f pe) (e :: es) [] pos) (some (.Name y p')) pos'.line X.env = pure false := by rfl) :
    DS X (.Assign [.Name y p'] (.Call (.Name f pe) (e :: es) [] pos) pos' :: rest) Γ P := fun B O H σ D g ff => by
  refine wB_of (pss_cons (ps_set hND hj hy (pe_make mk Fn (hr.mono hk) hg hmg hb .nil passX0 pa_w hdb he hpl) hs' hf) pss_w) (ha B O H σ _ g fun vs H1 s1 d1 => ?_)
  intro z dx hz hdx nez
  have g1 := g.step s1
  have hz0 : ¬ O z := fun h => by
    obtain ⟨o, eo⟩ := g1.live z h
    rw [hz] at eo; cases eo
  have s2 : Same H1 (upd (upd H1 dx (.own z)) z (.ins C dx [])) := (same_upd hdx).trans (same_upd (by rw [upd_ne (Ne.symm nez)]; exact hz))
  refine ⟨fun a => O a ∨ a = z, z, dx, [], [], _, ds, rfl, upd_same, .nil, .inr rfl, fun a h => ?_, ?_, .inl ⟨xs', .none, hR, fun v H3 fs' s3 hf dv => ?_⟩⟩
  · rcases h with h | h
    · obtain ⟨o, eo⟩ := g1.live a h
      exact ⟨o, s2 _ _ eo⟩
    · subst h
      exact ⟨_, upd_same⟩
  · rw [List.append_nil]
    exact dpAll_mono (hid_ext hz s2) _ _ d1
  · cases dv
    refine ⟨rfl, ?_⟩
    have s4 : Same H1 H3 := fun b o eb => s3 _ _ (by
      rw [upd_ne (ne_of_none eb hz)]
      exact s2 _ _ eb)
    have g3 : Sg X.K B (fun a => O a ∨ a = z) H3 σ Γ := g1.grow hz s4 ⟨_, s3 _ _ upd_same⟩
    exact kk z dx B _ H3 _ D (g3.setFac (fun a ha => by
      rw [List.mem_singleton] at ha
      subst ha
      refine ⟨.inr rfl, ?_, _, s3 _ _ upd_same, fun vs z => by cases z⟩
      exact g1.ext.free hz) ⟨fs', s3 _ _ upd_same, hf⟩) ff
end
end EY
set_option autoImplicit false
set_option maxHeartbeats 1000000
namespace EY
open PySem PySem.Spec PyProof.Rows L2
section
variable {P : Program} {w : World} {K : PySem.W.Frag} {mg : Str → Option Value} {base : Heap}
theorem envM_sgN {O : Addr → Prop} {H : Hp} {N : List Str} {C p dx : Addr} {fs : List (Str × V)} {xs : List (Str × PyData)} {vs : List V} {ds : List PyData} (lv : Live O H) (hp : H p = some (.ins C dx fs)) (op : O p) (hf : FD K (hid O H) fs xs) (h : DpAll K (hid O H) vs ds) :
    Sg K ⟨fun a => O a ∧ a ≠ p, hid (fun a => a = p) H⟩ O H (L2.start N (.ref p :: vs)) (envM N (.fac (.ref p) [p] (insD K C p dx xs)) ds) := by
  have hn : hid (fun a => a = p) H p = none := by
    unfold hid
    rw [if_pos rfl]
  refine ⟨hid_sub, fun a h => ?_, fun a h => ⟨h.1, ?_⟩, lv, envM_len (dpAll_len h), fun i s e => ?_, fun i j xs ys a h1 h2 h3 h4 => absurd h1 (envM_own (v := .ref p) h (fun _ z => by cases z) i)⟩
  · by_cases q : a = p
    · subst q
      exact .inr hn
    · exact .inl ⟨h, q⟩
  · obtain ⟨o, e⟩ := lv a h.1
    exact ⟨o, (hid_iff (O := fun a => a = p)).mpr ⟨h.2, e⟩⟩
  · rcases envM_slot (v := .ref p) h i s e with ⟨rfl, rfl⟩ | ⟨u, x, q1, rfl, q2⟩
    · refine ⟨.ref p, rfl, rfl, fun a ha => ?_, fs, hp, hf⟩
      rw [List.mem_singleton] at ha
      subst ha
      exact ⟨op, hn, _, hp, fun vs z => by cases z⟩
    · exact ⟨u, q1, q2⟩
/-- what is known where such a def hands back -/
def endN (K : PySem.W.Frag) (C p dx : Addr) (xs' : List (Str × PyData)) (r : PyData) : (Addr → Prop) → Hp → V → Gm → Prop := fun O H v Γ => Γ[0]? = some (some (.fac (.ref p) [p] (insD K C p dx xs'))) ∧ Dp K (hid O H) v r
theorem endN_out {O O' : Addr → Prop} {H H' : Hp} {σ' : L2.St} {Γ' : Gm} {C p dx : Addr} {xs' : List (Str × PyData)} (g' : Sg K ⟨fun a => O a ∧ a ≠ p, hid (fun a => a = p) H⟩ O' H' σ' Γ') (m : Γ'[0]? = some (some (.fac (.ref p) [p] (insD K C p dx xs')))) :
    ∃ fs', Same (upd H p (.ins C dx fs')) H' ∧ FD K (hid O H') fs' xs' ∧ Same (hid O' H') (hid O H') := by
  obtain ⟨_, _, _, own, fs', t1, t3⟩ := g'.slot 0 _ m
  have sub : Same (hid O' H') (hid O H') := fun b o z => hid_iff.mpr ⟨fun ob => (hid_iff.mp z).1 (by
    by_cases q1 : b = p
    · subst q1; exact (own _ (by simp)).1
    · exact (g'.fs b ⟨ob, q1⟩).1), (hid_iff.mp z).2⟩
  refine ⟨fs', fun b o z => ?_, t3.mono sub, sub⟩
  by_cases q1 : b = p
  · subst q1
    rw [upd_same] at z
    cases z
    exact t1
  · rw [upd_ne q1] at z
    exact g'.ext b o ((hid_iff (O := fun a => a = p)).mpr ⟨q1, z⟩)
theorem fn_ofN {x q : Str} {st : Stmt} {f C : Addr} {fd : FuncData} {N ps : List Str} {k : Nat} {R : List (Str × PyData) → List PyData → List (Str × PyData) → PyData → Prop} {XR : List (Str × PyData) → List PyData → Value → Prop} (F : Fun K x q st f fd) (S : FnScope N ps (defScope st)) (len : ∀ xs ds xs' r, R xs ds xs' r → ds.length + 1 = ps.length) (lenX : ∀ xs ds c, XR xs ds c → ds.length + 1 = ps.length)
    (body : ∀ (X : Cx) (cdv : Value) (A : Around) (outer : List Env) (s : Shared) (H : Hp) (E : XK), X = cxOf (L2.CX P w) P w K mg base N q (defScope st) f cdv A outer s H E → Room k X.A → ∀ p dx xs ds,
      (∀ xs' r, R xs ds xs' r → DS X (defBody st) (envM N (.fac (.ref p) [p] (insD K C p dx xs)) ds) { nx := fun Γ => r = .none ∧ Γ[0]? = some (some (.fac (.ref p) [p] (insD K C p dx xs'))), rt := fun _ => False, rr := endN K C p dx xs' r }) ∧
      ∀ c, XR xs ds c → DS X (defBody st) (envM N (.fac (.ref p) [p] (insD K C p dx xs)) ds) { nx := fun _ => False, rt := fun _ => False, xr := fun c' Γ => c' = c ∧ Γ[0]? = some (some (.fac (.ref p) [p] (insD K C p dx xs))) }) : FnOk P w K mg base (L2.CX P w) (k + 1) f fd ps (spN K C R XR) := by
  refine F.okX S (fun vs H Q E h => ?_) (fun cdv A outer s H vs Q E hr h => ?_)
  · obtain ⟨O, p, dx, fs, xs, us, ds, rfl, _, _, _, _, h1, h2⟩ := h
    rw [List.length_cons, dpAll_len h1]
    rcases h2 with ⟨xs', r, h2, _⟩ | ⟨c, h2, _⟩
    · exact len _ _ _ _ h2
    · exact lenX _ _ _ h2
  · obtain ⟨O, p, dx, fs, xs, us, ds, rfl, hp, hf, op, lv, h1, h2⟩ := h
    obtain ⟨b1, b2⟩ := body _ cdv A outer s H E rfl hr p dx xs ds
    rcases h2 with ⟨xs', r, h2, qq⟩ | ⟨c, h2, qq⟩
    · refine ⟨_, pss_w, b1 xs' r h2 _ O H _ _ (envM_sgN lv hp op hf h1) ⟨fun O' H' σ' Γ' m g' => ?_, fun _ _ _ m => m.elim, fun _ _ _ _ m => m.elim, fun _ _ _ _ m => m.elim, fun _ _ m => m.elim, fun O' H' σ' Γ' v m g' => ?_⟩⟩
      · obtain ⟨rfl, m⟩ := m
        obtain ⟨fs', e1, e2, e3⟩ := endN_out g' m
        exact qq _ H' fs' e1 e2 .non
      · obtain ⟨fs', e1, e2, e3⟩ := endN_out g' m.1
        exact qq v H' fs' e1 e2 (dp_mono e3 _ _ m.2)
    · refine ⟨_, pss_w, b2 c h2 _ O H _ _ (envM_sgN lv hp op hf h1) ⟨fun _ _ _ _ m => m.elim, fun _ _ _ m => m.elim, fun _ _ _ _ m => m.elim, fun _ _ _ _ m => m.elim, fun c' Γ' m => ⟨_, takes_of rfl rfl rfl rfl, fun O' H' σ' g' => ?_⟩, fun _ _ _ _ _ m => m.elim⟩⟩
      obtain ⟨rfl, m⟩ := m
      obtain ⟨fs', e1, e2, e3⟩ := endN_out g' m
      exact qq H' fs' e1 e2
theorem HasN.mk' {x : Str} {st : Stmt} {f C : Addr} {fd : FuncData} {ps : List Str} {k : Nat} {sp : Sp} (h : FnOk P w K mg base (L2.CX P w) k f fd ps sp) (me : Meth K C x f) (hb : Binds K fd ps []) : HasN P w K mg base k C x ps sp := ⟨f, fd, h, me, hb⟩
end
end EY
set_option autoImplicit false
set_option maxHeartbeats 1000000
/-! truths counted and found in a tuple; isinstance of what is caught, asked for two classes; read-only methods -/
namespace EY
open PySem PySem.Spec PyProof.Rows L2
theorem vals_bools : ∀ {bs : List Bool} {us : List Value}, Vals (bs.map V.bl) us → us = bs.map Value.bool
  | [], _, .nil => rfl
  | b :: bs, _, .cons r t => by
    rw [vals_bools t]
    cases r
    rfl
theorem flat_bools (bs : List Bool) : (bs.map V.bl).all flatV = true := by
  rw [List.all_map, List.all_eq_true]
  intro n _
  rfl
theorem bools_vals : ∀ bs : List Bool, Vals (bs.map V.bl) (bs.map Value.bool)
  | [] => .nil
  | b :: bs => .cons rfl (bools_vals bs)
theorem eqU_bool (b c : Bool) : eqU (.bl b) (.bool c) = (c == b) := by cases b <;> cases c <;> rfl
/-- a tuple of truths as it was made: it bears no dict -/
def tupB (p : Addr) (bs : List Bool) : HO := .ext fun h => ∃ n, h.get? p = some { cls := .type "tuple", dict := none, data := .seq (bs.map Value.bool).toArray n }
def tupF (p : Addr) (bs : List Bool) : Fac where
  φ H _ := H p = some (tupB p bs)
  mono e _ h := e _ _ h
  away := fun {H D a vs us} ha h => (upd_ne (fun z => by rw [z, ha] at h; unfold tupB at h; cases h)).trans h
theorem dpAll_bl {K : PySem.W.Frag} {H : Hp} : ∀ {bs : List Bool} {vs : List V}, DpAll K H vs (bs.map .bool) → vs = bs.map V.bl
  | [], _, .nil => rfl
  | b :: bs, _, .cons h t => by
    rw [dpAll_bl t]
    cases h
    rfl
section
variable {X : Cx} {Γ : Gm} {a b c e : Expr} {es : List Expr} {p p' p2 pos ap cp pe : Pos} {bs : List Bool} {z : Bool} {n : Nat} {x y : Str} {rest : List Stmt} {P : Po}
theorem pe_tupB {x1 : Nat} {t : TA} (h : PA X es t) : PE X (.Tuple es x1 pos) (fun σ H Q => t σ H fun xs H1 => ∃ bs : List Bool, xs = bs.map V.bl ∧ bs.length ≤ 100 ∧ ∀ q, H1 q = none → Q (.ref q) (upd H1 q (tupB q bs))) := by
  refine ⟨fun pins s σ H Q I hq => wpAny_Tuple_spliced (thn (h.run pos pins s σ H _ I hq) fun us s1 h1 => ?_)⟩
  obtain ⟨xs, H1, I1, r, bs, rfl, z, q⟩ := h1
  have e := vals_bools r
  subst e
  refine ⟨by rw [List.length_map]; exact Nat.le_trans z (by decide), ?_⟩
  have hf : H1 s1.heap.objs.size = none := I1.hok.fresh (Nat.le_refl _)
  have hg := Heap.get?_push_size s1.heap (o := { cls := .type "tuple", data := .seq (bs.map Value.bool).toArray }) rfl
  refine ⟨.ref s1.heap.objs.size, upd H1 s1.heap.objs.size (tupB s1.heap.objs.size bs), I1.laid (t' := s1.toks) (fun b u e => Heap.get?_push_of_some _ e) (Nat.le_refl _) ?_, rfl, q _ hf⟩
  exact ⟨⟨_, hg⟩, ⟨_, hg⟩, fun h1 h2 ⟨n, e⟩ st => ⟨n, st _ e⟩⟩
/-- y = (truth, ..) -/
theorem ds_setTupB (j : Nat) {kt : Nat} (hND : X.N.Nodup) (ha : DA X es Γ (bs.map .bool)) (hl : bs.length ≤ 100) (kk : ∀ q, DS X rest (Γ.set j (some (.fac (.ref q) [] (tupF q bs)))) P)
    (hj : X.N[j]? = some y := by rfl) (hy : Loc X.env.scope y := by first | exact Or.inl rfl | exact Or.inr rfl)
    (hs : swapsWith (.Tuple es kt pos) (some (.Name y p')) p2.line X.env = pure false := by rfl) (hf : X.fn y = true ∨ X.env.scope.names.lookup y = some .local := by first | exact .inl rfl | exact .inr rfl) : DS X (.Assign [.Name y p'] (.Tuple es kt pos) p2 :: rest) Γ P := fun B O H σ D g f =>
  wB_of (pss_cons (ps_set hND hj hy (pe_tupB pa_w) hs hf) pss_w) (ha B O H σ _ g fun vs H2 s2 d2 => ⟨bs, dpAll_bl d2, hl, fun q hq => kk q B O _ _ D (((g.step s2).step (same_upd hq)).setFac (fun a ha => absurd ha List.not_mem_nil) upd_same) f⟩)
theorem call_tupB {id : String} {name : Str} {te : TE} {r : Addr → List Bool → V → Hp → VK → Prop} (i : Nat) (slot : Slot "tuple" name id) (hty : typeOf (.builtin id) = pure (.type "method_descriptor"))
    (hm : ∀ (pins : List (Addr × Obj)) (s : Shared) (σ : L2.St) (H : Hp) (q : Addr) (bs : List Bool) (n : Nat) (y : V) (u : Value) (Q : VK), Inv X pins σ H s → s.heap.get? q = some { cls := .type "tuple", dict := none, data := .seq (bs.map Value.bool).toArray n } → RelV y u → r q bs y H Q → wpAny (model X.prog X.w) X.A (call (.builtin id) [.ref q, u]) (EP X pins σ Q) X.xe s)
    (he : PE X e te) (hN : X.N[i]? = some x) (hv : Vis X.env.scope x) (hd : (x == ("__debug__" : Str)) = false) (hcd : (x == ("__classdict__" : Str)) = false)
    (hbase : attributeBase (.Name x pe) name X.env (eval (.Name x pe) X.env) = eval (.Name x pe) X.env)
    (hfew : ((backTo cp (starEach [e] X.env)).all (fun x => !x.1) && (backToKw cp (keywordEach [] X.env)).all (fun x => x.1.isSome) && decide ([e].length + ([] : List Keyword).length + (if ([] : List Keyword).isEmpty then 0 else 1) < 30)) = true)
    (hline : (ap.endLine == cp.line) = true) (hs : starEach [e] X.env = (false, eval e X.env) :: starEach [] X.env) :
    PE X (.Call (.Attribute (.Name x pe) name ap) [e] [] cp) (fun σ H Q => ∃ q bs, σ[i]? = some (some (.ref q)) ∧ H q = some (tupB q bs) ∧ te σ H fun y H2 => H2 q = some (tupB q bs) ∧ r q bs y H2 Q) := by
  refine ⟨fun pins s σ H Q I h => ?_⟩
  obtain ⟨q, bs, h1, h2, h3⟩ := h
  refine wpAny_Call_method_late hbase hfew hline rfl (thn ((pe_var (pos := pe) (i := i) hN hv hd hcd).run pins s σ H (fun v H1 => v = .ref q ∧ H1 = H) I ⟨.ref q, h1, rfl, rfl⟩) fun v s1 hq => ?_)
  obtain ⟨w', H1, I1, r1, rfl, rfl⟩ := hq
  obtain rfl : v = Value.ref q := r1
  obtain ⟨⟨n, hn⟩, _, _⟩ := I1.hok q _ h2
  refine ⟨"tuple", id, PySem.F.plainAttrs_tuple, slot, hty, ⟨_, hn, rfl⟩, fun a e => by cases e; exact ⟨_, hn, rfl⟩, ?_⟩
  rw [hs]
  refine Calls.callWith_builtin rfl (Calls.evalArgs_plain ?_)
  refine Calls.spliced_cons (thn (he.run pins s1 σ H1 _ I1 h3) fun u s2 h4 => ?_)
  obtain ⟨y, H2, I2, r2, h5, h6⟩ := h4
  obtain ⟨⟨n2, hn2⟩, _, _⟩ := I2.hok q _ h5
  exact Calls.spliced_nil (hm pins s2 σ H2 q bs n2 y u Q I2 hn2 r2 h6)
/-- t.count(truth) -/
theorem de_countB (i : Nat) {q : Addr} {as : List Addr} (h : Γ[i]? = some (some (.fac (.ref q) as (tupF q bs)))) (hb : DE X e Γ (.bool z)) (hN : X.N[i]? = some x := by rfl) (hv : Vis X.env.scope x := by first | exact Or.inl rfl | exact Or.inr (Or.inl rfl) | exact Or.inr (Or.inr rfl)) (hd : (x == ("__debug__" : Str)) = false := by decide) (hcd : (x == ("__classdict__" : Str)) = false := by decide)
    (hbase : attributeBase (.Name x pe) "count" X.env (eval (.Name x pe) X.env) = eval (.Name x pe) X.env := by rfl)
    (hfew : ((backTo cp (starEach [e] X.env)).all (fun x => !x.1) && (backToKw cp (keywordEach [] X.env)).all (fun x => x.1.isSome) && decide ([e].length + ([] : List Keyword).length + (if ([] : List Keyword).isEmpty then 0 else 1) < 30)) = true := by rfl)
    (hline : (ap.endLine == cp.line) = true := by rfl) (hs : starEach [e] X.env = (false, eval e X.env) :: starEach [] X.env := by rfl) : DE X (.Call (.Attribute (.Name x pe) "count" ap) [e] [] cp) Γ (.int (bs.countP (· == z) : Nat)) := fun B O H σ Q g q' => by
  obtain ⟨h1, h2⟩ := fac_get g h
  refine wE_of (call_tupB (r := fun q bs y H Q => ∃ z, y = .bl z ∧ Q (.int (bs.countP (· == z) : Nat)) H) i PySem.F.slot_tuple_count PySem.F.type_tuple_count ?_ pe_w hN hv hd hcd hbase hfew hline hs) ⟨q, bs, h1, h2, hb B O H σ _ g fun u H3 s3 d3 => ?_⟩
  · intro pins s σ H q bs n y u Q I hn ry hr
    obtain ⟨z, rfl, hq⟩ := hr
    cases ry
    refine call_meets PySem.F.slot_tuple_count ⟨_, hn, rfl⟩ PySem.F.entry_tuple_count (PySem.F.args_tuple_count_2 _ _) (SeqAt.tuple_countAt q (bs.map Value.bool).toArray n none #[] (.bool z) (eqU (.bl z)))
      ⟨hn, fun w hw => mem_eqAt (x := .bl z) rfl rfl (bools_vals bs) (flat_bools bs) w (by simpa using hw), ?_⟩
    refine ⟨.int (bs.countP (· == z) : Nat), H, I.tok _, ⟨s.toks, ?_⟩, hq⟩
    have ec : List.countP (eqU (.bl z)) (bs.map Value.bool) = bs.countP (· == z) := by
      rw [List.countP_map]
      congr 1
    show Value.int ((List.countP (eqU (.bl z)) (bs.map Value.bool) : Nat) : Int) s.toks = _
    rw [ec]
  · cases d3
    exact ⟨s3 _ _ h2, z, rfl, q' _ H3 s3 (.int _)⟩
/-- t.index(truth) -/
theorem de_indexB (i : Nat) {q : Addr} {as : List Addr} {j : Nat} (h : Γ[i]? = some (some (.fac (.ref q) as (tupF q bs)))) (hb : DE X e Γ (.bool z)) (hy : bs[j]? = some z) (hno : ∀ m, m < j → bs[m]? ≠ some z) (hN : X.N[i]? = some x := by rfl) (hv : Vis X.env.scope x := by first | exact Or.inl rfl | exact Or.inr (Or.inl rfl) | exact Or.inr (Or.inr rfl)) (hd : (x == ("__debug__" : Str)) = false := by decide) (hcd : (x == ("__classdict__" : Str)) = false := by decide)
    (hbase : attributeBase (.Name x pe) "index" X.env (eval (.Name x pe) X.env) = eval (.Name x pe) X.env := by rfl)
    (hfew : ((backTo cp (starEach [e] X.env)).all (fun x => !x.1) && (backToKw cp (keywordEach [] X.env)).all (fun x => x.1.isSome) && decide ([e].length + ([] : List Keyword).length + (if ([] : List Keyword).isEmpty then 0 else 1) < 30)) = true := by rfl)
    (hline : (ap.endLine == cp.line) = true := by rfl) (hs : starEach [e] X.env = (false, eval e X.env) :: starEach [] X.env := by rfl) : DE X (.Call (.Attribute (.Name x pe) "index" ap) [e] [] cp) Γ (.int (j : Nat)) := fun B O H σ Q g q' => by
  obtain ⟨h1, h2⟩ := fac_get g h
  refine wE_of (call_tupB (r := fun q bs y H Q => ∃ z j, y = .bl z ∧ bs[j]? = some z ∧ (∀ m, m < j → bs[m]? ≠ some z) ∧ Q (.int (j : Nat)) H) i PySem.F.slot_tuple_index PySem.F.type_tuple_index ?_ pe_w hN hv hd hcd hbase hfew hline hs) ⟨q, bs, h1, h2, hb B O H σ _ g fun u H3 s3 d3 => ?_⟩
  · intro pins s σ H q bs n y u Q I hn ry hr
    obtain ⟨z, j, rfl, hy, hno, hq⟩ := hr
    cases ry
    have hj : j < (bs.map Value.bool).toArray.size := by simpa using (List.getElem?_eq_some_iff.mp hy).1
    refine call_meets PySem.F.slot_tuple_index ⟨_, hn, rfl⟩ PySem.F.entry_tuple_index (PySem.F.args_tuple_index_2 _ _) (TI.tuple_indexAt q (bs.map Value.bool).toArray n none #[] (.bool z) (eqU (.bl z)) j hj ?_ ?_)
      ⟨hn, fun w hw => mem_eqAt (x := .bl z) rfl rfl (bools_vals bs) (flat_bools bs) w (by simpa using hw), ⟨.int (j : Nat), H, I.tok _, ⟨_, rfl⟩, hq⟩⟩
    · have hb : bs[j]'(by simpa using hj) = z := (List.getElem?_eq_some_iff.mp hy).2
      simp only [List.getElem_toArray, List.getElem_map]
      rw [eqU_bool, hb]
      exact beq_self_eq_true z
    · intro m hm hmj
      have hm' : m < bs.length := by simpa using hm
      simp only [List.getElem_toArray, List.getElem_map]
      rw [eqU_bool]
      refine beq_eq_false_iff_ne.mpr fun w => hno m hmj ?_
      rw [List.getElem?_eq_getElem hm', w]
  · cases d3
    exact ⟨s3 _ _ h2, z, j, rfl, hy, hno, q' _ H3 s3 (.int _)⟩
end
/-! ### isinstance(e, (C, ..)), e caught -/
def rIsET (K : PySem.W.Frag) (D a : Addr) : List V → Hp → VK → Prop := fun xs H Q => ∃ (tp : Addr) (cs : List Addr) (b : Bool), xs = [.ref a, .ref tp] ∧ H tp = some (.tup (cs.map V.ref)) ∧ PySem.W.kitAny K (.ref D) (cs.map Value.ref) = some b ∧ Q (.bl b) H
theorem vals_refs : ∀ {cs : List Addr} {us : List Value}, Vals (cs.map V.ref) us → us = cs.map Value.ref
  | [], _, .nil => rfl
  | c :: cs, _, .cons r t => by
    rw [vals_refs t]
    cases r
    rfl
theorem call_isET {X : Cx} {a D : Addr} {oe : Obj} {pn : List (Addr × Obj)} (C : ExcC X.K D) (hz : Zc (.ref D) none oe) (hf : ∃ vs, oe.data = .fields vs) : CallR (X.suite a ((a, oe) :: pn)) (.builtin "isinstance") (rIsET X.K D a) := by
  intro pins s σ H xs us Q I r h
  obtain ⟨tp, cs, b, rfl, hT, e, q⟩ := h
  obtain ⟨u1, u2, rfl, r1, r2⟩ := vals2 r
  cases (show u1 = Value.ref a from r1)
  cases (show u2 = Value.ref tp from r2)
  obtain ⟨hget, _⟩ := I.pin (a, oe) (List.mem_append.mpr (.inl List.mem_cons_self))
  obtain ⟨vs, hv⟩ := hf
  have J : PySem.W.InstAt s.heap a oe D none := by
    obtain ⟨oc, od, oda, osl⟩ := oe
    obtain ⟨h1, h2⟩ := hz
    dsimp only at h1 h2 hv
    subst h1 h2 hv
    exact ⟨hget, rfl, rfl, trivial⟩
  obtain ⟨_, its, rv, o, h1, h2, n, h3⟩ := (show ObjOk X.prog X.w H s.heap tp (.tup (cs.map V.ref)) from I.hok tp _ hT)
  have e3 := vals_refs rv
  subst e3
  obtain ⟨oc, od, dt, sl⟩ := o
  simp only at h2 h3
  subst h2 h3
  exact PySem.W.kia_tup (PySem.W.handS_kitx_exc C.hg C.hk C.hs C.hd C.ha C.hn C.ht C.hm) I.kIn J h1 e (fun z => nomatch z) fun tk => ⟨.bl b, H, I.kept (t' := tk) fun _ _ z => z, rfl, q⟩
section
variable {X : Cx} {Γ : Gm} {p p2 p3 p4 pos : Pos}
theorem de_isET {a D : Addr} {oe : Obj} {pn : List (Addr × Obj)} {n y1 y2 : Str} {pe : Pos} {C1 C2 : Addr} {kt : Nat} (i : Nat) (hm : X.mg "isinstance" = none) (EC : ExcC X.K D) (hz : Zc (.ref D) none oe) (hf : ∃ vs, oe.data = .fields vs) (h : Γ[i]? = some (some (.raw (.ref a)))) (hy1 : X.mg y1 = some (.ref C1)) (hy2 : X.mg y2 = some (.ref C2)) (hk1 : PySem.W.kitOne X.K (.ref D) (.ref C1) = some false) (hk2 : PySem.W.kitOne X.K (.ref D) (.ref C2) = some false)
    (hN : (X.suite a ((a, oe) :: pn)).N[i]? = some n := by rfl) (hv : Vis (X.suite a ((a, oe) :: pn)).env.scope n := by first | exact Or.inl rfl | exact Or.inr (Or.inl rfl) | exact Or.inr (Or.inr rfl)) (hd : (n == ("__debug__" : Str)) = false := by decide) (hcd : (n == ("__classdict__" : Str)) = false := by decide)
    (hg : Gl (X.suite a ((a, oe) :: pn)) "isinstance" := by rfl) (hg1 : Gl (X.suite a ((a, oe) :: pn)) y1 := by rfl) (hg2 : Gl (X.suite a ((a, oe) :: pn)) y2 := by rfl) (hd1 : (y1 == ("__debug__" : Str)) = false := by decide) (hd2 : (y2 == ("__debug__" : Str)) = false := by decide)
    (he : starEach [.Name n pe, .Tuple [.Name y1 p2, .Name y2 p3] kt p4] (X.suite a ((a, oe) :: pn)).env = (false, eval (.Name n pe) (X.suite a ((a, oe) :: pn)).env) :: starEach [.Tuple [.Name y1 p2, .Name y2 p3] kt p4] (X.suite a ((a, oe) :: pn)).env := by rfl) (he2 : starEach [.Tuple [.Name y1 p2, .Name y2 p3] kt p4] (X.suite a ((a, oe) :: pn)).env = (false, eval (.Tuple [.Name y1 p2, .Name y2 p3] kt p4) (X.suite a ((a, oe) :: pn)).env) :: starEach [] (X.suite a ((a, oe) :: pn)).env := by rfl)
    (he3 : starEach [.Name y1 p2, .Name y2 p3] (X.suite a ((a, oe) :: pn)).env = (false, eval (.Name y1 p2) (X.suite a ((a, oe) :: pn)).env) :: starEach [.Name y2 p3] (X.suite a ((a, oe) :: pn)).env := by rfl) (he4 : starEach [.Name y2 p3] (X.suite a ((a, oe) :: pn)).env = (false, eval (.Name y2 p3) (X.suite a ((a, oe) :: pn)).env) :: starEach [] (X.suite a ((a, oe) :: pn)).env := by rfl)
    (hpl : (backTo pos (starEach [.Tuple [.Name y1 p2, .Name y2 p3] kt p4] (X.suite a ((a, oe) :: pn)).env)).any (·.1) = false := by rfl) :
    DE (X.suite a ((a, oe) :: pn)) (.Call (.Name "isinstance" p) [.Name n pe, .Tuple [.Name y1 p2, .Name y2 p3] kt p4] [] pos) Γ (.bool false) := fun B O H σ Q g q => by
  obtain ⟨v, h1, h2⟩ := g.slot i _ h
  obtain rfl : v = .ref a := h2
  refine wE_of (pe_callB (call_isET EC hz hf) hg hm PyProof.Rows.boot_isinstance (pa_cons (pv i hN hv hd hcd) (pa_cons (pe_tup (pa_cons (pe_glob (v := .ref C1) hg1 hy1 rfl hd1) (pa_cons (pe_glob (v := .ref C2) hg2 hy2 rfl hd2) pa_nil he4) he3)) pa_nil he2) he) (by decide) (by decide) he hpl)
    ⟨_, h1, by show 2 ≤ sizeLine; rw [sizeLine_eq]; omega, fun t ht => ⟨t, [C1, C2], false, rfl, upd_same, kitAny_cons hk1 (fun _ => kitAny_cons hk2 (fun _ => kitAny_nil) (fun z => nomatch z)) (fun z => nomatch z), q _ _ (same_upd ht) (.bl false)⟩⟩
end
/-! ### read-only methods -/
section
variable {P : Program} {w : World} {K : PySem.W.Frag} {mg : Str → Option Value} {base : Heap}
theorem fn_ofGQ {x q : Str} {st : Stmt} {f : Addr} {fd : FuncData} {N ps : List Str} {k : Nat} {R : List SD → PyData → Prop} {XR : List SD → Value → Prop} (F : Fun K x q st f fd) (S : FnScope N ps (defScope st)) (len : ∀ ss d, R ss d → ss.length = ps.length) (lenX : ∀ ss C, XR ss C → ss.length = ps.length)
    (body : ∀ (X : Cx) (cdv : Value) (A : Around) (outer : List Env) (s : Shared) (H : Hp) (E : XK), X = cxOf (L2.CX P w) P w K mg base N q (defScope st) f cdv A outer s H E → Room k X.A → ∀ ss, (∀ d, R ss d → DS X (defBody st) (envS N ss) { nx := fun _ => d = .none, rt := fun d' => d' = d }) ∧ ∀ C, XR ss C → DS X (defBody st) (envS N ss) { nx := fun _ => False, rt := fun _ => False, xr := fun C' _ => C' = C }) :
    FnOk P w K mg base (L2.CX P w) (k + 1) f fd ps (spG K R XR) := by
  refine F.okX S (fun vs H Q E h => ?_) (fun cdv A outer s H vs Q E hr h => ?_)
  · obtain ⟨O, ss, _, h1, h2⟩ := h
    rcases h2 with ⟨d, h2, _⟩ | ⟨C, h2, _⟩
    · rw [h1.len, len ss d h2]
    · rw [h1.len, lenX ss C h2]
  · obtain ⟨O, ss, lv, h1, h2⟩ := h
    obtain ⟨b1, b2⟩ := body _ cdv A outer s H E rfl hr ss
    rcases h2 with ⟨d, h2, q⟩ | ⟨C, h2, q⟩
    · refine ⟨_, pss_w, b1 d h2 ⟨O, H⟩ O H _ _ (envS_sg lv h1) ⟨fun O' H' σ' Γ' e g' => ?_, fun H' v d' e sm hd => ?_, fun _ _ _ _ m => m.elim, fun _ _ _ _ m => m.elim, fun _ _ m => m.elim, fun _ _ _ _ _ m => m.elim⟩⟩
      · subst e
        exact q _ H' g'.ext .non
      · subst e
        exact q v H' sm hd
    · refine ⟨_, pss_w, b2 C h2 ⟨O, H⟩ O H _ _ (envS_sg lv h1) ⟨fun _ _ _ _ m => m.elim, fun _ _ _ m => m.elim, fun _ _ _ _ m => m.elim, fun _ _ _ _ m => m.elim, fun C' Γ' e => ⟨_, takes_of rfl rfl rfl rfl, fun O' H' σ' g' => ?_⟩, fun _ _ _ _ _ m => m.elim⟩⟩
      subst e
      exact q H' g'.ext
end
end EY
set_option autoImplicit false
set_option maxHeartbeats 1000000
namespace EY
open PySem PySem.Spec PyProof.Rows L2
/-- the fields of a listener -/
def lisX (size : Int) (row gone : List Int) : List (Str × PyData) := [("size", .int size), ("row", tupI row), ("gone", tupI gone)]
structure ListenerC (K : PySem.W.Frag) (mg : Str → Option Value) (C : Addr) : Prop where
  cl : Cls K C
  size : NoAttr K C "size"
  row : NoAttr K C "row"
  gone : NoAttr K C "gone"
  g : mg "Listener" = some (.ref C)
structure MkN (P : Program) (w : World) (K : PySem.W.Frag) (mg : Str → Option Value) (base : Heap) (k : Nat) (C : Addr) (ps : List Str) (sp : Sp) : Prop where
  ex : ∃ f fd, FnOk P w K mg base (L2.CX P w) k f fd ps sp ∧ Mk K C f ∧ Binds K fd ps []
theorem lx_size (s : Int) (r g : List Int) : (lisX s r g).lookup ("size" : Str) = some (.int s) := by
  unfold lisX
  simp [List.lookup]
theorem lx_row (s : Int) (r g : List Int) : (lisX s r g).lookup ("row" : Str) = some (tupI r) := by
  have h : (("row" : Str) == "size") = false := by decide +kernel
  unfold lisX
  simp [List.lookup, h]
theorem lx_gone (s : Int) (r g : List Int) : (lisX s r g).lookup ("gone" : Str) = some (tupI g) := by
  have h : (("gone" : Str) == "size") = false := by decide +kernel
  have h2 : (("gone" : Str) == "row") = false := by decide +kernel
  unfold lisX
  simp [List.lookup, h, h2]
theorem lx_no {f : Str} (s : Int) (r g : List Int) (h1 : (f == ("size" : Str)) = false) (h2 : (f == ("row" : Str)) = false) (h3 : (f == ("gone" : Str)) = false) : (lisX s r g).lookup f = none := by
  unfold lisX
  simp [List.lookup, h1, h2, h3]
theorem lx_len (s : Int) (r g : List Int) : (lisX s r g).length < 1000 := show 3 < 1000 by decide
theorem put_len (f : Str) (x : PyData) : ∀ xs : List (Str × PyData), (putD f x xs).length ≤ xs.length + 1
  | [] => Nat.le_refl _
  | (g, y) :: r => by
    unfold putD
    split
    · simp
    · have := put_len f x r
      simp only [List.length_cons]
      omega
theorem put_len1 (f : Str) (x : PyData) : (putD f x []).length < 1000 := Nat.lt_of_le_of_lt (put_len f x []) (by decide)
theorem put_len2 (f g : Str) (x y : PyData) : (putD g y (putD f x [])).length < 1000 := Nat.lt_of_le_of_lt (Nat.le_trans (put_len g y _) (Nat.add_le_add_right (put_len f x []) 1)) (by decide)
theorem idx1 : ∀ m, m < 1 → ([false, true, false] : List Bool)[m]? ≠ some true := by decide
theorem idx2 : ∀ m, m < 2 → ([false, false, true] : List Bool)[m]? ≠ some true := by decide
theorem ne_sr : ¬ (("size" : Str) = "row") := by decide +kernel
theorem ne_sg : ¬ (("size" : Str) = "gone") := by decide +kernel
theorem ne_rg : ¬ (("row" : Str) = "gone") := by decide +kernel
theorem put_row (s : Int) (r g r' : List Int) : putD "row" (tupI r') (lisX s r g) = lisX s r' g := by
  unfold lisX putD
  rw [if_neg ne_sr]
  unfold putD
  rw [if_pos rfl]
theorem put_gone (s : Int) (r g g' : List Int) : putD "gone" (tupI g') (lisX s r g) = lisX s r g' := by
  unfold lisX putD
  rw [if_neg ne_sg]
  unfold putD
  rw [if_neg ne_rg]
  unfold putD
  rw [if_pos rfl]
theorem put_init (s : Int) : putD "gone" (tupI []) (putD "row" (tupI []) (putD "size" (.int s) [])) = lisX s [] [] := by
  have e1 : putD "row" (tupI []) [(("size" : Str), PyData.int s)] = [(("size" : Str), PyData.int s), (("row" : Str), tupI [])] := by
    unfold putD
    rw [if_neg ne_sr]
    rfl
  show putD "gone" (tupI []) (putD "row" (tupI []) [("size", .int s)]) = _
  rw [e1]
  unfold putD
  rw [if_neg ne_sg]
  unfold putD
  rw [if_neg ne_rg]
  rfl
section
variable {X : Cx} {Γ : Gm} {e : Expr} {es : List Expr} {pe p' pos : Pos} {f y : Str} {C : Addr} {xs' : List (Str × PyData)} {n : Nat} {rest : List Stmt} {P : Po} {ds : List PyData}
theorem ds_makeN' (j : Nat) {k : Nat} {ps : List Str} {R : List (Str × PyData) → List PyData → List (Str × PyData) → PyData → Prop} {XR : List (Str × PyData) → List PyData → Value → Prop} (hND : X.N.Nodup) (hm : MkN X.prog X.w X.K X.mg X.base k C ps (spN X.K C R XR)) (hmg : X.mg f = some (.ref C)) (hr : Room n X.A) (ha : DA X (e :: es) Γ ds) (hR : R [] ds xs' .none)
    (kk : ∀ q dx, DS X rest (Γ.set j (some (.fac (.ref q) [q] (insD X.K C q dx xs')))) P) (hk : k + 1 ≤ n := by decide) (hg : Gl X f := by rfl) (hdb : (f == ("__debug__" : Str)) = false := by decide)
    (he : starEach (e :: es) X.env = (false, eval e X.env) :: starEach es X.env := by rfl) (hpl : (backTo pos (starEach es X.env)).any (·.1) = false := by rfl)
    (hj : X.N[j]? = some y := by rfl) (hy : Loc X.env.scope y := by first | exact Or.inl rfl | exact Or.inr rfl) (hf : X.fn y = true ∨ X.env.scope.names.lookup y = some .local := by first | exact .inl rfl | exact .inr rfl)
    {pos' : Pos} (hs' : swapsWith (.Call (.Name f pe) (e :: es) [] pos) (some (.Name y p')) pos'.line X.env = pure false := by rfl) :
    DS X (.Assign [.Name y p'] (.Call (.Name f pe) (e :: es) [] pos) pos' :: rest) Γ P := by
  obtain ⟨fI, fd, Fn, mk, hb⟩ := hm.ex
  exact ds_makeN j hND mk Fn hb hmg hr ha hR kk hk hg hdb he hpl hj hy hf hs'
/-- tuple(range(n)) -/
theorem de_tupleRange {i : Int} {p p2 pos2 : Pos} (hm : X.mg "tuple" = none) (hm2 : X.mg "range" = none) (h : DE X e Γ (.int i)) (hi : 0 ≤ i ∧ i ≤ 1000) (hc : X.calm = true := by rfl) (hg : Gl X "tuple" := by rfl) (hg2 : Gl X "range" := by rfl) (he : starEach [e] X.env = (false, eval e X.env) :: starEach [] X.env := by rfl)
    (he2 : starEach [.Call (.Name "range" p2) [e] [] pos2] X.env = (false, eval (.Call (.Name "range" p2) [e] [] pos2) X.env) :: starEach [] X.env := by rfl) :
    DE X (.Call (.Name "tuple" p) [.Call (.Name "range" p2) [e] [] pos2] [] pos) Γ (tupI ((List.range i.toNat).map fun k => ((k : Nat) : Int))) := fun B O H σ Q g q =>
  wE_of (pe_tupRg hc hg hm (prg_1 hg2 hm2 pe_w he) he2) (h B O H σ _ g fun v H2 s2 d2 => by
    cases d2
    refine ⟨i, rfl, RgOk.of_le (by decide) (by omega) (by decide) hi.1, fun r hr => ?_⟩
    refine q _ _ (s2.trans (same_upd hr)) (.tup (sqT_new ((g.step s2).fresh hr)) ?_)
    have e : rgV 0 i = ((List.range i.toNat).map fun k => ((k : Nat) : Int)).map V.int := by
      unfold rgV
      rw [List.map_map, Int.sub_zero]
      apply List.map_congr_left
      intro k _
      simp
    rw [e]
    exact ints_dpAll _)
/-- return e, told of the object's slot -/
theorem ds_retN {d : PyData} (he : DE X e Γ d) (h : ∀ O H v, Dp X.K (hid O H) v d → P.rr O H v Γ) : DS X (.Return (some e) pos :: rest) Γ P := ds_retG he h
end
end EY
set_option autoImplicit false
set_option maxHeartbeats 1000000
/-! lambdas without parameters; the table of code objects as a thing of its own -/
namespace EY
open PySem PySem.Spec PyProof.Rows L2 LamX
/-- the table at P, each of its code objects of the name q -/
def tabF (P : Addr) (q : Str) : Fac where
  φ H _ := TabS H P q
  mono e _ h := h.ext e
  away := fun {H D a vs us} ha h => by
    obtain ⟨ps, h1, h2, h3⟩ := h
    refine ⟨ps, (upd_ne (fun z => by rw [z, ha] at h1; cases h1)).trans h1, h2, fun pos cv hc => ?_⟩
    obtain ⟨c, e1, e2⟩ := h3 pos cv hc
    refine ⟨c, e1, (upd_ne (fun z => ?_)).trans e2⟩
    rw [z, ha] at e2
    unfold CodeO at e2
    cases e2
section
variable {X : Cx} {pins : List (Addr × Obj)} {σ : L2.St} {H : Hp} {s : Shared}
/-- the lambda is made, the new heap told exactly -/
theorem lam_make3 {c P : Addr} {params : Arguments} {body : Expr} {scope : Scope} {pos : Pos} {E : Value → Shared → Prop} {Q : Value → Shared → Prop} (I : Inv X pins σ H s) (TB : TabB X.base X.mg c P) (hcode : X.env.code = .ref c)
    (hT : TabS H P (X.env.qual ++ "<lambda>")) (hdef : defaultsOf params X.env = ([], [])) (hfree : ∀ y ∈ scope.names, y.2 = .free → ∃ c, X.env.cells.lookup y.1 = some c)
    (h : ∀ (f c' : Addr) (pm ctv : Value) (ps' : Array Value) (H1 : Hp) (s' : Shared), Inv X pins σ H1 s' → Same (upd H P (.tbl ps')) H1 → TabS H1 P (X.env.qual ++ "<lambda>") →
      s'.heap.get? f = some (PySem.W.kla_obj "<lambda>" (X.env.qual ++ "<lambda>") params body scope (cloFrom X.env.cells scope.names []) pm c' ctv) → H1 f = none → f ∉ frs X.stack → H1 c' = some (CodeO c' (X.env.qual ++ "<lambda>")) → Q (.ref f) s') :
    wpAny (model X.prog X.w) X.A (eval (.Lambda params body scope pos) X.env) Q E s := by
  obtain ⟨ps, hP, ht, ha⟩ := hT
  refine PySem.W.kla_eval hdef ?_
  have bP : s.heap.BuiltinsAt X.mg P := TB.bm.keeps I.bk
  have hP' : s.heap.get? P = some { cls := .none, data := .fields ps } := I.hok P _ hP
  have nofr : ∀ f, s.heap.objs.size ≤ f → f ∉ frs X.stack := fun f hf z => by
    rcases List.mem_cons.mp (I.stkSub _ z) with e | e
    · have h1 := I.lt
      rw [← e] at h1
      exact Nat.lt_irrefl _ (Nat.lt_of_lt_of_le h1 hf)
    · exact I.nofs hf e
  cases hc : codeAmong pos ps.toList with
  | none =>
    refine PySem.W.kla_makeFunction (mg := X.mg) (c := c) (P := P) (ps := ps) (closure_ok hfree) I.ok.glob (I.mod.glob.keeps I.bk) hcode (TB.code.keeps I.bk) hP' ht hc TB.gP bP fun c' ctv h' tk hx hge hlt hrec htb => ?_
    obtain ⟨c2, oc, vs, t, e2, hoc, hd, hv⟩ := hrec
    cases e2
    have hsz : s.heap.objs.size ≤ h'.objs.size := Nat.le_trans hge (Nat.le_of_lt hlt)
    have nC : H c' = none := I.hok.fresh hge
    have I1 := inv_table (t' := tk) (more := #[rawInt pos.line, rawInt pos.col, .ref c']) (h' := h'.push (PySem.W.kla_obj "<lambda>" (X.env.qual ++ "<lambda>") params body scope (cloFrom X.env.cells scope.names []) ((X.mg "__name__").getD .none) c' ctv)) I hP
      (fun b o hb e => Heap.get?_push_of_some _ (hx b o hb e)) (Heap.get?_push_of_some _ htb) hge ⟨oc, vs, t, Heap.get?_push_of_some _ hoc, hd, hv⟩
    have nPc : P ≠ c' := ne_of_none hP nC
    have hS : Same (upd H P (.tbl (ps ++ #[rawInt pos.line, rawInt pos.col, .ref c']))) (upd (upd H P (.tbl (ps ++ #[rawInt pos.line, rawInt pos.col, .ref c']))) c' (CodeO c' (X.env.qual ++ "<lambda>"))) := same_upd (by rw [upd_ne (Ne.symm nPc)]; exact nC)
    have eL : (ps ++ #[rawInt pos.line, rawInt pos.col, .ref c']).toList = ps.toList ++ [rawInt pos.line, rawInt pos.col, .ref c'] := by simp
    refine h h'.objs.size c' ((X.mg "__name__").getD .none) ctv _ _ _ I1 hS ⟨_, hS _ _ upd_same, by rw [eL]; exact PySem.TriplesOk_snoc _ _ _ _ ht, fun p' cv hcv => ?_⟩ (Heap.get?_push_size _ rfl) ?_ (nofr _ hsz) upd_same
    · rw [eL] at hcv
      rcases among_app _ ht hcv with z | z
      · obtain ⟨c0, e1, e2⟩ := ha p' cv z
        refine ⟨c0, e1, hS _ _ ?_⟩
        rw [upd_ne (fun z => by rw [z, hP] at e2; unfold CodeO at e2; cases e2)]
        exact e2
      · exact ⟨c', z, upd_same⟩
    · rw [upd_ne (Nat.ne_of_gt hlt), upd_ne (Nat.ne_of_gt (Nat.lt_of_lt_of_le (Heap.lt_size hP') hsz))]
      exact I.hok.fresh hsz
  | some cv =>
    obtain ⟨c', e, hco⟩ := ha pos cv hc
    subst e
    refine PySem.W.kla_makeFunctionHit (mg := X.mg) (c := c) (P := P) (ps := ps) (closure_ok hfree) I.ok.glob (I.mod.glob.keeps I.bk) hcode (TB.code.keeps I.bk) hP' ht hc bP fun ctv h' tk hx hsz => ?_
    have I1 : Inv X pins σ H { s with heap := h'.push (PySem.W.kla_obj "<lambda>" (X.env.qual ++ "<lambda>") params body scope (cloFrom X.env.cells scope.names []) ((X.mg "__name__").getD .none) c' ctv), toks := tk } := I.kept fun b o e => Heap.get?_push_of_some _ (hx b o e)
    have hS : Same (upd H P (.tbl ps)) H := fun b o e => by
      by_cases z : b = P
      · rw [z] at e ⊢
        rw [upd_same] at e
        cases e
        exact hP
      · rw [upd_ne z] at e
        exact e
    exact h h'.objs.size c' ((X.mg "__name__").getD .none) ctv ps H _ I1 hS ⟨ps, hP, ht, ha⟩ (Heap.get?_push_size _ rfl) (I.hok.fresh hsz) (nofr _ hsz) hco
/-- deed(), in the def that got the lambda, told of that def's slots -/
theorem pe_actS {CXg : CXT} {Eg : XK} {Ng : List Str} {qg : Str} {sg : Scope} {g f c' : Addr} {cdg pm ctv : Value} {params : Arguments} {body : Expr} {scope : Scope} {k i : Nat} {a : Str} {pn : List (Addr × Obj)} {xe : Value → Shared → Prop} {E : L2.St → XK} {tb : XK → TE} {p1 p2 : Pos}
    (I : Inv X pins σ H s) (L : LamS X.env.scope scope) (hf : s.heap.get? f = some (PySem.W.kla_obj "<lambda>" (X.env.qual ++ "<lambda>") params body scope (cloFrom X.env.cells scope.names []) pm c' ctv)) (hfn : H f = none) (hfr : f ∉ frs X.stack)
    (hbind : bindArgs (PySem.W.kla_fn "<lambda>" (X.env.qual ++ "<lambda>") params body scope (cloFrom X.env.cells scope.names []) pm (.ref c') ctv) ⟨[], []⟩ = pure [])
    (hx : ∀ σZ, PassesAt (L2.CX X.prog X.w) ((cxOf CXg X.prog X.w X.K X.mg X.base Ng qg sg g cdg X.A X.stack s H Eg).tr pn xe) σZ (E σZ)) (hr : Room (k + 1) (X.A.deeper (envOfC qg sg s.heap.objs.size g cdg)))
    (hbody : ∀ (A : Around) (outer : List Env) (s : Shared) (H : Hp) (E : XK), Room k (A.deeper (lamEnv X scope s.heap.objs.size f c')) → PE (lamCx X A outer s H E scope f c') body (tb E))
    (hN : Ng[i]? = some a) (hv : Vis sg a) (hd : (a == ("__debug__" : Str)) = false := by decide) (hcd : (a == ("__classdict__" : Str)) = false := by decide) :
    PE ((cxOf CXg X.prog X.w X.K X.mg X.base Ng qg sg g cdg X.A X.stack s H Eg).tr pn xe) (.Call (.Name a p1) [] [] p2)
      (fun σZ HZ Q => σZ[i]? = some (some (.ref f)) ∧ HZ c' = some (CodeO c' (X.env.qual ++ "<lambda>")) ∧ tb (E σZ) σ HZ Q) := by
  refine ⟨fun pinsZ sZ σZ HZ Q IZ h => ?_⟩
  obtain ⟨hs, hc, ht⟩ := h
  refine wpAny_Call_Name_kw (thn ((pe_var (pos := p1) (i := i) hN hv hd hcd).run pinsZ sZ σZ HZ (fun v H1 => v = .ref f ∧ H1 = HZ) IZ ⟨.ref f, hs, rfl, rfl⟩) fun u s1 hu => ?_)
  obtain ⟨v, H1, I1, r1, rfl, rfl⟩ := hu
  obtain rfl : u = Value.ref f := r1
  have of1 : s1.heap.get? f = some (PySem.W.kla_obj "<lambda>" (X.env.qual ++ "<lambda>") params body scope (cloFrom X.env.cells scope.names []) pm c' ctv) := I1.base.keep f _ hf hfn hfr (fun z => nomatch (show f ∈ ([] : List Addr) from z))
  refine PySem.W.callWith_F0 ⟨_, _, _, _, of1⟩ ?_
  have un : Un (frs X.stack) [] H H1 s.heap s1.heap := I1.base
  obtain ⟨⟨oc, vs, t, hoc, hdc, hvc⟩, _, _⟩ := I1.hok c' _ hc
  have rc : codeAny (model X.prog X.w) (X.A.deeper (envOfC qg sg s.heap.objs.size g cdg)) (.call (.ref f) ⟨[], []⟩) (CR (L2.CX X.prog X.w) (envOfC qg sg s.heap.objs.size g cdg :: X.stack) X.prog X.w H1 s1 Q (E σZ)) s1 := by
    refine PySem.W.kla_callFunE hr.depth of1 rfl L.co L.gen rfl ⟨c', oc, vs, t, rfl, hoc, hdc, hvc⟩ ?_
    rw [hbind]
    refine wpAny_pure (wpAny_newFunctionEnv (fun y hy => (L.own y hy).2) (fun y hy => absurd hy (by simp)) (fun h₁ hns hsb => ⟨I1.nolimit.fresh _ hsb, ?_⟩) L.kind)
    show codeAny _ _ (.expr body (lamEnv X scope s1.heap.objs.size f c')) _ _
    have kp : ∀ b o, s1.heap.get? b = some o → h₁.get? b = some o := fun b o e => hsb.extBut b o (Nat.ne_of_lt (Heap.lt_size e)) (Heap.get?_push_of_some _ e)
    have J : Inv (lamCx X (X.A.deeper (envOfC qg sg s.heap.objs.size g cdg)) (envOfC qg sg s.heap.objs.size g cdg :: X.stack) s1 H1 (E σZ) scope f c') [] σ H1 { s1 with heap := h₁, toks := s1.toks + ([] : List (Str × Value)).length } :=
      lam_start2 I L I1.env0 hr.hd un hns kp
    refine PySem.W.kla_codeExpr (wpAny_mono ((hbody _ _ s1 H1 (E σZ) (hr.deeper _)).run [] _ _ H1 Q J ht) (fun v s' hq => ?_) fun e s' hq => hq)
    obtain ⟨w', H', J', rv, q⟩ := hq
    exact ⟨w', H', J'.os, J'.bare, J'.base, J'.hok, rv, q⟩
  refine wpAny_call (codeAny_mono rc fun r s' hq => ?_)
  cases r with
  | error e => exact hx σZ pinsZ H1 s1 e s' I1 hq
  | ok fl =>
    cases fl with
    | ret u => exact I1.after hq
    | next => exact False.elim hq
    | brk => exact False.elim hq
    | cont => exact False.elim hq
end
end EY
set_option autoImplicit false
set_option maxHeartbeats 1000000
namespace EY
open PySem PySem.Spec PyProof.Rows L2 LamX
/-- the lambda's code object stands; what was to be seen where it was made is still to be seen -/
def lamF (c' : Addr) (q : Str) (D1 : Hp) : Fac where
  φ H D := H c' = some (CodeO c' q) ∧ Same D1 D
  mono e e' h := ⟨e _ _ h.1, h.2.trans e'⟩
  away := fun {H D a vs us} ha h => ⟨(upd_ne (fun z => by
    have h1 := h.1
    rw [z, ha] at h1
    unfold CodeO at h1
    cases h1)).trans h.1, h.2⟩
/-- in a try of Z, deed() raises C -/
def Act (Z : Cx) (a : Str) (f c' : Addr) (q : Str) (D1 : Hp) (C : Value) : Prop := ∀ (pn : List (Addr × Obj)) (xe : Value → Shared → Prop) (rest : List Stmt) (Γ : Gm) (P : Po) (p1 p2 p3 : Pos),
  Γ[0]? = some (some (.fac (.ref f) [] (lamF c' q D1))) → P.xr C Γ → DS (Z.tr pn xe) (.Expr (.Call (.Name a p1) [] [] p2) p3 :: rest) Γ P
/-- the slots that are data -/
structure DataOf (Γd Γ : Gm) : Prop where
  len : Γd.length = Γ.length
  at_ : ∀ (i : Nat) s, Γd[i]? = some (some s) → ∃ x, s = .d x ∧ Γ[i]? = some (some (.d x))
theorem DataOf.sg {K : PySem.W.Frag} {B : Bs} {O O2 : Addr → Prop} {H H2 : Hp} {σ : L2.St} {Γd Γ : Gm} (d : DataOf Γd Γ) (g : Sg K B O H σ Γ) (e : Same (hid O H) (hid O2 H2)) (lv : Live O2 H2) : Sg K ⟨O2, H2⟩ O2 H2 σ Γd := by
  refine ⟨Same.refl H2, fun a h => .inl h, fun a h => ⟨h, lv a h⟩, lv, by rw [g.len, d.len], fun i s h => ?_, fun i j xs ys p h1 _ _ _ => ?_⟩
  · obtain ⟨x, rfl, h2⟩ := d.at_ i s h
    obtain ⟨v, q1, q2⟩ := g.slot i _ h2
    exact ⟨v, q1, dp_mono e _ _ q2⟩
  · obtain ⟨x, z, _⟩ := d.at_ i _ h1
    cases z
section
variable {X : Cx} {Γ Γd : Gm} {d : PyData} {e2 : Expr} {i : Nat} {P c g : Addr} {w0 : V} {q x a b : Str} {k n : Nat} {Ng : List Str} {st : Stmt} {fd : FuncData} {params : Arguments} {body : Expr} {scope : Scope} {p lpos pos : Pos} {C : Value} {as : List Addr} {kind : Int}
theorem set_same {Γ : Gm} {i : Nat} {y : Option SD} (h : Γ[i]? = some y) : Γ.set i y = Γ := by
  apply List.ext_getElem?
  intro j
  by_cases e : i = j
  · subst e
    have hlt : i < Γ.length := (List.getElem?_eq_some_iff.mp h).1
    rw [List.getElem?_set_self hlt, h]
  · rw [List.getElem?_set_ne e]
/-- f(lambda: body, e2), where the body raises C and f makes d of it -/
theorem dm_lam (i : Nat) (h : Γ[i]? = some (some (.fac w0 as (tabF P (X.env.qual ++ "<lambda>"))))) (only : Only Γ i) (hP : P ∈ as) (TB : TabB X.base X.mg c P) (hcode : X.env.code = .ref c) (L : LamS X.env.scope scope) (hd : DataOf Γd Γ)
    (hbody : ∀ (A : Around) (outer : List Env) (s : Shared) (H : Hp) (E : XK) (f c' : Addr), Room k (A.deeper (lamEnv X scope s.heap.objs.size f c')) → DX (lamCx X A outer s H E scope f c') body Γd C)
    (F : L2.Fun X.K x x st g fd) (hm : X.mg x = some (.ref g)) (hb : Binds X.K fd [a, b] []) (S : FnScope Ng [a, b] (defScope st)) (hNg : Ng[0]? = some a) (hva : Vis (defScope st) a) (hr : Room (k + 2) X.A) (he : DE X e2 Γ (.int kind))
    (hG : ∀ (cdv : Value) (s : Shared) (H : Hp) (f c' : Addr) (D1 : Hp), Room (k + 1) (X.A.deeper (envOfC x (defScope st) s.heap.objs.size g cdv)) → Act (cxOf CX0 X.prog X.w X.K X.mg X.base Ng x (defScope st) g cdv X.A X.stack s H E0).nox a f c' (X.env.qual ++ "<lambda>") D1 C →
      DS (cxOf CX0 X.prog X.w X.K X.mg X.base Ng x (defScope st) g cdv X.A X.stack s H E0).nox (defBody st) (envS Ng [.fac (.ref f) [] (lamF c' (X.env.qual ++ "<lambda>") D1), .d (.int kind)]) { nx := fun _ => False, rt := fun d' => d' = d })
    (hdef : defaultsOf params X.env = ([], []) := by rfl) (hbind : ∀ (q : Str) (cl : List (Str × Addr)) (pm cv ctv : Value), bindArgs (PySem.W.kla_fn "<lambda>" q params body scope cl pm cv ctv) ⟨[], []⟩ = pure [] := by intros; rfl)
    (hg : Gl X x := by rfl) (hdb : (x == ("__debug__" : Str)) = false := by decide) (hda : (a == ("__debug__" : Str)) = false := by decide) (hcd : (a == ("__classdict__" : Str)) = false := by decide)
    (hst : starEach [.Lambda params body scope lpos, e2] X.env = (false, eval (.Lambda params body scope lpos) X.env) :: starEach [e2] X.env := by rfl) (hst2 : starEach [e2] X.env = (false, eval e2 X.env) :: starEach [] X.env := by rfl) (hpl : (backTo pos (starEach [e2] X.env)).any (·.1) = false := by rfl) :
    DM X (.Call (.Name x p) [.Lambda params body scope lpos, e2] [] pos) Γ d Γ := fun B O H σ Q gs kk => by
  have hkp : PySem.W.keepIn X.K (.ref g) = true := F.kp
  obtain ⟨oc, od, kV, doc, pm, an, cdv, ct, osl, rfl, lk, hcg⟩ := F.ex
  obtain ⟨_, hT⟩ := fac_get gs h
  refine ⟨fun pins s I => ?_⟩
  refine wpAny_Call_Name_kw (ld_glob I hg hm ?_ hdb)
  refine PySem.W.callWith_K (h₀ := X.base) I.ok.mod.kin hkp ?_ hst hpl
  refine args_cons (lam_make3 I TB hcode hT hdef (L.has I.ok) fun f c' pm' ctv ps' H1 s1 I1 sm T1 hf hfn hfr hco => ?_) hst
  have gs1 : Sg X.K B O H1 σ Γ := by
    have z := gs.mutMore h only hP (o := .tbl ps') (fun vs z => by cases z) sm (tabF P (X.env.qual ++ "<lambda>")) T1
    rw [set_same h] at z
    exact z
  have I1' : Inv X (pins ++ [(f, PySem.W.kla_obj "<lambda>" (X.env.qual ++ "<lambda>") params body scope (cloFrom X.env.cells scope.names []) pm' c' ctv)]) σ H1 s1 := I1.pins_of fun r hr0 => by
    rcases List.mem_append.mp hr0 with z | z
    · exact I1.pin r (List.mem_append_right _ z)
    · rw [List.mem_singleton] at z
      subst z
      refine ⟨hf, hfn, fun z => ?_, fun z => ?_, fun v z => by cases z⟩
      · obtain ⟨m, ⟨ol, es, ep, e1, e2, _⟩, _⟩ := I1.loc
        have z' : f = X.env.locals := z
        rw [← z', hf] at e1
        cases e1
        cases e2
      · refine hfr ?_
        rcases I1.ok.stk with e | ⟨e, _⟩
        · rw [e]; exact z
        · rw [e]
          obtain ⟨en, he1, he2⟩ := List.mem_filterMap.mp z
          exact List.mem_filterMap.mpr ⟨en, List.mem_cons_of_mem _ he1, he2⟩
  refine one_arg pe_w I1' (he B O H1 σ (fun v H2 => v = .int kind ∧ Same H1 H2) gs1 fun v H2 s2 d2 => by cases d2; exact ⟨rfl, s2⟩) (fun u s2 v H2 I2 r2 hq => ?_) hst2
  obtain ⟨rfl, s2'⟩ := hq
  have gs2 := gs1.step s2'
  refine ⟨I2.kIn, ?_⟩
  obtain ⟨hf2, hfn2, _⟩ := I2.pin _ (List.mem_append_right _ (List.mem_append_right _ (List.mem_singleton.mpr rfl)))
  have I3 : Inv X pins σ H2 s2 := I2.unpinned
  have rc : codeAny (model X.prog X.w) X.A (.call (.ref g) ⟨[.ref f, u], []⟩) (CR CX0 X.stack X.prog X.w H2 s2 Q E0) s2 := by
    refine run_ofS (N := Ng) (ps := [a, b]) (us := [.ref f, u]) (vs := [.ref f, .int kind]) lk hcg S hr I3.env0 (hb s2 [.ref f, u] I3.kIn rfl) (.cons rfl (.cons r2 .nil)) rfl fun hr' => ?_
    refine ⟨_, pss_w.nox, hG cdv s2 H2 f c' (hid O H2) hr' ?_ ⟨O, H2⟩ O H2 _ _ (envS_sg gs2.live (.cons ⟨rfl, rfl, s2' _ _ hco, Same.refl _⟩ (.cons (.int kind) .nil))) ⟨fun _ _ _ _ m => m.elim, fun H' v d' e sm' hd' => ?_, fun _ _ _ _ m => m.elim, fun _ _ _ _ m => m.elim, fun _ _ m => m.elim, fun _ _ _ _ _ m => m.elim⟩⟩
    · intro pn xe rest Γ' P' p1 p2 p3 hΓ0 hxr B' O' H' σ' D' g' ff
      obtain ⟨W, tk, hW⟩ := ff.xr C Γ' hxr
      obtain ⟨f1, f2, f3⟩ := fac_get g' hΓ0
      have ha := pe_actS (X := X) (i := 0) (p1 := p1) (p2 := p2) (CXg := CX0) (Eg := E0) (Ng := Ng) (qg := x) (sg := defScope st) (g := g) (cdg := cdv) (pn := pn) (xe := xe) (k := k) (E := fun σZ => WE W σZ)
        (tb := fun E σ H' Q => ∀ (A : Around) (outer : List Env) (s : Shared) (H : Hp), Room k (A.deeper (lamEnv X scope s.heap.objs.size f c')) → wE (lamCx X A outer s H E scope f c') body σ H' Q) I3 L hf2 hfn2 hfr (hbind _ _ _ _ _) (fun σZ => passAt tk σZ) hr'
        (fun A outer s H E hr3 => ⟨fun pins s' σ H' Q I h => (h A outer s H hr3).run pins s' I⟩) hNg hva hda hcd
      refine wB_of (pss_cons (ps_expr ha rfl) pss_w) ⟨f1, f2, fun A outer s3 H3 hr3 => ?_⟩
      exact hbody A outer s3 H3 _ f c' hr3 ⟨O', H'⟩ O' H' σ _ (WE W σ') (lamCx X A outer s3 H3 (WE W σ') scope f c') rfl rfl rfl (hd.sg gs2 f3 g'.live) (fun pins σ H s u s' I cx => passes_call (takes_of rfl rfl rfl rfl) (fun _ _ _ _ h => h) pins σ H s u s' I cx) (fun H4 s4 => hW O' H4 σ' (g'.step s4))
    · subst e
      exact kk v H' (gs2.step sm') hd'
  refine wpAny_call (codeAny_mono rc fun r s3 hq => ?_)
  cases r with
  | error e => exact (show False from hq).elim
  | ok fl =>
    cases fl with
    | ret u => exact I3.after hq
    | next => exact False.elim hq
    | brk => exact False.elim hq
    | cont => exact False.elim hq
end
end EY
set_option autoImplicit false
set_option maxHeartbeats 1000000
/-! defs that make lambdas; truths in a list -/
namespace EY
open PySem PySem.Spec PyProof.Rows L2 LamX
section
variable {X : Cx} {pins : List (Addr × Obj)} {σ : L2.St} {H : Hp} {s : Shared}
/-- a slot of a name that the scope does not know may hold anything -/
theorem inv_dummy (I : Inv X pins σ H s) {j : Nat} {nm : Str} (hN : X.N[j]? = some nm) (hv : ¬ Vis X.env.scope nm) (v : V) : Inv X pins (σ.set j (some v)) H s := by
  refine ⟨I.ok, I.os, I.bare, I.base, ?_, I.cell, I.free, I.freeC, I.pin, I.hok, by rw [List.length_set]; exact I.len⟩
  obtain ⟨m, hn, hl⟩ := I.loc
  refine ⟨m, hn, fun i y v' e1 e2 e3 => ?_⟩
  by_cases e : j = i
  · subst e
    rw [hN] at e1
    cases e1
    exact absurd e3 hv
  · rw [List.getElem?_set_ne e] at e2
    exact hl i y v' e1 e2 e3
theorem pss_dummy {sts : List Stmt} {t : TS} {j : Nat} {nm : Str} (hN : X.N[j]? = some nm) (hv : ¬ Vis X.env.scope nm) (v : V) (h : PSs X sts t) : PSs X sts (fun D σ H => t D (σ.set j (some v)) H) := ⟨fun pins s σ H D I hh => h.run pins s _ H D (inv_dummy I hN hv v) hh⟩
end
/-- a def that makes lambdas, its table at P -/
def spT (K : PySem.W.Frag) (P : Addr) (q : Str) (R : List PyData → PyData → Prop) : Sp := fun vs H Q _ => ∃ (O : Addr → Prop) (ds : List PyData) (d : PyData), O P ∧ TabS H P q ∧ Live O H ∧ DpAll K (hid O H) vs ds ∧ R ds d ∧
  ∀ v H2 ps', Same (upd H P (.tbl ps')) H2 → TabS H2 P q → Dp K (hid O H2) v d → Q v H2
section
variable {X : Cx} {Γ Γ' : Gm} {c e : Expr} {es : List Expr} {p pos : Pos} {d : PyData} {ds : List PyData} {x : Str} {k n : Nat} {ps : List Str} {R : List PyData → PyData → Prop} {P : Addr} {q : Str} {w0 : V} {as : List Addr}
theorem dm_callT (i : Nat) (h : Γ[i]? = some (some (.fac w0 as (tabF P q)))) (only : Only Γ i) (hP : P ∈ as) (hf : Has X.prog X.w X.K X.mg X.base k x ps (spT X.K P q R)) (hr : Room n X.A) (ha : DA X (e :: es) Γ ds) (hR : R ds d) (hk : k ≤ n := by decide) (hg : Gl X x := by rfl)
    (hdb : (x == ("__debug__" : Str)) = false := by decide) (he : starEach (e :: es) X.env = (false, eval e X.env) :: starEach es X.env := by rfl) (hpl : (backTo pos (starEach es X.env)).any (·.1) = false := by rfl) :
    DM X (.Call (.Name x p) (e :: es) [] pos) Γ d Γ := fun B O H σ Q g kk => by
  obtain ⟨f, fd, F, hm, hkp, hb⟩ := hf.ex
  refine wE_of (pe_call F (hr.mono hk) hg hm hkp hb .nil pass0 pa_w hdb he hpl) (ha B O H σ _ g fun vs H2 s2 d2 => ?_)
  have g2 := g.step s2
  obtain ⟨_, hT⟩ := fac_get g2 h
  obtain ⟨_, _, _, own, _⟩ := g2.slot i _ h
  refine ⟨O, ds, d, (own P hP).1, hT, g2.live, by rw [List.append_nil]; exact d2, hR, fun v H3 ps' s3 t3 dv => kk v H3 ?_ dv⟩
  have z := g2.mutMore h only hP (o := .tbl ps') (fun vs z => by cases z) s3 (tabF P q) t3
  rw [set_same h] at z
  exact z
/-- not e -/
theorem dtm_not {b : Bool} (he : DM X e Γ (.bool b) Γ') (hv : ∀ whole, isTrue e X.env whole = (do let v ← whole; standAt e.pos; holding [v] (truthy v)) := by intro _; rfl) : DTM X (.UnaryOp .Not e pos) Γ (!b) Γ' := fun B O H σ Q g q' =>
  wT_of (pt_not (pt_val pe_w hv)) (he B O H σ _ g fun v H2 g2 d2 => by
    cases d2
    exact ⟨_, rfl, q' H2 g2⟩)
end
section
variable {P : Program} {w : World} {K : PySem.W.Frag} {mg : Str → Option Value} {base : Heap}
theorem envOf_slot {N : List Str} {ds : List PyData} {i : Nat} {s : SD} (e : (envOf N ds)[i]? = some (some s)) : ∃ x, s = .d x := by
  unfold envOf at e
  by_cases hi : i < ds.length
  · rw [List.getElem?_append_left (by simpa using hi), List.getElem?_map, List.getElem?_eq_getElem hi] at e
    have e' := Option.some.inj e
    cases e'
    exact ⟨_, rfl⟩
  · rw [List.getElem?_append_right (by simpa using hi)] at e
    have := List.getElem?_replicate (a := (none : Option SD)) (n := N.length - ds.length) (i := i - (ds.map (fun d => some (SD.d d))).length)
    rw [this] at e
    split at e
    · cases e
    · cases e
theorem envOf_sgT {O : Addr → Prop} {H : Hp} {N : List Str} {vs : List V} {ds : List PyData} {T : Addr} {q : Str} {j : Nat} (lv : Live O H) (hO : O T) (hT : TabS H T q) (h : DpAll K (hid O H) vs ds) (hj : (envOf N ds)[j]? = some none) :
    Sg K ⟨fun a => O a ∧ a ≠ T, hid (fun a => a = T) H⟩ O H ((L2.start N vs).set j (some .non)) ((envOf N ds).set j (some (.fac .non [T] (tabF T q)))) := by
  have g0 := envOf_sg (N := N) lv h
  have hn : hid (fun a => a = T) H T = none := by
    unfold hid
    rw [if_pos rfl]
  have hjl : j < (envOf N ds).length := (List.getElem?_eq_some_iff.mp hj).1
  refine ⟨hid_sub, fun a h => ?_, fun a h => ⟨h.1, ?_⟩, lv, by rw [List.length_set, List.length_set, g0.len], fun i s e => ?_, fun i k xs ys a h1 h2 h3 h4 => ?_⟩
  · by_cases z : a = T
    · subst z; exact .inr hn
    · exact .inl ⟨h, z⟩
  · obtain ⟨o, e⟩ := lv a h.1
    exact ⟨o, (hid_iff (O := fun a => a = T)).mpr ⟨h.2, e⟩⟩
  · by_cases z : i = j
    · subst z
      rw [List.getElem?_set_self hjl] at e
      have e' := Option.some.inj (Option.some.inj e)
      subst e'
      refine ⟨.non, List.getElem?_set_self (by rw [g0.len]; exact hjl), rfl, fun a ha => ?_, hT⟩
      rw [List.mem_singleton] at ha
      subst ha
      obtain ⟨ps, h1, _⟩ := hT
      exact ⟨hO, hn, _, h1, fun vs z => by cases z⟩
    · rw [List.getElem?_set_ne (Ne.symm z)] at e ⊢
      obtain ⟨v, e1, e2⟩ := g0.slot i s e
      obtain ⟨x, rfl⟩ := envOf_slot e
      exact ⟨v, e1, e2⟩
  · by_cases z : i = j
    · subst z
      rw [List.getElem?_set_self hjl] at h1
      cases h1
    · rw [List.getElem?_set_ne (Ne.symm z)] at h1
      obtain ⟨x, w⟩ := envOf_slot h1
      cases w
/-- a def whose code object is known -/
structure FunC (K : PySem.W.Frag) (x qual : Str) (st : Stmt) (f : Addr) (fd : FuncData) (cdv : Value) : Prop where
  ex : ∃ (oc : Value) (od : Option Addr) (kV doc pm : Value) (an : Option Addr) (ct : Value) (osl : Array (Option Value)),
    fd = PySem.W.fnOf x qual (defArgs st) (defBody st) (defScope st) .none kV doc pm an cdv ct ∧ K.lookup f = some ⟨oc, od, .func fd, osl⟩ ∧ PySem.W.codeIn K cdv qual = true
/-- what is known where a def that makes lambdas hands back -/
def endT (K : PySem.W.Frag) (j : Nat) (T : Addr) (q : Str) (r : PyData) : (Addr → Prop) → Hp → V → Gm → Prop := fun O H v Γ => Γ[j]? = some (some (.fac .non [T] (tabF T q))) ∧ Dp K (hid O H) v r
theorem endT_out {O O' : Addr → Prop} {H H' : Hp} {σ' : L2.St} {Γ' : Gm} {j : Nat} {T : Addr} {q : Str} (g' : Sg K ⟨fun a => O a ∧ a ≠ T, hid (fun a => a = T) H⟩ O' H' σ' Γ') (m : Γ'[j]? = some (some (.fac .non [T] (tabF T q)))) :
    ∃ ps', Same (upd H T (.tbl ps')) H' ∧ TabS H' T q ∧ Same (hid O' H') (hid O H') := by
  obtain ⟨_, _, _, own, hT⟩ := g'.slot j _ m
  have sub : Same (hid O' H') (hid O H') := fun b o z => hid_iff.mpr ⟨fun ob => (hid_iff.mp z).1 (by
    by_cases q1 : b = T
    · subst q1; exact (own _ (by simp)).1
    · exact (g'.fs b ⟨ob, q1⟩).1), (hid_iff.mp z).2⟩
  have hT' : TabS H' T q := hT
  obtain ⟨ps, t1, t2⟩ := hT'
  refine ⟨ps, fun b o z => ?_, hT, sub⟩
  by_cases q1 : b = T
  · subst q1
    rw [upd_same] at z
    cases z
    exact t1
  · rw [upd_ne q1] at z
    exact g'.ext b o ((hid_iff (O := fun a => a = T)).mpr ⟨q1, z⟩)
theorem fn_ofT {x : Str} {st : Stmt} {f T : Addr} {q nm : Str} {fd : FuncData} {cdv : Value} {N ps : List Str} {k j : Nat} {R : List PyData → PyData → Prop} (F : FunC K x x st f fd cdv) (S : FnScope N ps (defScope st)) (len : ∀ ds d, R ds d → ds.length = ps.length)
    (hj : N[j]? = some nm) (hpj : ps.length ≤ j) (hv : ¬ Vis (defScope st) nm)
    (body : ∀ (X : Cx) (A : Around) (outer : List Env) (s : Shared) (H : Hp) (E : XK), X = (cxOf CX0 P w K mg base N x (defScope st) f cdv A outer s H E).nox → Room k X.A → ∀ ds d, R ds d → DS X (defBody st) ((envOf N ds).set j (some (.fac .non [T] (tabF T q)))) { nx := fun _ => False, rt := fun _ => False, rr := endT K j T q d }) : FnOk P w K mg base CX0 (k + 1) f fd ps (spT K T q R) := by
  obtain ⟨oc, od, kV, doc, pm, an, ct, osl, rfl, lk, hcd⟩ := F.ex
  refine L2.fn_of lk hcd S (fun vs H Q E h => ?_) fun A outer s H vs Q E hr h => ?_
  · obtain ⟨O, ds, d, _, _, _, h1, h2, _⟩ := h
    rw [dpAll_len h1, len ds d h2]
  · obtain ⟨O, ds, d, hO, hT, lv, h1, h2, qq⟩ := h
    have hjN : j < N.length := (List.getElem?_eq_some_iff.mp hj).1
    have hds : ds.length ≤ j := by rw [len ds d h2]; exact hpj
    have hjn : (envOf N ds)[j]? = some none := by
      unfold envOf
      rw [List.getElem?_append_right (by simpa using hds), List.getElem?_replicate, if_pos (by simp; omega)]
    refine ⟨_, pss_dummy hj hv .non (pss_w.nox), body _ A outer s H E rfl hr ds d h2 _ O H _ _ (envOf_sgT lv hO hT h1 hjn) ⟨fun _ _ _ _ m => m.elim, fun _ _ _ m => m.elim, fun _ _ _ _ m => m.elim, fun _ _ _ _ m => m.elim, fun _ _ m => m.elim, fun O' H' σ' Γ' v m g' => ?_⟩⟩
    obtain ⟨ps', e1, e2, e3⟩ := endT_out g' m.1
    exact qq v H' ps' e1 e2 (dp_mono e3 _ _ m.2)
theorem Fun.c {x qual : Str} {st : Stmt} {f : Addr} {fd : FuncData} (F : Fun K x qual st f fd) : ∃ cdv, FunC K x qual st f fd cdv := by
  obtain ⟨oc, od, kV, doc, pm, an, cdv, ct, osl, h1, h2, h3⟩ := F.ex
  exact ⟨cdv, ⟨oc, od, kV, doc, pm, an, ct, osl, h1, h2, h3⟩⟩
/-- the law's promise at its call, with the empty table -/
theorem sp_lawT {R : List PyData → PyData → Prop} {H : Hp} {a T : Addr} {q : Str} {ns : List Int} {E : XK} (hT : H T = some (.tbl #[])) (hS : SqL K H a (ns.map V.int)) (hR : R [.list (ns.map .int)] (.bool true)) : spT K T q R [.ref a] H (fun v _ => v = .bl true) E := by
  refine ⟨fun b => b = T, _, _, rfl, .nil hT, fun b h => ⟨.tbl #[], by have h' : b = T := h; rw [h']; exact hT⟩, .cons (.lst (?_) (ints_dpAll ns)) .nil, hR, fun v H2 _ _ _ hd => ?_⟩
  · rcases hS with (h | ⟨o, h⟩) | h
    · exact .inl (.inl (hid_iff.mpr ⟨fun z => (by have z2 : a = T := z; rw [z2, hT] at h; cases h), h⟩))
    · exact .inl (.inr ⟨o, hid_iff.mpr ⟨fun z => (by have z2 : a = T := z; rw [z2, hT] at h; cases h), h⟩⟩)
    · exact .inr h
  · cases hd
    rfl
end
/-! ### truths in a list -/
section
variable {X : Cx} {Γ : Gm} {o e : Expr} {p p' p2 pos ap cp pe : Pos} {bs : List Bool} {z : Bool} {j : Nat}
theorem mt_countB : MtR X "list.count" (fun x xs H Q => ∃ (a : Addr) (bs : List Bool) (z : Bool), x = .ref a ∧ xs = [.bl z] ∧ SqL X.K H a (bs.map V.bl) ∧ Q (.int (bs.countP (· == z) : Nat)) H) := by
  intro pins s σ H x xs v us Q I rx rxs h
  obtain ⟨a, bs, z, rfl, rfl, hs, q⟩ := h
  cases rx
  cases rxs with
  | cons ry rt =>
    cases rt
    obtain ⟨its, rv, ⟨⟨cls, dd, data, sl⟩, n, ho, hc, hdn, hd⟩, hlen⟩ := I.list hs
    simp only at hc hd
    subst hc hd
    have e := vals_bools rv
    subst e
    cases ry
    refine call_meets PySem.F.slot_list_count ⟨_, ho, rfl⟩ PySem.F.entry_list_count (PySem.F.args_list_count_2 _ _) (SeqAt.list_countAt a (bs.map Value.bool).toArray n dd sl (.bool z) (eqU (.bl z)))
      ⟨ho, fun w hw => mem_eqAt (x := .bl z) rfl rfl (bools_vals bs) (flat_bools bs) w (by simpa using hw), ?_⟩
    refine ⟨.int (bs.countP (· == z) : Nat), H, I.tok _, ⟨s.toks, ?_⟩, q⟩
    have ec : List.countP (eqU (.bl z)) (bs.map Value.bool) = bs.countP (· == z) := by
      rw [List.countP_map]
      congr 1
    show Value.int ((List.countP (eqU (.bl z)) (bs.map Value.bool) : Nat) : Int) s.toks = _
    rw [ec]
theorem de_countLB (ho : DR X o Γ (bs.map .bool)) (hb : DE X e Γ (.bool z))
    (hbase : attributeBase o "count" X.env (eval o X.env) = eval o X.env := by rfl)
    (hfew : ((backTo cp (starEach [e] X.env)).all (fun x => !x.1) && (backToKw cp (keywordEach [] X.env)).all (fun x => x.1.isSome) && decide ([e].length + ([] : List Keyword).length + (if ([] : List Keyword).isEmpty then 0 else 1) < 30)) = true := by rfl)
    (hline : (ap.endLine == cp.line) = true := by rfl) (hs : starEach [e] X.env = (false, eval e X.env) :: starEach [] X.env := by rfl) : DE X (.Call (.Attribute o "count" ap) [e] [] cp) Γ (.int (bs.countP (· == z) : Nat)) := fun B O H σ Q g q' =>
  wE_of (pe_bm PySem.F.plainAttrs_list PySem.F.slot_list_count PySem.F.type_list_count mt_countB pe_w (pa_cons pe_w pa_nil hs) hbase hfew hline hs rfl)
    (ho B O H σ _ g fun a vs H2 s2 l2 a2 => ⟨.inl ⟨rfl, _, l2⟩, hb B O H2 σ _ (g.step s2) fun u H3 s3 d3 => by
      cases d3
      have e := dpAll_bl a2
      subst e
      exact ⟨a, bs, z, rfl, rfl, s3.seq l2, q' _ H3 (s2.trans s3) (.int _)⟩⟩)
theorem de_indexLB (ho : DR X o Γ (bs.map .bool)) (hb : DE X e Γ (.bool z)) (hy : bs[j]? = some z) (hno : ∀ m, m < j → bs[m]? ≠ some z)
    (hbase : attributeBase o "index" X.env (eval o X.env) = eval o X.env := by rfl)
    (hfew : ((backTo cp (starEach [e] X.env)).all (fun x => !x.1) && (backToKw cp (keywordEach [] X.env)).all (fun x => x.1.isSome) && decide ([e].length + ([] : List Keyword).length + (if ([] : List Keyword).isEmpty then 0 else 1) < 30)) = true := by rfl)
    (hline : (ap.endLine == cp.line) = true := by rfl) (hs : starEach [e] X.env = (false, eval e X.env) :: starEach [] X.env := by rfl) : DE X (.Call (.Attribute o "index" ap) [e] [] cp) Γ (.int (j : Nat)) := fun B O H σ Q g q' =>
  wE_of (pe_bm PySem.F.plainAttrs_list PySem.F.slot_list_index PySem.F.type_list_index mt_index pe_w (pa_cons pe_w pa_nil hs) hbase hfew hline hs rfl)
    (ho B O H σ _ g fun a vs H2 s2 l2 a2 => ⟨.inl ⟨rfl, _, l2⟩, hb B O H2 σ _ (g.step s2) fun u H3 s3 d3 => by
      cases d3
      have e := dpAll_bl a2
      subst e
      refine ⟨a, _, _, j, .bl z, rfl, rfl, s3.seq l2, rfl, flat_bools bs, by rw [List.getElem?_map, hy]; rfl, by cases z <;> rfl, fun m z' hm hz => ?_, q' _ H3 (s2.trans s3) (.int _)⟩
      rw [List.getElem?_map] at hz
      cases hb2 : bs[m]? with
      | none => rw [hb2] at hz; cases hz
      | some b2 =>
        rw [hb2] at hz
        cases hz
        have := hno m hm
        rw [hb2] at this
        cases b2 <;> cases z <;> first | rfl | exact absurd rfl this⟩)
end
end EY
set_option autoImplicit false
set_option maxHeartbeats 1000000
/-! range with a step; a lambda that is refused -/
namespace EY
open PySem PySem.Spec PyProof.Rows L2 LamX
/-- how many places of range(i, j, c), c above 0 -/
def rngN (i j c : Int) : Nat := (if i < j then (j - i - 1) / c + 1 else 0).toNat
theorem rgC_up {i j c : Int} (h1 : 0 ≤ i ∧ i ≤ 1000000) (h2 : 0 ≤ j ∧ j ≤ 1000000) (h3 : 0 < c ∧ c ≤ 1000000) : RgC i j c (rngN i j c) := by
  have e : Builtin.Range.rangeSize i j c = rngN i j c := by
    unfold Builtin.Range.rangeSize rngN
    rw [if_pos h3.1]
    by_cases q : i < j
    · rw [if_pos q]
      have := Int.ediv_nonneg (a := j - i - 1) (b := c) (by omega) (by omega)
      omega
    · rw [if_neg q]; rfl
  refine ⟨by omega, by omega, ?_, e⟩
  have b1 : rngN i j c ≤ 1000001 := by
    unfold rngN
    split
    · have := Int.ediv_le_self (a := j - i - 1) c (by omega)
      omega
    · simp
  unfold Builtin.Range.small
  rw [e]
  simp only [Builtin.Range.rangeFitsLong, Bool.and_eq_true, Bool.or_eq_true, decide_eq_true_eq, beq_iff_eq, show c > 0 from h3.1, if_true]
  first | omega | (split <;> omega) | (refine ⟨?_, ?_⟩ <;> omega)
section
variable {X : Cx} {Γ Γ' : Gm} {a b c e tg : Expr} {p pos : Pos} {i j k : Int} {d d' : PyData} {rest : List Stmt} {P : Po}
theorem dif_range3 (hm : X.mg "range" = none) (ha : DE X a Γ (.int i)) (hb : DE X b Γ (.int j)) (hc : DE X c Γ (.int k)) (hh : (0 ≤ i ∧ i ≤ 1000000) ∧ (0 ≤ j ∧ j ≤ 1000000) ∧ (0 < k ∧ k ≤ 1000000)) (hg : Gl X "range" := by rfl) (he : starEach [a, b, c] X.env = (false, eval a X.env) :: starEach [b, c] X.env := by rfl) (he2 : starEach [b, c] X.env = (false, eval b X.env) :: starEach [c] X.env := by rfl) (he3 : starEach [c] X.env = (false, eval c X.env) :: starEach [] X.env := by rfl) (hpl : (backTo pos (starEach [b, c] X.env)).any (·.1) = false := by rfl) :
    DIF X tg (.Call (.Name "range" p) [a, b, c] [] pos) Γ (rngN i j k) (fun m => .int (i + m * k)) := fun B O H σ R g q =>
  wI_of (pi_range3 hg hm pa_w he hpl) (da_cons ha (da_cons hb (da_cons hc da_nil he3) he2) he B O H σ _ g fun vs H2 s2 d2 => by
    cases d2 with
    | cons q1 q2 =>
      cases q2 with
      | cons q2 q3 =>
        cases q3 with
        | cons q3 q4 =>
        cases q4
        cases q1
        cases q2
        cases q3
        refine ⟨i, j, k, _, rfl, rgC_up hh.1 hh.2.1 hh.2.2, q _ H2 s2 fun H3 O3 s3 lv => ?_⟩
        refine ⟨fun i hi => hi, Nat.le_refl _, fun i hi x H4 y => ?_⟩
        obtain ⟨rfl, rfl⟩ := y
        exact ⟨Same.refl _, .int _⟩)
/-- return e, where more is to be told -/
theorem ds_retT (he : DE X e Γ d) (hq : d = d') (h : ∀ O H v, Dp X.K (hid O H) v d' → P.rr O H v Γ) : DS X (.Return (some e) pos :: rest) Γ P := ds_retG he (fun O H v hv => h O H v (hq ▸ hv))
end
theorem not_vis {sc : Scope} {x : Str} (h : sc.names.lookup x = none) : ¬ Vis sc x := fun z => by
  rcases z with z | z | z <;> rw [h] at z <;> cases z
/-- the slots that are data -/
def datOf (Γ : Gm) : Gm := Γ.map fun | some (.d x) => some (.d x) | _ => none
theorem dataOf_datOf (Γ : Gm) : DataOf (datOf Γ) Γ := by
  refine ⟨by simp [datOf], fun i s h => ?_⟩
  unfold datOf at h
  rw [List.getElem?_map] at h
  cases hg : Γ[i]? with
  | none => rw [hg] at h; cases h
  | some y =>
    rw [hg] at h
    cases y with
    | none => cases h
    | some sd =>
      cases sd with
      | d x => cases h; exact ⟨x, rfl, rfl⟩
      | own xs => cases h
      | raw w => cases h
      | fac w as f => cases h
/-- a def of two parameters: a deed that raises C, a number; it tells d -/
structure HasRef (P : Program) (w : World) (K : PySem.W.Frag) (mg : Str → Option Value) (base : Heap) (x a b : Str) (st : Stmt) (N : List Str) (C : Value) (kind : Int) (d : PyData) : Prop where
  ex : ∃ g fd, L2.Fun K x x st g fd ∧ mg x = some (.ref g) ∧ Binds K fd [a, b] []
  sc : FnScope N [a, b] (defScope st)
  N0 : N[0]? = some a
  va : Vis (defScope st) a
  rf : ∀ (A : Around) (outer : List Env) (g : Addr) (cdv : Value) (s : Shared) (H : Hp) (f c' : Addr) (q : Str) (D1 : Hp), Act (cxOf CX0 P w K mg base N x (defScope st) g cdv A outer s H E0).nox a f c' q D1 C →
    DS (cxOf CX0 P w K mg base N x (defScope st) g cdv A outer s H E0).nox (defBody st) (envS N [.fac (.ref f) [] (lamF c' q D1), .d (.int kind)]) { nx := fun _ => False, rt := fun d' => d' = d }
section
variable {X : Cx} {Γ : Gm} {d : PyData} {e2 : Expr} {P c : Addr} {w0 : V} {x a b : Str} {k : Nat} {Ng : List Str} {st : Stmt} {params : Arguments} {body : Expr} {scope : Scope} {p lpos pos : Pos} {C : Value} {as : List Addr} {kind : Int}
theorem dm_ref (i : Nat) (HR : HasRef X.prog X.w X.K X.mg X.base x a b st Ng C kind d) (h : Γ[i]? = some (some (.fac w0 as (tabF P (X.env.qual ++ "<lambda>"))))) (only : Only Γ i) (hP : P ∈ as) (TB : TabB X.base X.mg c P) (hcode : X.env.code = .ref c) (L : LamS X.env.scope scope)
    (hbody : ∀ (A : Around) (outer : List Env) (s : Shared) (H : Hp) (E : XK) (f c' : Addr), Room k (A.deeper (lamEnv X scope s.heap.objs.size f c')) → DX (lamCx X A outer s H E scope f c') body (datOf Γ) C)
    (hr : Room (k + 2) X.A) (he : DE X e2 Γ (.int kind))
    (hdef : defaultsOf params X.env = ([], []) := by rfl) (hbind : ∀ (q : Str) (cl : List (Str × Addr)) (pm cv ctv : Value), bindArgs (PySem.W.kla_fn "<lambda>" q params body scope cl pm cv ctv) ⟨[], []⟩ = pure [] := by intros; rfl)
    (hg : Gl X x := by rfl) (hdb : (x == ("__debug__" : Str)) = false := by decide) (hda : (a == ("__debug__" : Str)) = false := by decide) (hcd : (a == ("__classdict__" : Str)) = false := by decide)
    (hst : starEach [.Lambda params body scope lpos, e2] X.env = (false, eval (.Lambda params body scope lpos) X.env) :: starEach [e2] X.env := by rfl) (hst2 : starEach [e2] X.env = (false, eval e2 X.env) :: starEach [] X.env := by rfl) (hpl : (backTo pos (starEach [e2] X.env)).any (·.1) = false := by rfl) :
    DM X (.Call (.Name x p) [.Lambda params body scope lpos, e2] [] pos) Γ d Γ := by
  obtain ⟨g, fd, F, hm, hb⟩ := HR.ex
  exact dm_lam i h only hP TB hcode L (dataOf_datOf Γ) hbody F hm hb HR.sc HR.N0 HR.va hr he (fun cdv s H f c' D1 _ act => HR.rf X.A X.stack g cdv s H f c' _ D1 act) hdef hbind hg hdb hda hcd hst hst2 hpl
end
section
variable {X : Cx} {Γ : Gm} {e : Expr} {p pos : Pos} {ns : List Int}
theorem cr_sumT (hc : X.calm = true) : CallR X (.builtin "sum") (fun vs H Q => ∃ (a : Addr) (ns : List Int), vs = [V.ref a] ∧ SqT X.K H a (ns.map V.int) ∧ Q (.int ns.sum) H) := by
  intro pins s σ H vs us Q I r h
  obtain ⟨a, ns, rfl, hs, q⟩ := h
  obtain ⟨its, rv, hl, _⟩ := I.tuple hs
  rw [Vals.ref1 r]
  have hi := rv.ints
  obtain ⟨xs, hx⟩ := hi.allInts.items
  have hn : numsOf (intItems xs).toList = ns := by rw [← hx]; exact hi.numsOf
  rw [nums_intItems] at hn
  rw [hx] at hl
  refine PySem.W.ktm_sumG (I.ok.hd hc) hl fun h' tk t' hk => ⟨.int _, H, I.kept hk, ⟨t', ?_⟩, q⟩
  rw [preSum_eq, List.take_of_length_le (by simp), hn]
theorem de_sumT (hm : X.mg "sum" = none) (h : DE X e Γ (tupI ns)) (hc : X.calm = true := by rfl) (hg : Gl X "sum" := by rfl) (he : starEach [e] X.env = (false, eval e X.env) :: starEach [] X.env := by rfl) : DE X (.Call (.Name "sum" p) [e] [] pos) Γ (.int ns.sum) := fun B O H σ Q g q =>
  wE_callB (cr_sumT hc) hm PyProof.Rows.boot_sum hg (wA_one he (h B O H σ _ g fun v H2 s2 d2 => by
    cases d2 with
    | tup hs ha =>
      have e := dpAll_ints ha
      subst e
      exact ⟨_, ns, rfl, Same.seqT hid_sub hs, q _ H2 s2 (.int _)⟩)) (by decide) (by decide) he rfl
end
end EY
set_option autoImplicit false
set_option maxHeartbeats 1000000
/-! a dict of data under ints in a slot; tuples that bear no dict (t.count, t.index) -/
namespace EY
open PySem PySem.Spec PyProof.Rows L2
/-! ### a dict in a slot -/
def dicF (K : PySem.W.Frag) (d : Addr) (ms : List (Int × PyData)) : Fac where
  φ H D := ∃ kvs, H d = some (.dK kvs) ∧ DK K D kvs ms
  mono e e' h := let ⟨kvs, h1, h2⟩ := h; ⟨kvs, e _ _ h1, h2.mono e'⟩
  away := fun {H D a vs us} ha h => by
    obtain ⟨kvs, h1, h2⟩ := h
    exact ⟨kvs, (upd_ne (fun z => by rw [z, ha] at h1; cases h1)).trans h1, h2⟩
section
variable {X : Cx} {Γ : Gm} {e f idx value : Expr} {pe p p' p2 pos pos' ap cp : Pos} {x : Str} {d : Addr} {ms : List (Int × PyData)} {as : List Addr} {dd : PyData} {n : Nat} {rest : List Stmt} {P : Po} {k : Int}
/-- x = {} -/
theorem ds_dnew (i : Nat) (hN : X.N.Nodup) (kk : ∀ d, DS X rest (Γ.set i (some (.fac (.ref d) [d] (dicF X.K d [])))) P) (hi : X.N[i]? = some x := by rfl) (hx : Loc X.env.scope x := by first | exact Or.inl rfl | exact Or.inr rfl)
    (hs : swapsWith (.Dict [] [] p2) (some (.Name x p')) pos.line X.env = pure false := by rfl) (hf : X.fn x = true ∨ X.env.scope.names.lookup x = some .local := by first | exact .inl rfl | exact .inr rfl) : DS X (.Assign [.Name x p'] (.Dict [] [] p2) pos :: rest) Γ P := fun B O H σ D g ff =>
  wB_of (pss_cons (ps_set hN hi hx pe_dnewK hs hf) pss_w) fun q hq => kk q B _ _ _ D ((g.grow hq (same_upd hq) ⟨_, upd_same⟩).setFac (as := [q]) (F := dicF X.K q []) (fun a ha => by
    rw [List.mem_singleton] at ha
    subst ha
    exact ⟨.inr rfl, g.ext.free hq, _, upd_same, fun vs z => by cases z⟩) ⟨[], upd_same, .nil⟩) ff
/-- x[idx] -/
theorem de_dgetF (i : Nat) (h : Γ[i]? = some (some (.fac (.ref d) as (dicF X.K d ms)))) (hr : Room n X.A) (hidx : DE X idx Γ (.int k)) (hm : ms.lookup k = some dd)
    (hN : X.N[i]? = some x := by rfl) (hv : Vis X.env.scope x := by first | exact Or.inl rfl | exact Or.inr (Or.inl rfl) | exact Or.inr (Or.inr rfl)) (hd : (x == ("__debug__" : Str)) = false := by decide) (hcd : (x == ("__classdict__" : Str)) = false := by decide) (hs : NoSl idx := by intro _ _; rfl) :
    DE X (.Subscript (.Name x pe) idx pos) Γ dd := fun B O H σ Q g q => by
  obtain ⟨h1, h2⟩ := fac_get g h
  refine wE_of (pe_dget (hu_of hr) (pv i hN hv hd hcd) pe_w hs) ⟨_, h1, hidx B O H σ _ g fun u H3 s3 d3 => ?_⟩
  cases d3
  obtain ⟨h1', kvs, h3, h4⟩ := fac_get (g.step s3) h
  obtain ⟨v, e1, e2⟩ := h4.get hm
  exact ⟨d, v, rfl, .inl ⟨kvs, .inl k, .inl h3, rfl, e1.symm⟩, q v H3 s3 e2⟩
theorem DK.none {K : PySem.W.Frag} {D : Hp} {kvs : List (Key × V)} {ms : List (Int × PyData)} (h : DK K D kvs ms) {k : Int} (e : ms.lookup k = none) : valV kvs (.inl k) = none := by
  induction h with
  | nil => rfl
  | cons h1 _ ih =>
    rename_i k' v' x' kvs' ms' _
    by_cases q : k = k'
    · subst q
      rw [List.lookup_cons_self] at e
      cases e
    · rw [List.lookup_cons, show (k == k') = false by simpa using q] at e
      have e1 := ih e
      unfold valV at e1 ⊢
      rw [List.find?_cons]
      have : decide ((Sum.inl k' : Key) = Sum.inl k) = false := decide_eq_false (fun z => q (Sum.inl.inj z).symm)
      simp only [this]
      exact e1
/-- x.get(e, f) -/
theorem de_dget2F (i : Nat) (h : Γ[i]? = some (some (.fac (.ref d) as (dicF X.K d ms)))) (hr : Room n X.A) (he : DE X e Γ (.int k)) (hf : DE X f Γ dd)
    (hN : X.N[i]? = some x := by rfl) (hv : Vis X.env.scope x := by first | exact Or.inl rfl | exact Or.inr (Or.inl rfl) | exact Or.inr (Or.inr rfl)) (hd : (x == ("__debug__" : Str)) = false := by decide) (hcd : (x == ("__classdict__" : Str)) = false := by decide)
    (m : M2 X (.Name x pe) "get" ap e f cp := by exact ⟨rfl, rfl, rfl, rfl⟩) : DE X (.Call (.Attribute (.Name x pe) "get" ap) [e, f] [] cp) Γ ((ms.lookup k).getD dd) := fun B O H σ Q g q => by
  obtain ⟨h1, kvs0, h20, h21⟩ := fac_get g h
  refine wE_of (pe_dget2 (hu_of hr) (pv i hN hv hd hcd) pe_w pe_w m) ⟨_, h1, d, rfl, .inl ⟨kvs0, .inl h20⟩, he B O H σ _ g fun u H3 s3 d3 => hf B O H3 σ _ (g.step s3) fun u2 H4 s4 d4 => ?_⟩
  cases d3
  obtain ⟨h1', kvs, h3, h4⟩ := fac_get (g.step (s3.trans s4)) h
  refine ⟨_, DGet.k (k := .inl k) h3, ?_⟩
  cases hm : ms.lookup k with
  | none =>
    rw [h4.none hm]
    rw [hm] at q
    exact q u2 H4 (s3.trans s4) d4
  | some y =>
    obtain ⟨v, e1, e2⟩ := h4.get hm
    rw [e1]
    rw [hm] at q
    exact q v H4 (s3.trans s4) e2
/-- x[idx] = value -/
theorem ds_dputF (i : Nat) (h : Γ[i]? = some (some (.fac (.ref d) as (dicF X.K d ms)))) (only : Only Γ i) (hdas : d ∈ as) (hsz : ms.length < 100000) (hr : Room n X.A) (hval : DE X value Γ dd) (hi : DE X idx Γ (.int k))
    (hk : DS X rest (Γ.set i (some (.fac (.ref d) as (dicF X.K d (putM ms k dd))))) P)
    (hN : X.N[i]? = some x := by rfl) (hv : Vis X.env.scope x := by first | exact Or.inl rfl | exact Or.inr (Or.inl rfl) | exact Or.inr (Or.inr rfl)) (hd : (x == ("__debug__" : Str)) = false := by decide) (hcd : (x == ("__classdict__" : Str)) = false := by decide)
    (hs : swapsWith value (some (.Subscript (.Name x pe) idx pos')) pos.line X.env = pure false := by rfl) :
    DS X (.Assign [.Subscript (.Name x pe) idx pos'] value pos :: rest) Γ P := fun B O H σ D g ff => by
  refine wB_of (pss_cons (ps_dput (hu_of hr) (pv i hN hv hd hcd) pe_w pe_w hs) pss_w) (hval B O H σ _ g fun v H1 s1 d1 => ?_)
  obtain ⟨h1, h2⟩ := fac_get (g.step s1) h
  refine ⟨_, h1, hi B O H1 σ _ (g.step s1) fun u H3 s3 d3 => ?_⟩
  cases d3
  have g3 := g.step (s1.trans s3)
  obtain ⟨h1', kvs, h3, h4⟩ := fac_get g3 h
  refine ⟨d, _, rfl, .inl ⟨kvs, .inl k, h3, rfl, Nat.lt_of_lt_of_le (by rw [h4.len]; exact hsz) (by decide), rfl⟩, ?_⟩
  exact hk B O _ σ D (g3.mutFac h only hdas (fun vs z => by cases z) _ ⟨_, upd_same, h4.put (dp_mono (hid_mono s3) _ _ d1)⟩) ff
theorem DK.keysI {K : PySem.W.Frag} {D : Hp} {kvs : List (Key × V)} {ms : List (Int × PyData)} (h : DK K D kvs ms) : kvs.map (·.1) = (ms.map (·.1)).map Sum.inl := by
  induction h with
  | nil => rfl
  | cons _ _ ih =>
    rw [List.map_cons, List.map_cons, List.map_cons, ih]
/-- sorted(x) -/
theorem dl_sortDF (i : Nat) (h : Γ[i]? = some (some (.fac (.ref d) as (dicF X.K d ms)))) (hm : X.mg "sorted" = none) (hl : ms.length < 64) (hc : X.calm = true := by rfl)
    (hN : X.N[i]? = some x := by rfl) (hv : Vis X.env.scope x := by first | exact Or.inl rfl | exact Or.inr (Or.inl rfl) | exact Or.inr (Or.inr rfl)) (hd : (x == ("__debug__" : Str)) = false := by decide) (hcd : (x == ("__classdict__" : Str)) = false := by decide)
    (hg : Gl X "sorted" := by rfl) (he : starEach [.Name x pe] X.env = (false, eval (.Name x pe) X.env) :: starEach [] X.env := by rfl) :
    DL X (.Call (.Name "sorted" p) [.Name x pe] [] pos) Γ ((sortI (ms.map (·.1))).map .int) := fun B O H σ Q g q => by
  obtain ⟨h1, kvs, h3, h4⟩ := fac_get g h
  refine wE_of (pe_callB (call_sortedDI hc) hg hm PyProof.Rows.boot_sorted (pa_cons (pv i hN hv hd hcd) pa_nil he) (by decide) (by decide) he rfl) ⟨_, h1, d, kvs, ms.map (·.1), rfl, .inl h3, h4.keysI, by rw [List.length_map]; exact hl, fun ys l p1 p2 hl' => ?_⟩
  have e := sortI_eq p1 p2
  subst e
  exact q l _ _ hl' (same_upd hl') upd_same (ints_dpAll _)
/-- {k: v, ..}[idx], the keys and values numbers -/
inductive DPs (X : Cx) (Γ : Gm) : List (Option Expr) → List Expr → List (Int × Int) → Prop
  | nil : DPs X Γ [] [] []
  | cons {a b : Expr} {ks : List (Option Expr)} {vs : List Expr} {i j : Int} {ms : List (Int × Int)} : DE X a Γ (.int i) → DE X b Γ (.int j) → DPs X Γ ks vs ms → DPs X Γ (some a :: ks) (b :: vs) ((i, j) :: ms)
def kvI (ms : List (Int × Int)) : List (Key × V) := ms.map fun m => (Sum.inl m.1, V.int m.2)
theorem DPs.run {ks : List (Option Expr)} {vs : List Expr} {ms : List (Int × Int)} (h : DPs X Γ ks vs ms) : ∃ trs, PPs X pos ks vs trs ∧ ∀ (B : Bs) (O : Addr → Prop) (H : Hp) (σ : L2.St) (Q : List (V × V) → Hp → Prop), Sg X.K B O H σ Γ → (∀ H2, Same H H2 → Q ((kvI ms).map fun kv => (kV kv.1, kv.2)) H2) → tPairs trs σ H Q := by
  induction h with
  | nil => exact ⟨_, pps_nil, fun B O H σ Q g q => q H (Same.refl H)⟩
  | cons ha hb _ ih =>
    obtain ⟨trs, h1, h2⟩ := ih
    refine ⟨_, pps_cons pe_w pe_w h1, fun B O H σ Q g q => ha B O H σ _ g fun v H2 s2 d2 => hb B O H2 σ _ (g.step s2) fun u H3 s3 d3 => h2 B O H3 σ _ (g.step (s2.trans s3)) fun H4 s4 => ?_⟩
    cases d2
    cases d3
    exact q H4 ((s2.trans s3).trans s4)
theorem de_disp {ks : List (Option Expr)} {vs : List Expr} {ms : List (Int × Int)} {z : Int} (hr : Room n X.A) (h : DPs X Γ ks vs ms) (hidx : DE X idx Γ (.int k)) (hz : valV (mergeK [] (kvI ms)) (.inl k) = some (.int z))
    (hall : ks.all (·.isSome) = true := by rfl) (hl : ks.length = vs.length := by rfl) (h0 : ks ≠ [] := by intro z; cases z) (h15 : ks.length ≤ 15 := by decide) (hs : NoSl idx := by intro _ _; rfl) (hml : ms.length ≤ 15 := by decide) : DE X (.Subscript (.Dict ks vs p) idx pos) Γ (.int z) := fun B O H σ Q g q => by
  obtain ⟨trs, h1, h2⟩ := h.run (pos := p)
  refine wE_of (pe_dget (hu_of hr) (pe_disp h1 hall hl h0 h15) pe_w hs) fun l hl' => ?_
  refine h2 B O _ σ _ (g.step (same_upd hl')) fun H2 s2 => ⟨s2 _ _ upd_same, kvI ms, rfl, by unfold kvI; rw [List.length_map]; exact hml, ?_⟩
  have sm : Same H (upd H2 l (.dK (mergeK [] (kvI ms)))) := fun b o e => by
    rw [upd_ne (ne_of_none e hl')]
    exact s2 _ _ (same_upd hl' _ _ e)
  refine hidx B O _ σ _ (g.step sm) fun u H3 s3 d3 => ?_
  cases d3
  exact ⟨l, _, rfl, .inl ⟨_, .inl k, .inl (s3 _ _ upd_same), rfl, hz.symm⟩, q _ H3 (sm.trans s3) (.int z)⟩
end
end EY
set_option autoImplicit false
set_option maxHeartbeats 1000000
/-! tuples of numbers that bear no dict: t.count, t.index -/
namespace EY
open PySem PySem.Spec PyProof.Rows L2
/-- a tuple of numbers as it was made -/
def Bt (D : Hp) (q : Addr) (ns : List Int) : Prop := ∃ (its : Array Value) (n : Nat) (sl : Array (Option Value)), D q = some (.frz { cls := .type "tuple", dict := none, data := .seq its n, slots := sl } (.tup (ns.map V.int)))
theorem Bt.mono {D D2 : Hp} (e : Same D D2) {q : Addr} {ns : List Int} (h : Bt D q ns) : Bt D2 q ns := let ⟨a, b, c, h⟩ := h; ⟨a, b, c, e _ _ h⟩
theorem Bt.dp {K : PySem.W.Frag} {D : Hp} {q : Addr} {ns : List Int} (h : Bt D q ns) : Dp K D (.ref q) (tupI ns) := let ⟨a, b, c, h⟩ := h; .tup (.inl (.inr ⟨_, h⟩)) (ints_dpAll ns)
theorem Bt.sq {K : PySem.W.Frag} {D : Hp} {q : Addr} {ns : List Int} (h : Bt D q ns) : SqT K D q (ns.map V.int) := let ⟨a, b, c, h⟩ := h; .inl (.inr ⟨_, h⟩)
def btF (q : Addr) (ns : List Int) : Fac where
  φ _ D := Bt D q ns
  mono _ e h := h.mono e
  away := fun _ h => h
abbrev sB (q : Addr) (ns : List Int) : SD := .fac (.ref q) [] (btF q ns)
/-- an expression is such a tuple -/
def DEB (X : Cx) (e : Expr) (Γ : Gm) (ns : List Int) : Prop := ∀ (B : Bs) (O : Addr → Prop) (H : Hp) (σ : L2.St) (Q : VK), Sg X.K B O H σ Γ → (∀ q H2, Same H H2 → Bt (hid O H2) q ns → Q (.ref q) H2) → wE X e σ H Q
section
variable {X : Cx} {Γ : Gm} {a b e : Expr} {es : List Expr} {p p' p2 pos ap cp pe : Pos} {ns ms : List Int} {z : Int} {n : Nat} {x y : Str} {rest : List Stmt} {P : Po} {q : Addr}
theorem DEB.de (h : DEB X e Γ ns) : DE X e Γ (tupI ns) := fun B O H σ Q g k => h B O H σ Q g fun q H2 s2 b => k _ H2 s2 b.dp
theorem DEB.is (h : DEB X e Γ ns) (z : ns = ms) : DEB X e Γ ms := z ▸ h
theorem deb_var (i : Nat) {as : List Addr} (h : Γ[i]? = some (some (.fac (.ref q) as (btF q ns)))) (hN : X.N[i]? = some x := by rfl) (hv : Vis X.env.scope x := by first | exact Or.inl rfl | exact Or.inr (Or.inl rfl) | exact Or.inr (Or.inr rfl))
    (hd : (x == ("__debug__" : Str)) = false := by decide) (hcd : (x == ("__classdict__" : Str)) = false := by decide) : DEB X (.Name x pos) Γ ns := fun B O H σ Q g k => by
  obtain ⟨h1, h2⟩ := fac_get g h
  exact wE_of (pv i hN hv hd hcd) ⟨_, h1, k q H (Same.refl H) h2⟩
theorem bt_new {O : Addr → Prop} {H : Hp} {p : Addr} {its : Array Value} {n : Nat} {sl : Array (Option Value)} (hO : ¬ O p) : Bt (hid O (upd H p (.frz { cls := .type "tuple", dict := none, data := .seq its n, slots := sl } (.tup (ns.map V.int))))) p ns := ⟨its, n, sl, hid_iff.mpr ⟨hO, upd_same⟩⟩
theorem objOk_frz {P : Program} {w : World} {H : Hp} {h : Heap} {its : List Value} {vs : List V} (hz : vs.length ≤ sizeLine) (r : Vals vs its) :
    ObjOk P w H (h.push { cls := .type "tuple", data := .seq its.toArray }) h.objs.size (.frz { cls := .type "tuple", data := .seq its.toArray } (.tup vs)) := ⟨Heap.get?_push_size _ rfl, hz, its, r, IsTup.new _ _⟩
theorem pe_tupF {x1 : Nat} {t : TA} (h : PA X es t) : PE X (.Tuple es x1 pos) (fun σ H Q => t σ H fun vs H1 => vs.length ≤ 100 ∧ ∀ q its, H1 q = none → Q (.ref q) (upd H1 q (.frz { cls := .type "tuple", data := .seq its } (.tup vs)))) := by
  refine ⟨fun pins s σ H Q I hq => wpAny_Tuple_spliced (thn (h.run pos pins s σ H _ I hq) fun us s1 h1 => ?_)⟩
  obtain ⟨vs, H1, I1, r, z, q⟩ := h1
  have hz : vs.length ≤ sizeLine := Nat.le_trans z (by decide)
  refine ⟨by rw [← r.length]; exact hz, ?_⟩
  exact ⟨.ref s1.heap.objs.size, _, I1.laid (t' := s1.toks) (fun b u e => Heap.get?_push_of_some _ e) (Nat.le_refl _) (objOk_frz hz r), rfl, q _ _ (I1.hok.fresh (Nat.le_refl _))⟩
/-- (e, ..) -/
theorem deb_tup {x1 : Nat} (h : DA X es Γ (ns.map .int)) (hl : ns.length ≤ 100) : DEB X (.Tuple es x1 pos) Γ ns := fun B O H σ Q g k =>
  wE_of (pe_tupF pa_w) (h B O H σ _ g fun vs H2 s2 d2 => by
    have e := dpAll_ints d2
    subst e
    exact ⟨by simpa using hl, fun q its hq => k q _ (s2.trans (same_upd hq)) (bt_new ((g.step s2).fresh hq))⟩)
def rCatF (K : PySem.W.Frag) : R2 := fun x y H Q => ∃ a b xs ys, x = .ref a ∧ y = .ref b ∧ SqT K H a xs ∧ SqT K H b ys ∧ xs.length + ys.length ≤ sizeLine ∧
  (xs = [] → Q (.ref b) H) ∧ (xs ≠ [] → ys = [] → Q (.ref a) H) ∧ (xs ≠ [] → ys ≠ [] → ∀ p its, H p = none → Q (.ref p) (upd H p (.frz { cls := .type "tuple", data := .seq its } (.tup (xs ++ ys)))))
theorem op_catF : OpR X (binaryOp .Add) (rCatF X.K) := by
  intro pins s σ H x y v u Q I rx ry h
  obtain ⟨a, b, xs, ys, rfl, rfl, ha, hb, hz, q0, q1, q2⟩ := h
  cases rx
  cases ry
  obtain ⟨its, r1, p1, _⟩ := I.tuple ha
  obtain ⟨its2, r2, p2, _⟩ := I.tuple hb
  by_cases hx : xs = []
  · subst hx
    cases r1
    exact cat_tup0 p1 p2 ⟨.ref b, H, I, rfl, q0 rfl⟩
  · refine HT.cat_tup p1 p2 (fun z => hx (r1.nil_iff.mp z)) (fun z => ⟨.ref a, H, I, rfl, q1 hx (r2.nil_iff.mp z)⟩) (fun z => ?_) (by rw [← r1.length, ← r2.length]; exact hz)
    exact ⟨.ref s.heap.objs.size, _, I.laid (t' := s.toks) (fun b ob q => Heap.get?_push_of_some _ q) (Nat.le_refl _) (objOk_frz (by rw [List.length_append]; exact hz) (r1.append r2)), rfl, q2 hx (fun w => z (r2.nil_iff.mpr w)) _ _ (I.hok.fresh (Nat.le_refl _))⟩
/-- t + u, u not empty -/
theorem deb_cat (ha : DE X a Γ (tupI ns)) (hb : DEB X b Γ ms) (hm : ms ≠ []) (hl : ns.length + ms.length ≤ 1000) : DEB X (.BinOp a .Add b pos) Γ (ns ++ ms) := fun B O H σ Q g k =>
  wE_of (pe_op op_catF pe_w pe_w) (ha B O H σ _ g fun v H2 s2 d2 => hb B O H2 σ _ (g.step s2) fun q H3 s3 b3 => by
    cases d2 with
    | tup hs1 ha1 =>
      have e := dpAll_ints ha1
      subst e
      refine ⟨_, _, _, _, rfl, rfl, Same.seqT (hid_sub.trans s3) hs1, (b3.mono hid_sub).sq, Nat.le_of_lt (small1000 (by simpa using hl)), fun e => ?_, fun _ e => ?_, fun _ _ p its hp => ?_⟩
      · have : ns = [] := List.map_eq_nil_iff.mp e
        subst this
        exact k q H3 (s2.trans s3) b3
      · exact absurd (List.map_eq_nil_iff.mp e) hm
      · rw [← List.map_append]
        exact k p _ ((s2.trans s3).trans (same_upd hp)) (bt_new ((g.step (s2.trans s3)).fresh hp)))
def rSlF (K : PySem.W.Frag) : V → Option Int → Option Int → Hp → VK → Prop := fun x lo hi H Q => ∃ a xs, x = .ref a ∧ SqT K H a xs ∧
  (HT.sIx xs.length 0 lo = 0 ∧ HT.sIx xs.length xs.length hi = xs.length → Q (.ref a) H) ∧ (¬ (HT.sIx xs.length 0 lo = 0 ∧ HT.sIx xs.length xs.length hi = xs.length) → ∀ p its, H p = none → Q (.ref p) (upd H p (.frz { cls := .type "tuple", data := .seq its } (.tup (cutV xs lo hi)))))
theorem sl_tupF : SlR X (rSlF X.K) := by
  intro pins s σ H x v vl vu lo hi sl Q I rx hs pl pu h
  obtain ⟨a, xs, rfl, hx, q1, q2⟩ := h
  cases rx
  obtain ⟨its, r, ht, hz⟩ := I.tuple hx
  have hlen : its.toArray.size = xs.length := by rw [List.size_toArray]; exact r.length.symm
  refine ⟨"tuple", _, PyProof.Rows.slot_tuple_getitem.lookup, ht.typeIs, ?_⟩
  by_cases hw : HT.sIx xs.length 0 lo = 0 ∧ HT.sIx xs.length xs.length hi = xs.length
  · exact getItem_tuple_whole ht hs pl pu (by rw [hlen]; exact hw) ⟨.ref a, H, I, rfl, q1 hw⟩
  · refine HT.getItem_tuple_cut ht hs pl pu (by rw [hlen]; exact hw) ?_ (by rw [hlen]; exact hz)
    rw [hlen]
    exact ⟨.ref s.heap.objs.size, _, I.laid (t' := s.toks) (fun b ob q => Heap.get?_push_of_some _ q) (Nat.le_refl _) (objOk_frz (Nat.le_trans (cutV_length xs lo hi) hz) ((r.drop (HT.sIx xs.length 0 lo)).take (HT.sIx xs.length xs.length hi - HT.sIx xs.length 0 lo))), rfl, q2 hw _ _ (I.hok.fresh (Nat.le_refl _))⟩
theorem cutV_ints (ns : List Int) (lo hi : Option Int) : cutV (ns.map V.int) lo hi = (cut ns lo hi).map V.int := by
  unfold cutV cut
  rw [List.length_map, List.map_take, List.map_drop]
/-- t[lo:hi] -/
theorem deb_sl {lo hi : Option Expr} {l h : Option Int} (ha : DEB X a Γ ns) (hl : DO X lo Γ l) (hh : DO X hi Γ h) : DEB X (.Subscript a (.Slice lo hi none p2) pos) Γ (cut ns l h) := fun B O H σ Q g k =>
  wE_of (pe_slice sl_tupF pe_w po_w po_w) (ha B O H σ _ g fun q H2 s2 b2 => hl B O H2 σ _ (g.step s2) fun H3 s3 => hh B O H3 σ _ (g.step (s2.trans s3)) fun H4 s4 => by
    have s34 := s3.trans s4
    refine ⟨_, _, rfl, (b2.mono (hid_sub.trans s34)).sq, fun hw => ?_, fun _ p' its hp => ?_⟩
    · rw [List.length_map] at hw
      refine k q H4 (s2.trans s34) ?_
      have e : cut ns l h = ns := by
        unfold cut
        rw [hw.1, hw.2]
        rw [List.drop_zero, Nat.sub_zero, List.take_length]
      rw [e]
      exact b2.mono (hid_mono s34)
    · rw [cutV_ints]
      exact k p' _ ((s2.trans s34).trans (same_upd hp)) (bt_new ((g.step (s2.trans s34)).fresh hp)))
/-- x = e -/
theorem ds_setB (i : Nat) (hN : X.N.Nodup) (he : DEB X e Γ ns) (k : ∀ q, DS X rest (Γ.set i (some (sB q ns))) P) (hi : X.N[i]? = some x := by rfl) (hx : Loc X.env.scope x := by first | exact Or.inl rfl | exact Or.inr rfl)
    (hs : swapsWith e (some (.Name x p')) pos.line X.env = pure false := by rfl) (hf : X.fn x = true ∨ X.env.scope.names.lookup x = some .local := by first | exact .inl rfl | exact .inr rfl) : DS X (.Assign [.Name x p'] e pos :: rest) Γ P := fun B O H σ D g f =>
  wB_of (pss_cons (ps_set hN hi hx pe_w hs hf) pss_w) (he B O H σ _ g fun q H2 s2 b2 => k q B O H2 _ D ((g.step s2).setFac (fun a ha => absurd ha List.not_mem_nil) b2) f)
/-- x, y = e1, e2 -/
theorem ds_parB (i j : Nat) {px py pt pt2 : Pos} {kt k2 : Nat} {d2 : PyData} (hN : X.N.Nodup) (ha : DEB X a Γ ns) (hb : DE X b Γ d2) (k : ∀ q, DS X rest ((Γ.set i (some (sB q ns))).set j (some (.d d2))) P)
    (hij : i ≠ j := by decide) (hc : X.calm = true := by rfl) (hi : X.N[i]? = some x := by rfl) (hj : X.N[j]? = some y := by rfl) (hx : X.env.scope.names.lookup x = some .local := by rfl) (hy : X.env.scope.names.lookup y = some .local := by rfl)
    (hw : swappedStores [.Tuple [.Name x px, .Name y py] kt pt] (.Tuple [a, b] k2 pt2) X.env = pure (some [x, y]) := by rfl)
    (he : starEach [a, b] X.env = (false, eval a X.env) :: starEach [b] X.env := by rfl) (he2 : starEach [b] X.env = (false, eval b X.env) :: starEach [] X.env := by rfl) : DS X (.Assign [.Tuple [.Name x px, .Name y py] kt pt] (.Tuple [a, b] k2 pt2) pos :: rest) Γ P := fun B O H σ D g f =>
  wB_of (pss_cons (ps_par hc hN hi hj hij hx hy (pa_cons pe_w (pa_cons pe_w pa_nil he2) he) hw) pss_w) (ha B O H σ _ g fun q H2 s2 b2 => hb B O H2 σ _ (g.step s2) fun v H3 s3 d3 => by
    refine ⟨_, _, rfl, ?_⟩
    have g3 := g.step (s2.trans s3)
    have g4 := (g3.setFac (i := i) (v := .ref q) (as := []) (F := btF q ns) (fun a ha => absurd ha List.not_mem_nil) (b2.mono (hid_mono s3))).setD (i := j) d3
    first
      | exact k q B O H3 _ D g4 f
      | (rw [List.set_comm _ _ hij] at g4
         exact k q B O H3 _ D (by rw [List.set_comm _ _ hij]; exact g4) f))
/-- return e -/
theorem ds_retB (he : DEB X e Γ ns) (h : ∀ O H q, Bt (hid O H) q ns → P.rr O H (.ref q) Γ) : DS X (.Return (some e) pos :: rest) Γ P := fun B O H σ D g f =>
  wB_of (pss_cons (ps_ret pe_w) pss_w) (he B O H σ _ g fun q H2 s2 b2 => f.rr O H2 σ Γ _ (h O H2 q b2) (g.step s2))
theorem call_tupI {id : String} {name : Str} {te : TE} {r : List Int → V → Hp → VK → Prop} (i : Nat) (slot : Slot "tuple" name id) (hty : typeOf (.builtin id) = pure (.type "method_descriptor"))
    (hm : ∀ (pins : List (Addr × Obj)) (s : Shared) (σ : L2.St) (H : Hp) (q : Addr) (ns : List Int) (its : List Value) (n : Nat) (sl : Array (Option Value)) (y : V) (u : Value) (Q : VK), Inv X pins σ H s → s.heap.get? q = some { cls := .type "tuple", dict := none, data := .seq its.toArray n, slots := sl } → Vals (ns.map V.int) its → RelV y u → r ns y H Q → wpAny (model X.prog X.w) X.A (call (.builtin id) [.ref q, u]) (EP X pins σ Q) X.xe s)
    (he : PE X e te) (hN : X.N[i]? = some x) (hv : Vis X.env.scope x) (hd : (x == ("__debug__" : Str)) = false) (hcd : (x == ("__classdict__" : Str)) = false)
    (hbase : attributeBase (.Name x pe) name X.env (eval (.Name x pe) X.env) = eval (.Name x pe) X.env)
    (hfew : ((backTo cp (starEach [e] X.env)).all (fun x => !x.1) && (backToKw cp (keywordEach [] X.env)).all (fun x => x.1.isSome) && decide ([e].length + ([] : List Keyword).length + (if ([] : List Keyword).isEmpty then 0 else 1) < 30)) = true)
    (hline : (ap.endLine == cp.line) = true) (hs : starEach [e] X.env = (false, eval e X.env) :: starEach [] X.env) :
    PE X (.Call (.Attribute (.Name x pe) name ap) [e] [] cp) (fun σ H Q => ∃ q ns, σ[i]? = some (some (.ref q)) ∧ Bt H q ns ∧ te σ H fun y H2 => Bt H2 q ns ∧ r ns y H2 Q) := by
  refine ⟨fun pins s σ H Q I h => ?_⟩
  obtain ⟨q, ns, h1, ⟨i0, n0, sl0, h2⟩, h3⟩ := h
  refine wpAny_Call_method_late hbase hfew hline rfl (thn ((pe_var (pos := pe) (i := i) hN hv hd hcd).run pins s σ H (fun v H1 => v = .ref q ∧ H1 = H) I ⟨.ref q, h1, rfl, rfl⟩) fun v s1 hq => ?_)
  obtain ⟨w', H1, I1, r1, rfl, rfl⟩ := hq
  obtain rfl : v = Value.ref q := r1
  obtain ⟨hn, _⟩ := I1.hok q _ h2
  refine ⟨"tuple", id, PySem.F.plainAttrs_tuple, slot, hty, ⟨_, hn, rfl⟩, fun a e => by cases e; exact ⟨_, hn, rfl⟩, ?_⟩
  rw [hs]
  refine Calls.callWith_builtin rfl (Calls.evalArgs_plain ?_)
  refine Calls.spliced_cons (thn (he.run pins s1 σ H1 _ I1 h3) fun u s2 h4 => ?_)
  obtain ⟨y, H2, I2, r2, ⟨i5, n5, sl5, h5⟩, h6⟩ := h4
  obtain ⟨hn2, hz, its, rv, o, e1, e2, n6, e3⟩ := I2.hok q _ h5
  rw [hn2] at e1
  cases e1
  cases e3
  exact Calls.spliced_nil (hm pins s2 σ H2 q ns its n5 sl5 y u Q I2 hn2 rv r2 h6)
theorem eqU_ints {its : List Value} {ns : List Int} {z : Int} (r : Vals (ns.map V.int) its) : List.countP (eqU (.int z)) its = ns.count z := by
  induction ns generalizing its with
  | nil => cases r; rfl
  | cons m ns ih =>
    cases r with
    | cons r t =>
      rw [List.countP_cons, List.count_cons, ih t, eqU_of r rfl]
      congr 1
/-- t.count(number) -/
theorem de_countI (i : Nat) {as : List Addr} (h : Γ[i]? = some (some (.fac (.ref q) as (btF q ns)))) (hb : DE X e Γ (.int z)) (hN : X.N[i]? = some x := by rfl) (hv : Vis X.env.scope x := by first | exact Or.inl rfl | exact Or.inr (Or.inl rfl) | exact Or.inr (Or.inr rfl)) (hd : (x == ("__debug__" : Str)) = false := by decide) (hcd : (x == ("__classdict__" : Str)) = false := by decide)
    (hbase : attributeBase (.Name x pe) "count" X.env (eval (.Name x pe) X.env) = eval (.Name x pe) X.env := by rfl)
    (hfew : ((backTo cp (starEach [e] X.env)).all (fun x => !x.1) && (backToKw cp (keywordEach [] X.env)).all (fun x => x.1.isSome) && decide ([e].length + ([] : List Keyword).length + (if ([] : List Keyword).isEmpty then 0 else 1) < 30)) = true := by rfl)
    (hline : (ap.endLine == cp.line) = true := by rfl) (hs : starEach [e] X.env = (false, eval e X.env) :: starEach [] X.env := by rfl) : DE X (.Call (.Attribute (.Name x pe) "count" ap) [e] [] cp) Γ (.int (ns.count z : Nat)) := fun B O H σ Q g q' => by
  obtain ⟨h1, h2⟩ := fac_get g h
  refine wE_of (call_tupI (r := fun ns y H Q => ∃ z, y = .int z ∧ Q (.int (ns.count z : Nat)) H) i PySem.F.slot_tuple_count PySem.F.type_tuple_count ?_ pe_w hN hv hd hcd hbase hfew hline hs) ⟨q, ns, h1, Bt.mono hid_sub h2, hb B O H σ _ g fun u H3 s3 d3 => ?_⟩
  · intro pins s σ H q ns its n sl y u Q I hn rv ry hr
    obtain ⟨z, rfl, hq⟩ := hr
    refine call_meets PySem.F.slot_tuple_count ⟨_, hn, rfl⟩ PySem.F.entry_tuple_count (PySem.F.args_tuple_count_2 _ _) (SeqAt.tuple_countAt q its.toArray n none sl u (eqU (.int z)))
      ⟨hn, fun w hw => mem_eqAt (x := .int z) ry rfl rv (flat_ints ns) w (by simpa using hw), ?_⟩
    refine ⟨.int (ns.count z : Nat), H, I.tok _, ⟨s.toks, ?_⟩, hq⟩
    show Value.int ((List.countP (eqU (.int z)) its : Nat) : Int) s.toks = _
    rw [eqU_ints rv]
  · cases d3
    exact ⟨Bt.mono (hid_sub.trans s3) h2, z, rfl, q' _ H3 s3 (.int _)⟩
/-- t.index(number), which is there -/
theorem de_indexI (i : Nat) {as : List Addr} (h : Γ[i]? = some (some (.fac (.ref q) as (btF q ns)))) (hb : DE X e Γ (.int z)) (hz : z ∈ ns) (hN : X.N[i]? = some x := by rfl) (hv : Vis X.env.scope x := by first | exact Or.inl rfl | exact Or.inr (Or.inl rfl) | exact Or.inr (Or.inr rfl)) (hd : (x == ("__debug__" : Str)) = false := by decide) (hcd : (x == ("__classdict__" : Str)) = false := by decide)
    (hbase : attributeBase (.Name x pe) "index" X.env (eval (.Name x pe) X.env) = eval (.Name x pe) X.env := by rfl)
    (hfew : ((backTo cp (starEach [e] X.env)).all (fun x => !x.1) && (backToKw cp (keywordEach [] X.env)).all (fun x => x.1.isSome) && decide ([e].length + ([] : List Keyword).length + (if ([] : List Keyword).isEmpty then 0 else 1) < 30)) = true := by rfl)
    (hline : (ap.endLine == cp.line) = true := by rfl) (hs : starEach [e] X.env = (false, eval e X.env) :: starEach [] X.env := by rfl) : DE X (.Call (.Attribute (.Name x pe) "index" ap) [e] [] cp) Γ (.int (ns.idxOf z : Nat)) := fun B O H σ Q g q' => by
  obtain ⟨h1, h2⟩ := fac_get g h
  refine wE_of (call_tupI (r := fun ns y H Q => ∃ z, y = .int z ∧ z ∈ ns ∧ Q (.int (ns.idxOf z : Nat)) H) i PySem.F.slot_tuple_index PySem.F.type_tuple_index ?_ pe_w hN hv hd hcd hbase hfew hline hs) ⟨q, ns, h1, Bt.mono hid_sub h2, hb B O H σ _ g fun u H3 s3 d3 => ?_⟩
  · intro pins s σ H q ns its n sl y u Q I hn rv ry hr
    obtain ⟨z, rfl, hmem, hq⟩ := hr
    have hlt : ns.idxOf z < ns.length := List.idxOf_lt_length_of_mem hmem
    have hvl := rv.length
    rw [List.length_map] at hvl
    have hj : ns.idxOf z < its.toArray.size := by simpa using (by omega : ns.idxOf z < its.length)
    have hat : ∀ (m : Nat) (hm : m < its.length), eqU (.int z) its[m] = decide (ns[m]'(by omega) = z) := fun m hm => by
      have hm' : m < ns.length := by omega
      have e1 : (ns.map V.int)[m]? = some (.int ns[m]) := by rw [List.getElem?_map, List.getElem?_eq_getElem hm']; rfl
      obtain ⟨u2, hu2, ru2⟩ := rv.get e1
      rw [List.getElem?_eq_getElem hm] at hu2
      have e2 := Option.some.inj hu2
      rw [e2, eqU_of ru2 rfl]
      rfl
    refine call_meets PySem.F.slot_tuple_index ⟨_, hn, rfl⟩ PySem.F.entry_tuple_index (PySem.F.args_tuple_index_2 _ _) (TI.tuple_indexAt q its.toArray n none sl u (eqU (.int z)) (ns.idxOf z) hj ?_ ?_)
      ⟨hn, fun w hw => mem_eqAt (x := .int z) ry rfl rv (flat_ints ns) w (by simpa using hw), ⟨.int (ns.idxOf z : Nat), H, I.tok _, ⟨_, rfl⟩, hq⟩⟩
    · have := hat (ns.idxOf z) (by omega)
      simp only [List.getElem_toArray]
      rw [this]
      exact decide_eq_true (List.getElem_idxOf hlt)
    · intro m hm hmj
      have hm' : m < its.length := by simpa using hm
      simp only [List.getElem_toArray]
      rw [hat m hm']
      refine decide_eq_false fun w => ?_
      have := List.not_of_lt_findIdx (xs := ns) (p := (· == z)) (i := m) hmj
      simp [w] at this
  · cases d3
    exact ⟨Bt.mono (hid_sub.trans s3) h2, z, rfl, hz, q' _ H3 s3 (.int _)⟩
end
/-! ### defs that hand back such a tuple -/
def spXB (K : PySem.W.Frag) (R : List PyData → List Int → Prop) (XR : List PyData → Value → Prop) : Sp := fun vs H Q E => ∃ (O : Addr → Prop) (ds : List PyData), Live O H ∧ DpAll K (hid O H) vs ds ∧
  ((∃ ns, R ds ns ∧ ∀ q H2, Same H H2 → Bt (hid O H2) q ns → Q (.ref q) H2) ∨ ∃ C, XR ds C ∧ ∀ H2, Same H H2 → E C none H2)
section
variable {X : Cx} {Γ : Gm} {e : Expr} {es : List Expr} {rest : List Stmt} {p p' pos : Pos} {ds : List PyData} {ns : List Int} {x : Str} {P : Po} {k n : Nat} {ps : List Str} {R : List PyData → List Int → Prop} {XR : List PyData → Value → Prop}
theorem deb_call (h : HasX X.prog X.w X.K X.mg X.base k x ps (spXB X.K R XR)) (hr : Room n X.A) (ha : DA X (e :: es) Γ ds) (hR : R ds ns) (hk : k ≤ n := by decide) (hg : Gl X x := by rfl)
    (hdb : (x == ("__debug__" : Str)) = false := by decide) (he : starEach (e :: es) X.env = (false, eval e X.env) :: starEach es X.env := by rfl) (hpl : (backTo pos (starEach es X.env)).any (·.1) = false := by rfl) :
    DEB X (.Call (.Name x p) (e :: es) [] pos) Γ ns := fun B O H σ Q g q => by
  obtain ⟨f, fd, F, hm, hkp, hb⟩ := h.ex
  exact wE_of (pe_call F (hr.mono hk) hg hm hkp hb .nil passX0 pa_w hdb he hpl) (ha B O H σ _ g fun vs H2 s2 d2 => ⟨O, ds, (g.step s2).live, by rw [List.append_nil]; exact d2, .inl ⟨ns, hR, fun v H3 s3 d3 => q v H3 (s2.trans s3) d3⟩⟩)
theorem ds_setRB (i : Nat) {C : Value} {y : Str} {spos : Pos} (hN : X.N.Nodup) (h : HasX X.prog X.w X.K X.mg X.base k x ps (spXB X.K R XR)) (hr : Room n X.A) (ha : DA X (e :: es) Γ ds) (hX : XR ds C) (hP : P.xr C Γ) (hk : k ≤ n := by decide) (hg : Gl X x := by rfl) (hi : X.N[i]? = some y := by rfl) (hx : Loc X.env.scope y := by first | exact Or.inl rfl | exact Or.inr rfl)
    (hf : X.fn y = true ∨ X.env.scope.names.lookup y = some .local := by first | exact .inl rfl | exact .inr rfl)
    (hdb : (x == ("__debug__" : Str)) = false := by decide) (he : starEach (e :: es) X.env = (false, eval e X.env) :: starEach es X.env := by rfl) (hpl : (backTo pos (starEach es X.env)).any (·.1) = false := by rfl) (hs' : swapsWith (.Call (.Name x p) (e :: es) [] pos) (some (.Name y p')) spos.line X.env = pure false := by rfl) :
    DS X (.Assign [.Name y p'] (.Call (.Name x p) (e :: es) [] pos) spos :: rest) Γ P := fun B O H σ D g f => by
  obtain ⟨W, tk, hW⟩ := f.xr C Γ hP
  obtain ⟨fa, fd, F, hm, hkp, hb⟩ := h.ex
  exact wB_of (pss_cons (ps_set hN hi hx pe_w hs' hf) pss_w) (wE_of (pe_callS F (hr.mono hk) hg hm hkp hb (fun σ => passAt tk σ) pa_w hdb he hpl) (ha B O H σ _ g fun vs H2 s2 d2 => ⟨O, ds, (g.step s2).live, d2, .inr ⟨C, hX, fun H3 s3 => hW O H3 σ (g.step (s2.trans s3))⟩⟩))
end
/-- what such a def hands back -/
def endB (ns : List Int) : (Addr → Prop) → Hp → V → Gm → Prop := fun O H v _ => ∃ q, v = .ref q ∧ Bt (hid O H) q ns
section
variable {P : Program} {w : World} {K : PySem.W.Frag} {mg : Str → Option Value} {base : Heap}
theorem fn_ofXB {x : Str} {st : Stmt} {f : Addr} {fd : FuncData} {N ps : List Str} {k : Nat} {R : List PyData → List Int → Prop} {XR : List PyData → Value → Prop} (F : Fun K x x st f fd) (S : FnScope N ps (defScope st)) (len : ∀ ds d, R ds d → ds.length = ps.length) (lenX : ∀ ds C, XR ds C → ds.length = ps.length)
    (body : ∀ (X : Cx) (cdv : Value) (A : Around) (outer : List Env) (s : Shared) (H : Hp) (E : XK), X = cxOf (L2.CX P w) P w K mg base N x (defScope st) f cdv A outer s H E → Room k X.A → ∀ ds, (∀ ns, R ds ns → DS X (defBody st) (envOf N ds) { nx := fun _ => False, rt := fun _ => False, rr := endB ns }) ∧ ∀ C, XR ds C → DS X (defBody st) (envOf N ds) { nx := fun _ => False, rt := fun _ => False, xr := fun C' _ => C' = C }) :
    FnOk P w K mg base (L2.CX P w) (k + 1) f fd ps (spXB K R XR) := by
  refine F.okX S (fun vs H Q E h => ?_) (fun cdv A outer s H vs Q E hr h => ?_)
  · obtain ⟨O, ds, _, h1, h2⟩ := h
    rcases h2 with ⟨d, h2, _⟩ | ⟨C, h2, _⟩
    · rw [dpAll_len h1, len ds d h2]
    · rw [dpAll_len h1, lenX ds C h2]
  · obtain ⟨O, ds, lv, h1, h2⟩ := h
    obtain ⟨b1, b2⟩ := body _ cdv A outer s H E rfl hr ds
    rcases h2 with ⟨d, h2, q⟩ | ⟨C, h2, q⟩
    · refine ⟨_, pss_w, b1 d h2 ⟨O, H⟩ O H _ _ (envOf_sg lv h1) ⟨fun _ _ _ _ m => m.elim, fun _ _ _ m => m.elim, fun _ _ _ _ m => m.elim, fun _ _ _ _ m => m.elim, fun _ _ m => m.elim, fun O' H' σ' Γ' v m g' => ?_⟩⟩
      obtain ⟨q', rfl, hb⟩ := m
      exact q q' H' g'.ext (hb.mono fun b o z => hid_iff.mpr ⟨fun y => (hid_iff.mp z).1 (g'.fs b y).1, (hid_iff.mp z).2⟩)
    · refine ⟨_, pss_w, b2 C h2 ⟨O, H⟩ O H _ _ (envOf_sg lv h1) ⟨fun _ _ _ _ m => m.elim, fun _ _ _ m => m.elim, fun _ _ _ _ m => m.elim, fun _ _ _ _ m => m.elim, fun C' Γ' e => ⟨_, takes_of rfl rfl rfl rfl, fun O' H' σ' g' => ?_⟩, fun _ _ _ _ _ m => m.elim⟩⟩
      subst e
      exact q H' g'.ext
end
/-! ### list.count of numbers -/
section
variable {X : Cx} {Γ : Gm} {o e : Expr} {ap cp : Pos} {ns : List Int} {z : Int}
theorem mt_countI : MtR X "list.count" (fun x xs H Q => ∃ (a : Addr) (ns : List Int) (z : Int), x = .ref a ∧ xs = [.int z] ∧ SqL X.K H a (ns.map V.int) ∧ Q (.int (ns.count z : Nat)) H) := by
  intro pins s σ H x xs v us Q I rx rxs h
  obtain ⟨a, ns, z, rfl, rfl, hs, q⟩ := h
  cases rx
  cases rxs with
  | cons ry rt =>
    rename_i uy ut
    cases rt
    obtain ⟨its, rv, ⟨⟨cls, dd, data, sl⟩, n, ho, hc, hdn, hd⟩, hlen⟩ := I.list hs
    simp only at hc hd
    subst hc hd
    refine call_meets PySem.F.slot_list_count ⟨_, ho, rfl⟩ PySem.F.entry_list_count (PySem.F.args_list_count_2 _ _) (SeqAt.list_countAt a its.toArray n dd sl uy (eqU (.int z)))
      ⟨ho, fun w hw => mem_eqAt (x := .int z) ry rfl rv (flat_ints ns) w (by simpa using hw), ?_⟩
    refine ⟨.int (ns.count z : Nat), H, I.tok _, ⟨s.toks, ?_⟩, q⟩
    show Value.int ((List.countP (eqU (.int z)) its : Nat) : Int) s.toks = _
    rw [eqU_ints rv]
theorem de_countL (ho : DR X o Γ (ns.map .int)) (hb : DE X e Γ (.int z))
    (hbase : attributeBase o "count" X.env (eval o X.env) = eval o X.env := by rfl)
    (hfew : ((backTo cp (starEach [e] X.env)).all (fun x => !x.1) && (backToKw cp (keywordEach [] X.env)).all (fun x => x.1.isSome) && decide ([e].length + ([] : List Keyword).length + (if ([] : List Keyword).isEmpty then 0 else 1) < 30)) = true := by rfl)
    (hline : (ap.endLine == cp.line) = true := by rfl) (hs : starEach [e] X.env = (false, eval e X.env) :: starEach [] X.env := by rfl) : DE X (.Call (.Attribute o "count" ap) [e] [] cp) Γ (.int (ns.count z : Nat)) := fun B O H σ Q g q' =>
  wE_of (pe_bm PySem.F.plainAttrs_list PySem.F.slot_list_count PySem.F.type_list_count mt_countI pe_w (pa_cons pe_w pa_nil hs) hbase hfew hline hs rfl)
    (ho B O H σ _ g fun a vs H2 s2 l2 a2 => ⟨.inl ⟨rfl, _, l2⟩, hb B O H2 σ _ (g.step s2) fun u H3 s3 d3 => by
      cases d3
      have e := dpAll_ints a2
      subst e
      exact ⟨a, ns, z, rfl, rfl, s3.seq l2, q' _ H3 (s2.trans s3) (.int _)⟩⟩)
end
/-! ### data among data -/
section
variable {X : Cx} {Γ : Gm} {a b : Expr} {d : PyData} {ys : List PyData} {k : Nat}
def rInDT (K : PySem.W.Frag) : R2 := fun x y H Q => ∃ d ds, Dp K H x d ∧ Dp K H y (.tuple ds) ∧ SeqAt.shaped d = true ∧ SeqAt.shaped (.tuple ds) = true ∧ Q (.bl (ds.any fun z => PyData.eqv z d)) H
theorem op_inDT (hu : X.A.units + 65 < cLine) : OpR X (compareOp .In) (rInDT X.K) := by
  intro pins s σ H x y v u Q I rx ry h
  obtain ⟨d, ds, hd, he, sd, se, q⟩ := h
  obtain ⟨as, r1⟩ := Dp.reads I d x v hd rx
  obtain ⟨bs, r2⟩ := Dp.reads I (.tuple ds) y u he ry
  exact SeqAt.in_tuple_reads r2 r1 (SeqAt.canLay_of_shaped se) (SeqAt.canLay_of_shaped sd) (room_in_shaped sd hu) ⟨.bl _, H, I, rfl, q⟩
theorem hu65 {A : Around} (hr : Room k A) : A.units + 65 < cLine := by have := hr.un; omega
theorem ce_inDT (hr : Room k X.A) (ha : DE X a Γ d) (hb : DE X b Γ (.tuple ys)) (s1 : SeqAt.shaped d = true) (s2 : SeqAt.shaped (.tuple ys) = true) : CE X a .In b Γ (ys.any fun z => PyData.eqv z d) :=
  ce_of (op_inDT (hu65 hr)) ha hb fun O H x y Q h1 h2 q => ⟨_, _, dp_mono hid_sub _ _ h1, dp_mono hid_sub _ _ h2, s1, s2, q⟩
theorem ce_niDL (hr : Room k X.A) (ha : DE X a Γ d) (hb : DR X b Γ ys) (s1 : SeqAt.shaped d = true) (s2 : SeqAt.shaped (.list ys) = true) : CE X a .NotIn b Γ (!ys.any fun z => PyData.eqv z d) := fun B O H σ Q g q =>
  ha B O H σ _ g fun v H2 e2 d2 => hb B O H2 σ _ (g.step e2) fun p' vs' H3 e3 l3 a3 => wR_of (op_notInD (hu65 hr))
    ⟨_, _, dp_mono (hid_sub.trans e3) _ _ d2, .lst l3 (dpAll_mono hid_sub _ _ a3), s1, s2, q H3 (e2.trans e3)⟩
end
/-! ### a tuple of numbers: data, or such a one -/
def sT : Option Addr → List Int → SD
  | none, ns => .d (tupI ns)
  | some q, ns => sB q ns
section
variable {X : Cx} {Γ : Gm} {pos : Pos} {x : Str} {ns : List Int} {o : Option Addr}
theorem de_varT (i : Nat) (h : Γ[i]? = some (some (sT o ns))) (hN : X.N[i]? = some x := by rfl) (hv : Vis X.env.scope x := by first | exact Or.inl rfl | exact Or.inr (Or.inl rfl) | exact Or.inr (Or.inr rfl))
    (hd : (x == ("__debug__" : Str)) = false := by decide) (hcd : (x == ("__classdict__" : Str)) = false := by decide) : DE X (.Name x pos) Γ (tupI ns) := by
  cases o with
  | none => exact de_var i h hN hv hd hcd
  | some q => exact (deb_var i h hN hv hd hcd).de
theorem deb_varT (i : Nat) (h : Γ[i]? = some (some (sT o ns))) (ho : o ≠ none) (hN : X.N[i]? = some x := by rfl) (hv : Vis X.env.scope x := by first | exact Or.inl rfl | exact Or.inr (Or.inl rfl) | exact Or.inr (Or.inr rfl))
    (hd : (x == ("__debug__" : Str)) = false := by decide) (hcd : (x == ("__classdict__" : Str)) = false := by decide) : DEB X (.Name x pos) Γ ns := by
  cases o with
  | none => exact absurd rfl ho
  | some q => exact deb_var i h hN hv hd hcd
end
end EY
set_option autoImplicit false
set_option maxHeartbeats 1000000
/-! a lambda of one parameter, handed through a def that calls itself -/
namespace EY
open PySem PySem.Spec PyProof.Rows L2 LamX
/-- one parameter, no other name of its own -/
structure LamS1 (sc scope : Scope) (pr : Str) : Prop where
  kind : scope.kind = .function
  co : scope.isCoroutine = false
  gen : scope.isGenerator = false
  own : ∀ y ∈ scope.names, y.2 ≠ .cell
  par : scope.names.lookup pr = some .local
  one : ∀ y ∈ scope.names, y.2 = .local → y.1 = pr
  free : ∀ y ∈ scope.names, y.2 = .free → sc.names.lookup y.1 = some .cell ∨ sc.names.lookup y.1 = some .free
def lamS1B (sc scope : Scope) (pr : Str) : Bool :=
  decide (scope.kind = .function) && !scope.isCoroutine && !scope.isGenerator && decide (scope.names.lookup pr = some .local) && scope.names.all fun y => !decide (y.2 = .cell) && (!decide (y.2 = .local) || decide (y.1 = pr)) && (!decide (y.2 = .free) || decide (sc.names.lookup y.1 = some .cell) || decide (sc.names.lookup y.1 = some .free))
theorem lamS1_by {sc scope : Scope} {pr : Str} (h : lamS1B sc scope pr = true) : LamS1 sc scope pr := by
  unfold lamS1B at h
  simp only [Bool.and_eq_true, Bool.or_eq_true, Bool.not_eq_true', decide_eq_true_eq, decide_eq_false_iff_not, List.all_eq_true] at h
  obtain ⟨⟨⟨⟨h1, h2⟩, h3⟩, h5⟩, h4⟩ := h
  refine ⟨h1, h2, h3, fun y hy => (h4 y hy).1.1, h5, fun y hy e => ?_, fun y hy e => ?_⟩
  · rcases (h4 y hy).1.2 with z | z
    · exact absurd e z
    · exact z
  · rcases (h4 y hy).2 with (z | z) | z
    · exact absurd e z
    · exact .inl z
    · exact .inr z
theorem LamS1.has {X : Cx} {scope : Scope} {pr : Str} (L : LamS1 X.env.scope scope pr) (ok : X.Ok) : ∀ y ∈ scope.names, y.2 = .free → ∃ c, X.env.cells.lookup y.1 = some c := fun y hy e => by
  rcases L.free y hy e with k | k
  · exact ok.has _ (.inl k)
  · exact ok.has _ (.inr k)
/-- the lambda stands, its cells hold what they held where it was made -/
structure LamAt (X : Cx) (σ : L2.St) (scope : Scope) (f : Addr) (o : Obj) (h : Heap) (H : Hp) : Prop where
  fn : h.get? f = some o
  nf : H f = none
  inj : ∀ y z c, (cloFrom X.env.cells scope.names []).lookup y = some c → (cloFrom X.env.cells scope.names []).lookup z = some c → y = z
  has : ∀ y, scope.names.lookup y = some .free → ∃ c, (cloFrom X.env.cells scope.names []).lookup y = some c
  cel : ∀ y c, (cloFrom X.env.cells scope.names []).lookup y = some c → (∃ v, h.IsCell c v) ∧ H c = none
  val : ∀ (i : Nat) y v, X.N[i]? = some y → σ[i]? = some (some v) → scope.names.lookup y = some .free → ∃ u c, RelV v u ∧ (cloFrom X.env.cells scope.names []).lookup y = some c ∧ h.IsCell c (some u)
  len : σ.length = X.N.length
section
variable {X : Cx} {pins : List (Addr × Obj)} {σ : L2.St} {H H' : Hp} {s : Shared} {scope : Scope} {pr : Str} {f c' : Addr} {o : Obj}
theorem lamAt_of (I : Inv X pins σ H s) (L : LamS1 X.env.scope scope pr) (hf : s.heap.get? f = some o) (hfn : H f = none) : LamAt X σ scope f o s.heap H := by
  have hfree := L.has I.ok
  have cm : ∀ {y c}, (cloFrom X.env.cells scope.names []).lookup y = some c → X.env.cells.lookup y = some c := fun {y c} e => by
    rcases cloFrom_mem (PySem.mem_of_lookup e) with hm | ⟨h1, h2⟩
    · cases hm
    · obtain ⟨c1, hc⟩ := hfree _ h1 rfl
      have hc : X.env.cells.lookup y = some c1 := hc
      have e2 : c = c1 := by
        rw [h2, hc] <;> rfl
      rw [e2]
      exact hc
  have look : ∀ {y}, scope.names.lookup y = some .free → ∃ c, (cloFrom X.env.cells scope.names []).lookup y = some c := fun {y} hl => by
    have hy : (y, NameKind.free) ∈ scope.names := PySem.mem_of_lookup hl
    exact mem_lookup (cloFrom_has (cells := X.env.cells) (acc := []) hy)
  refine ⟨hf, hfn, fun y z c e1 e2 => I.ok.inj y z c (cm e1) (cm e2), fun y hy => look hy, fun y c e => ⟨I.cell y c (cm e), I.freeC y c (cm e)⟩, fun i y v e1 e2 k => ?_, I.len⟩
  obtain ⟨m, hn, hl⟩ := I.loc
  have hvis : Vis X.env.scope y := (L.free _ (PySem.mem_of_lookup k) rfl).elim (fun k => .inr (.inl k)) (fun k => .inr (.inr k))
  obtain ⟨w', r, q⟩ := hl i y v e1 e2 hvis
  obtain ⟨c2, h2⟩ := look k
  refine ⟨w', c2, r, h2, ?_⟩
  have c1 := cm h2
  rcases q with ⟨k', _⟩ | ⟨_, c3, e', z⟩
  · have k' : X.env.scope.names.lookup y = some .local := k'
    rcases L.free _ (PySem.mem_of_lookup k) rfl with k2 | k2 <;> rw [show X.env.scope.names.lookup y = _ from k2] at k' <;> cases k'
  · rw [c1] at e'
    cases e'
    exact z
theorem LamAt.un {h h' : Heap} {fs : List Addr} (T : LamAt X σ scope f o h H) (u : Un fs [] H H' h h') (hf : f ∉ fs) : LamAt X σ scope f o h' H' := by
  have ce : ∀ {c v}, H c = none → h.IsCell c v → h'.IsCell c v := fun {c v} n ⟨o, ho, hd⟩ => by
    obtain ⟨sl, q⟩ := u.any ho n (by simp)
    exact ⟨_, q, hd⟩
  refine ⟨u.keep f o T.fn T.nf hf (by simp), u.free f o T.fn T.nf (by simp), T.inj, T.has, fun y c e => ?_, fun i y v e1 e2 k => ?_, T.len⟩
  · obtain ⟨⟨v, hv⟩, n⟩ := T.cel y c e
    refine ⟨⟨v, ce n hv⟩, ?_⟩
    obtain ⟨o, ho, hd⟩ := hv
    exact u.free c o ho n (by simp)
  · obtain ⟨w, c, r, e, hc⟩ := T.val i y v e1 e2 k
    exact ⟨w, c, r, e, ce (T.cel y c e).2 hc⟩
/-- the context of the body of a lambda of one parameter -/
def lamCx1 (X : Cx) (A : Around) (outer : List Env) (s : Shared) (H : Hp) (E : XK) (scope : Scope) (pr : Str) (f c' : Addr) : Cx where
  prog := X.prog
  w := X.w
  K := X.K
  mg := X.mg
  base := X.base
  A := A.deeper (lamEnv X scope s.heap.objs.size f c')
  N := pr :: X.N
  s_0 := s
  H_0 := H
  env := lamEnv X scope s.heap.objs.size f c'
  outer := outer
  stack := lamEnv X scope s.heap.objs.size f c' :: outer
  ex := []
  fn := fun _ => false
  calm := true
  pn := []
  xe := fun e s' => wpAny (model X.prog X.w) (A.deeper (lamEnv X scope s.heap.objs.size f c')) (leaving (lamEnv X scope s.heap.objs.size f c') e) (fun _ s'' => L2.CX X.prog X.w outer H s E e s'') (fun e' s'' => L2.CX X.prog X.w outer H s E e' s'') s'
theorem lam_start1 {A : Around} {outer : List Env} {E : XK} {h₁ : Heap} {tk : Nat} {u : Value} {v : V} (T : LamAt X σ scope f o s.heap H) (L : LamS1 X.env.scope scope pr) (hp : pr ∉ X.N) (e0 : Env0 X.prog X.w X.K X.mg X.base A outer s H) (hd : A.handled = none)
    (hns : h₁.Ns s.heap.objs.size fun y => ([(pr, u)] : List (Str × Value)).reverse.lookup y) (kp : ∀ b o, s.heap.get? b = some o → h₁.get? b = some o) (rv : RelV v u) :
    Inv (lamCx1 X A outer s H E scope pr f c') [] (some v :: σ) H { s with heap := h₁, toks := tk } := by
  have noA : ∀ b : Addr, b ∉ (lamCx1 X A outer s H E scope pr f c').ex := fun b z => absurd (show b ∈ ([] : List Addr) from z) (by simp)
  have ck : ∀ {c v}, s.heap.IsCell c v → h₁.IsCell c v := fun {c v} ⟨o, ho, hd⟩ => ⟨o, kp _ _ ho, hd⟩
  refine ⟨⟨e0.mod, L.kind, rfl, rfl, Nat.le_refl _, fun y z c e1 e2 => T.inj y z c e1 e2, fun y hy => ?_, fun y c z _ => ?_, fun _ => hd, Around.frames_deeper e0.frames, .inr ⟨rfl, rfl⟩, fun b z => absurd z (noA b), e0.bs, e0.bsz, fun b _ _ => noA b,
      fun b z => absurd z (noA b), e0.funs, e0.frf⟩,
    rfl, e0.bare, Un.kept kp, ⟨_, hns, fun i y v' e1 e2 e3 => ?_⟩, fun y c e => ?_, e0.hok.fresh (Nat.le_refl _), fun y c e => ?_, fun q hq => absurd (show q ∈ ([] : List (Addr × Obj)) ++ [] from hq) (by simp), e0.hok.kept kp, ?_⟩
  · have hy : scope.names.lookup y = some .cell ∨ scope.names.lookup y = some .free := hy
    rcases hy with hy | hy
    · exact absurd rfl (L.own _ (PySem.mem_of_lookup hy))
    · exact T.has y hy
  · have z : false = true := z
    cases z
  · have e3 : Vis scope y := e3
    cases i with
    | zero =>
      have e1 : some pr = some y := e1
      have e2 : some (some v) = some (some v') := e2
      cases e1
      cases e2
      refine ⟨u, rv, .inl ⟨L.par, ?_⟩⟩
      simp
    | succ i =>
      have e1 : X.N[i]? = some y := e1
      have e2 : σ[i]? = some (some v') := e2
      rcases e3 with k | k | k
      · have ey : y = pr := L.one _ (PySem.mem_of_lookup k) rfl
        subst ey
        exact (hp (List.mem_of_getElem? (show X.N[i]? = some y from e1))).elim
      · exact absurd rfl (L.own _ (PySem.mem_of_lookup k))
      · obtain ⟨w, c, r, e, hc⟩ := T.val i y v' e1 e2 k
        exact ⟨w, r, .inr ⟨.inr k, c, e, ck hc⟩⟩
  · obtain ⟨⟨v, hv⟩, n⟩ := T.cel y c e
    exact ⟨v, ck hv⟩
  · exact (T.cel y c e).2
  · show σ.length + 1 = X.N.length + 1
    rw [T.len]
end
/-- the slots' data, as they stood where the lambda was made -/
structure Dat (K : PySem.W.Frag) (D1 : Hp) (σ : L2.St) (Γd : Gm) : Prop where
  len : σ.length = Γd.length
  at_ : ∀ (i : Nat) s, Γd[i]? = some (some s) → ∃ x v, s = .d x ∧ σ[i]? = some (some v) ∧ Dp K D1 v x
theorem Dat.of {K : PySem.W.Frag} {B : Bs} {O : Addr → Prop} {H : Hp} {σ : L2.St} {Γ : Gm} (g : Sg K B O H σ Γ) : Dat K (hid O H) σ (datOf Γ) := by
  refine ⟨by rw [g.len]; exact (dataOf_datOf Γ).len.symm, fun i s h => ?_⟩
  obtain ⟨x, rfl, h2⟩ := (dataOf_datOf Γ).at_ i s h
  obtain ⟨v, q1, q2⟩ := g.slot i _ h2
  exact ⟨x, v, rfl, q1, q2⟩
theorem Dat.sg {K : PySem.W.Frag} {O : Addr → Prop} {H D1 : Hp} {σ : L2.St} {Γd : Gm} {v : V} {d : PyData} (a : Dat K D1 σ Γd) (lv : Live O H) (s : Same D1 (hid O H)) (h : Dp K (hid O H) v d) : Sg K ⟨O, H⟩ O H (some v :: σ) (some (.d d) :: Γd) := by
  refine Sg.entry lv (by rw [List.length_cons, List.length_cons, a.len]) fun i t e => ?_
  cases i with
  | zero =>
    have e : some (some (SD.d d)) = some (some t) := e
    cases e
    exact ⟨v, d, rfl, rfl, h⟩
  | succ i =>
    obtain ⟨x, w, rfl, h1, h2⟩ := a.at_ i t e
    exact ⟨w, x, h1, rfl, dp_mono s _ _ h2⟩
abbrev lamO (X : Cx) (params : Arguments) (body : Expr) (scope : Scope) (pm : Value) (c' : Addr) (ctv : Value) : Obj := PySem.W.kla_obj "<lambda>" (X.env.qual ++ "<lambda>") params body scope (cloFrom X.env.cells scope.names []) pm c' ctv
abbrev putZ (P : Program) (w : World) (K : PySem.W.Frag) (mg : Str → Option Value) (base : Heap) (N : List Str) (x : Str) (sc : Scope) (g : Addr) (cdv : Value) (A : Around) (outer : List Env) (s : Shared) (H : Hp) : Cx := (cxOf CX0 P w K mg base N x sc g cdv A outer s H E0).nox
section
variable {X : Cx} {σ : L2.St} {Γ Γd : Gm} {params : Arguments} {body e e1 e2 : Expr} {scope : Scope} {pm ctv cdv : Value} {f c' g : Addr} {Ng : List Str} {x a pr q0 : Str} {sc : Scope} {A : Around} {outer : List Env} {s : Shared} {H D1 : Hp} {k j : Nat} {d d' d1 d2 : PyData} {p p1 p2 p3 pos : Pos}
/-- by(e), in the def that got the lambda -/
theorem de_act1 (T : LamAt X σ scope f (lamO X params body scope pm c' ctv) s.heap H) (hfr : f ∉ frs outer) (L : LamS1 X.env.scope scope pr) (hp : pr ∉ X.N) (dat : Dat X.K D1 σ Γd)
    (hbind : ∀ u, bindArgs (PySem.W.kla_fn "<lambda>" (X.env.qual ++ "<lambda>") params body scope (cloFrom X.env.cells scope.names []) pm (.ref c') ctv) ⟨[u], []⟩ = pure [(pr, u)])
    (hr : Room (k + 1) (A.deeper (envOfC x sc s.heap.objs.size g cdv))) (hj : Γ[j]? = some (some (.fac (.ref f) [] (lamF c' (X.env.qual ++ "<lambda>") D1))))
    (he : DE (putZ X.prog X.w X.K X.mg X.base Ng x sc g cdv A outer s H) e Γ d)
    (hbody : ∀ (A : Around) (outer : List Env) (s : Shared) (H : Hp), Room k (A.deeper (lamEnv X scope s.heap.objs.size f c')) → DE (lamCx1 X A outer s H E0 scope pr f c') body (some (.d d) :: Γd) d')
    (hN : Ng[j]? = some a) (hv : Vis sc a) (hst : starEach [e] (putZ X.prog X.w X.K X.mg X.base Ng x sc g cdv A outer s H).env = (false, eval e (putZ X.prog X.w X.K X.mg X.base Ng x sc g cdv A outer s H).env) :: starEach [] (putZ X.prog X.w X.K X.mg X.base Ng x sc g cdv A outer s H).env)
    (hd : (a == ("__debug__" : Str)) = false := by decide) (hcd : (a == ("__classdict__" : Str)) = false := by decide) :
    DE (putZ X.prog X.w X.K X.mg X.base Ng x sc g cdv A outer s H) (.Call (.Name a p1) [e] [] p2) Γ d' := fun B O HZ σZ Q gz kq => by
  refine ⟨fun pins sZ IZ => ?_⟩
  obtain ⟨f1, f2, f3⟩ := fac_get gz hj
  refine wpAny_Call_Name_kw (thn ((pe_var (pos := p1) (i := j) hN hv hd hcd).run pins sZ σZ HZ (fun v H1 => v = .ref f ∧ H1 = HZ) IZ ⟨.ref f, f1, rfl, rfl⟩) fun u s1 hu => ?_)
  obtain ⟨v, H1, I1, r1, rfl, rfl⟩ := hu
  obtain rfl : u = Value.ref f := r1
  have T1 := T.un (show Un (frs outer) [] H H1 s.heap s1.heap from I1.base) hfr
  refine PySem.W.callWith_F ⟨_, _, _, _, T1.fn⟩ (one_arg pe_w I1 (he B O H1 σZ (fun v H2 => Same H1 H2 ∧ Dp X.K (hid O H2) v d) gz fun v H2 s2 d2 => ⟨s2, d2⟩) (fun u s2 v H2 I2 r2 hq => ?_) hst) hst rfl
  obtain ⟨sm, dv⟩ := hq
  have T2 := T.un (show Un (frs outer) [] H H2 s.heap s2.heap from I2.base) hfr
  refine ⟨⟨_, _, _, _, T2.fn⟩, ?_⟩
  obtain ⟨⟨oc, vs, t, hoc, hdc, hvc⟩, _, _⟩ := I2.hok c' _ (sm _ _ f2)
  have rc : codeAny (model X.prog X.w) (A.deeper (envOfC x sc s.heap.objs.size g cdv)) (.call (.ref f) ⟨[u], []⟩) (CR (L2.CX X.prog X.w) (envOfC x sc s.heap.objs.size g cdv :: outer) X.prog X.w H2 s2 Q E0) s2 := by
    refine PySem.W.kla_callFunE hr.depth T2.fn rfl L.co L.gen rfl ⟨c', oc, vs, t, rfl, hoc, hdc, hvc⟩ ?_
    rw [hbind]
    refine wpAny_pure (wpAny_newFunctionEnv (fun y hy => L.own y hy) (fun y hy => by rw [List.mem_singleton] at hy; rw [hy]; exact L.par) (fun h₁ hns hsb => ⟨I2.nolimit.fresh _ hsb, ?_⟩) L.kind)
    show codeAny _ _ (.expr body (lamEnv X scope s2.heap.objs.size f c')) _ _
    have kp : ∀ b o, s2.heap.get? b = some o → h₁.get? b = some o := fun b o e => hsb.extBut b o (Nat.ne_of_lt (Heap.lt_size e)) (Heap.get?_push_of_some _ e)
    have J : Inv (lamCx1 X (A.deeper (envOfC x sc s.heap.objs.size g cdv)) (envOfC x sc s.heap.objs.size g cdv :: outer) s2 H2 E0 scope pr f c') [] (some v :: σ) H2 { s2 with heap := h₁, toks := s2.toks + ([(pr, u)] : List (Str × Value)).length } :=
      lam_start1 T2 L hp I2.env0 hr.hd hns kp r2
    refine PySem.W.kla_codeExpr (wpAny_mono ((hbody _ _ s2 H2 (hr.deeper _) ⟨O, H2⟩ O H2 (some v :: σ) Q (dat.sg (gz.step sm).live (f3.trans (hid_mono sm)) dv) (fun v H' sm' dv' => kq v H' (sm.trans sm') dv')).run [] _ J) (fun v s' hq => ?_) fun e s' hq => hq)
    obtain ⟨w', H', J', rv, q⟩ := hq
    exact ⟨w', H', J'.os, J'.bare, J'.base, J'.hok, rv, q⟩
  refine wpAny_call (codeAny_mono rc fun r s' hq => ?_)
  cases r with
  | error e => exact passX0 (X := putZ X.prog X.w X.K X.mg X.base Ng x sc g cdv A outer s H) pins σZ H2 s2 e s' I2 hq
  | ok fl =>
    cases fl with
    | ret u => exact I2.after hq
    | next => exact False.elim hq
    | brk => exact False.elim hq
    | cont => exact False.elim hq
end
/-- the def x, at any depth, gives d at the data ds and the lambda -/
def LvOk (X : Cx) (σ : L2.St) (scope : Scope) (f c' : Addr) (o : Obj) (D1 : Hp) (Ng : List Str) (x : Str) (st : Stmt) (k : Nat) (ds : List PyData) (d : PyData) : Prop :=
  ∀ (A : Around) (outer : List Env) (g : Addr) (cdv : Value) (s : Shared) (H : Hp), LamAt X σ scope f o s.heap H → f ∉ frs outer → Room k (A.deeper (envOfC x (defScope st) s.heap.objs.size g cdv)) →
    DS (putZ X.prog X.w X.K X.mg X.base Ng x (defScope st) g cdv A outer s H) (defBody st) (envS Ng (ds.map SD.d ++ [.fac (.ref f) [] (lamF c' (X.env.qual ++ "<lambda>") D1)])) { nx := fun _ => False, rt := fun d' => d' = d }
section
variable {X : Cx} {σ : L2.St} {Γ : Gm} {scope : Scope} {f c' g : Addr} {o : Obj} {Ng ps : List Str} {x a : Str} {st : Stmt} {A : Around} {outer : List Env} {s : Shared} {H D1 : Hp} {k : Nat} {ds : List PyData} {d : PyData} {fd : FuncData}
theorem run_lv (lv : LvOk X σ scope f c' o D1 Ng x st k ds d) (e0 : Env0 X.prog X.w X.K X.mg X.base A outer s H) (T : LamAt X σ scope f o s.heap H) (hfr : f ∉ frs outer) (hr : Room (k + 1) A) (F : L2.Fun X.K x x st g fd) (hb : Binds X.K fd ps []) (S : FnScope Ng ps (defScope st)) (kin : X.K.In s.heap)
    {us : List Value} {vs : List V} (r : Vals vs us) {O : Addr → Prop} (live : Live O H) (ha : ArgsOk X.K O H vs (ds.map SD.d ++ [.fac (.ref f) [] (lamF c' (X.env.qual ++ "<lambda>") D1)])) (hl : ps.length = ds.length + 1) {Q : VK} (qq : ∀ v H', Same H H' → Dp X.K (hid O H') v d → Q v H') :
    codeAny (model X.prog X.w) A (.call (.ref g) ⟨us, []⟩) (CR CX0 outer X.prog X.w H s Q E0) s := by
  obtain ⟨oc, od, kV, doc, pm, an, cdv, ct, osl, rfl, lk, hcg⟩ := F.ex
  have hvl : vs.length = ps.length := by rw [ha.len, hl]; simp
  have hul : us.length = ps.length := by rw [← r.length]; exact hvl
  have hb' := hb s us kin (by rw [List.append_nil]; exact hul)
  rw [List.append_nil] at hb'
  refine run_ofS (N := Ng) (ps := ps) (us := us) (vs := vs) lk hcg S hr e0 hb' r hvl fun hr' => ?_
  exact ⟨_, pss_w.nox, lv A outer g cdv s H T hfr hr' ⟨O, H⟩ O H _ _ (envS_sg live ha) ⟨fun _ _ _ _ m => m.elim, fun H' v d' e sm' hd' => by subst e; exact qq v H' sm' hd', fun _ _ _ _ m => m.elim, fun _ _ _ _ m => m.elim, fun _ _ m => m.elim, fun _ _ _ _ _ m => m.elim⟩⟩
end
section
variable {X : Cx} {σ : L2.St} {Γ : Gm} {e e1 e2 : Expr} {es : List Expr} {scope : Scope} {cdv : Value} {f c' g h' : Addr} {o : Obj} {Ng : List Str} {x a a0 a1 : Str} {st : Stmt} {A : Around} {outer : List Env} {s : Shared} {H D1 : Hp} {k j : Nat} {d d' d1 d2 : PyData} {p p1 p2 p3 pos : Pos} {fd : FuncData}
/-- x(e1, e2, by), in x itself -/
theorem de_again (lv : LvOk X σ scope f c' o D1 Ng x st k [d1, d2] d) (T : LamAt X σ scope f o s.heap H) (hfr : f ∉ frs outer) (hr : Room (k + 1) (A.deeper (envOfC x (defScope st) s.heap.objs.size h' cdv))) (F : L2.Fun X.K x x st g fd) (hm : X.mg x = some (.ref g)) (hb : Binds X.K fd [a0, a1, a] []) (S : FnScope Ng [a0, a1, a] (defScope st))
    (hj : Γ[2]? = some (some (.fac (.ref f) [] (lamF c' (X.env.qual ++ "<lambda>") D1)))) (he1 : DE (putZ X.prog X.w X.K X.mg X.base Ng x (defScope st) h' cdv A outer s H) e1 Γ d1) (he2 : DE (putZ X.prog X.w X.K X.mg X.base Ng x (defScope st) h' cdv A outer s H) e2 Γ d2)
    (hN : Ng[2]? = some a) (hv : Vis (defScope st) a) (hg : (defScope st).names.lookup x = some .globalImplicit) (n1 : notStar e1 = true) (n2 : notStar e2 = true)
    (hpl : (backTo pos (starEach [e2, .Name a p3] (putZ X.prog X.w X.K X.mg X.base Ng x (defScope st) h' cdv A outer s H).env)).any (·.1) = false)
    (hdb : (x == ("__debug__" : Str)) = false := by decide) (hd : (a == ("__debug__" : Str)) = false := by decide) (hcd : (a == ("__classdict__" : Str)) = false := by decide) :
    DE (putZ X.prog X.w X.K X.mg X.base Ng x (defScope st) h' cdv A outer s H) (.Call (.Name x p) [e1, e2, .Name a p3] [] pos) Γ d := fun B O HZ σZ Q gz kq => by
  refine ⟨fun pins sZ IZ => ?_⟩
  have hkp : PySem.W.keepIn X.K (.ref g) = true := F.kp
  refine wpAny_Call_Name_kw (ld_glob IZ hg hm ?_ hdb)
  have ha : DAg (putZ X.prog X.w X.K X.mg X.base Ng x (defScope st) h' cdv A outer s H) [e1, e2, .Name a p3] Γ [.d d1, .d d2, .fac (.ref f) [] (lamF c' (X.env.qual ++ "<lambda>") D1)] := dag_cons he1 (dag_cons he2 (dag_fac 2 hj dag_nil hN hv hd hcd) n2) n1
  refine PySem.W.callWith_K (h₀ := X.base) IZ.ok.mod.kin hkp (thn ((ha B O HZ σZ (fun vs H2 => Same HZ H2 ∧ ArgsOk X.K O H2 vs [.d d1, .d d2, .fac (.ref f) [] (lamF c' (X.env.qual ++ "<lambda>") D1)]) gz fun vs H2 s2 a2 => ⟨s2, a2⟩).run pos pins sZ IZ) fun us s2 h2 => ?_) (star_of n1) hpl
  obtain ⟨vs, H2, I2, r, sm, a2⟩ := h2
  have T2 := T.un (show Un (frs outer) [] H H2 s.heap s2.heap from I2.base) hfr
  have hf2 : f ∉ frs (envOfC x (defScope st) s.heap.objs.size h' cdv :: outer) := fun z => by
    have z' : f ∈ s.heap.objs.size :: frs outer := z
    rcases List.mem_cons.mp z' with z | z
    · have := Heap.lt_size T.fn
      rw [z] at this
      exact Nat.lt_irrefl _ this
    · exact hfr z
  have rc := run_lv (ps := [a0, a1, a]) lv I2.env0 T2 hf2 hr F hb S I2.kIn r (gz.step sm).live a2 rfl (Q := Q) fun v H' s' dv => kq v H' (sm.trans s') dv
  refine ⟨I2.kIn, wpAny_call (codeAny_mono rc fun r s3 hq => ?_)⟩
  cases r with
  | error e => exact (show False from hq).elim
  | ok fl =>
    cases fl with
    | ret u => exact I2.after hq
    | next => exact False.elim hq
    | brk => exact False.elim hq
    | cont => exact False.elim hq
end
end EY
set_option autoImplicit false
set_option maxHeartbeats 1000000
namespace EY
open PySem PySem.Spec PyProof.Rows L2 LamX
/-- by(e), known at the data that r tells -/
def ActA (Z : Cx) (a : Str) (f c' : Addr) (q : Str) (D1 : Hp) (r : PyData → PyData → Prop) : Prop := ∀ (Γ : Gm) (e : Expr) (d d' : PyData) (p1 p2 : Pos), Γ[2]? = some (some (.fac (.ref f) [] (lamF c' q D1))) → DE Z e Γ d → r d d' →
  starEach [e] Z.env = (false, eval e Z.env) :: starEach [] Z.env → DE Z (.Call (.Name a p1) [e] [] p2) Γ d'
/-- x(e1, e2, by), e2 the empty way -/
def ActB (Z : Cx) (x a : Str) (f c' : Addr) (q : Str) (D1 : Hp) (r : PyData → PyData → Prop) : Prop := ∀ (Γ : Gm) (e1 e2 : Expr) (d d' : PyData) (p p3 pos : Pos), Γ[2]? = some (some (.fac (.ref f) [] (lamF c' q D1))) → DE Z e1 Γ d → DE Z e2 Γ (tupI []) → r d d' →
  notStar e1 = true → notStar e2 = true → (backTo pos (starEach [e2, .Name a p3] Z.env)).any (·.1) = false → DE Z (.Call (.Name x p) [e1, e2, .Name a p3] [] pos) Γ d'
/-- the def that puts what a lambda tells at a place -/
structure HasPut (P : Program) (w : World) (K : PySem.W.Frag) (mg : Str → Option Value) (base : Heap) (x a0 a1 a : Str) (st : Stmt) (N : List Str) : Prop where
  ex : ∃ g fd, L2.Fun K x x st g fd ∧ mg x = some (.ref g) ∧ Binds K fd [a0, a1, a] []
  sc : FnScope N [a0, a1, a] (defScope st)
  N2 : N[2]? = some a
  va : Vis (defScope st) a
  gl : (defScope st).names.lookup x = some .globalImplicit
  b0 : ∀ (A : Around) (outer : List Env) (g : Addr) (cdv : Value) (s : Shared) (H : Hp) (f c' : Addr) (q : Str) (D1 : Hp) (r : PyData → PyData → Prop) (d d' : PyData), Room 0 (A.deeper (envOfC x (defScope st) s.heap.objs.size g cdv)) → ActA (putZ P w K mg base N x (defScope st) g cdv A outer s H) a f c' q D1 r → r d d' →
    DS (putZ P w K mg base N x (defScope st) g cdv A outer s H) (defBody st) (envS N [.d d, .d (tupI []), .fac (.ref f) [] (lamF c' q D1)]) { nx := fun _ => False, rt := fun y => y = d' }
  b1 : ∀ (A : Around) (outer : List Env) (g : Addr) (cdv : Value) (s : Shared) (H : Hp) (f c' : Addr) (q : Str) (D1 : Hp) (r : PyData → PyData → Prop) (row : List Int) (i : Nat) (d' : PyData), Room 0 (A.deeper (envOfC x (defScope st) s.heap.objs.size g cdv)) → ActB (putZ P w K mg base N x (defScope st) g cdv A outer s H) x a f c' q D1 r → i < row.length → row.length ≤ 40 → r (.int (row.getD i 0)) d' →
    DS (putZ P w K mg base N x (defScope st) g cdv A outer s H) (defBody st) (envS N [.d (tupI row), .d (tupI [(i : Int)]), .fac (.ref f) [] (lamF c' q D1)]) { nx := fun _ => False, rt := fun y => y = .tuple ((row.take i).map .int ++ [d'] ++ (row.drop (i + 1)).map .int) }
/-- what the def makes of a row (or a thing at the empty way) -/
inductive PutR (r : PyData → PyData → Prop) : PyData → PyData → PyData → Prop
  | here {d d' : PyData} : r d d' → PutR r d (tupI []) d'
  | in_ {row : List Int} {i : Nat} {d' : PyData} : i < row.length → row.length ≤ 40 → r (.int (row.getD i 0)) d' → PutR r (tupI row) (tupI [(i : Int)]) (.tuple ((row.take i).map .int ++ [d'] ++ (row.drop (i + 1)).map .int))
section
variable {X : Cx} {Γ : Gm} {d d1 d2 : PyData} {e1 e2 : Expr} {P c : Addr} {w0 : V} {x a0 a1 a pr : Str} {k : Nat} {Ng : List Str} {st : Stmt} {params : Arguments} {body : Expr} {scope : Scope} {p lpos pos : Pos} {as : List Addr} {r : PyData → PyData → Prop}
theorem dm_put (i : Nat) (HR : HasPut X.prog X.w X.K X.mg X.base x a0 a1 a st Ng) (h : Γ[i]? = some (some (.fac w0 as (tabF P (X.env.qual ++ "<lambda>"))))) (only : Only Γ i) (hP : P ∈ as) (TB : TabB X.base X.mg c P) (hcode : X.env.code = .ref c) (L : LamS1 X.env.scope scope pr) (hp : pr ∉ X.N)
    (hbody : ∀ (A : Around) (outer : List Env) (s : Shared) (H : Hp) (f c' : Addr) (y y' : PyData), r y y' → Room k (A.deeper (lamEnv X scope s.heap.objs.size f c')) → DE (lamCx1 X A outer s H E0 scope pr f c') body (some (.d y) :: datOf Γ) y')
    (hr : Room (k + 3) X.A) (he1 : DE X e1 Γ d1) (he2 : DE X e2 Γ d2) (hR : PutR r d1 d2 d)
    (hdef : defaultsOf params X.env = ([], []) := by rfl) (hbind : ∀ (q : Str) (cl : List (Str × Addr)) (pm cv ctv u : Value), bindArgs (PySem.W.kla_fn "<lambda>" q params body scope cl pm cv ctv) ⟨[u], []⟩ = pure [(pr, u)] := by intros; rfl)
    (hg : Gl X x := by rfl) (hdb : (x == ("__debug__" : Str)) = false := by decide) (hda : (a == ("__debug__" : Str)) = false := by decide) (hcd : (a == ("__classdict__" : Str)) = false := by decide)
    (hst : starEach [e1, e2, .Lambda params body scope lpos] X.env = (false, eval e1 X.env) :: starEach [e2, .Lambda params body scope lpos] X.env := by rfl) (hst2 : starEach [e2, .Lambda params body scope lpos] X.env = (false, eval e2 X.env) :: starEach [.Lambda params body scope lpos] X.env := by rfl)
    (hst3 : starEach [.Lambda params body scope lpos] X.env = (false, eval (.Lambda params body scope lpos) X.env) :: starEach [] X.env := by rfl) (hpl : (backTo pos (starEach [e2, .Lambda params body scope lpos] X.env)).any (·.1) = false := by rfl) :
    DM X (.Call (.Name x p) [e1, e2, .Lambda params body scope lpos] [] pos) Γ d Γ := fun B O H σ Q gs kk => by
  obtain ⟨g, fd, F, hm, hb⟩ := HR.ex
  have hkp : PySem.W.keepIn X.K (.ref g) = true := F.kp
  refine ⟨fun pins s I => ?_⟩
  refine wpAny_Call_Name_kw (ld_glob I hg hm ?_ hdb)
  refine PySem.W.callWith_K (h₀ := X.base) I.ok.mod.kin hkp ?_ hst hpl
  refine args_cons (thn ((he1 B O H σ (fun v H2 => Same H H2 ∧ Dp X.K (hid O H2) v d1) gs fun v H2 s2 d2 => ⟨s2, d2⟩).run pins s I) fun u1 t1 z1 => ?_) hst
  obtain ⟨v1, H1, I1, r1, m1, q1⟩ := z1
  refine args_cons (thn ((he2 B O H1 σ (fun v H2 => Same H1 H2 ∧ Dp X.K (hid O H2) v d2) (gs.step m1) fun v H2 s2 d2 => ⟨s2, d2⟩).run pins t1 I1) fun u2 t2 z2 => ?_) hst2
  obtain ⟨v2, H2, I2, r2, m2, q2⟩ := z2
  have gs2 := (gs.step m1).step m2
  obtain ⟨_, hT⟩ := fac_get gs2 h
  refine args_cons (lam_make3 I2 TB hcode hT hdef (L.has I2.ok) fun f c' pm' ctv ps' H3 s3 I3 sm T3 hf hfn hfr hco => args_nil ?_) hst3
  have gs3 : Sg X.K B O H3 σ Γ := by
    have z := gs2.mutMore h only hP (o := .tbl ps') (fun vs z => by cases z) sm (tabF P (X.env.qual ++ "<lambda>")) T3
    rw [set_same h] at z
    exact z
  have hO : O P := by
    obtain ⟨_, _, _, own, _⟩ := gs2.slot i _ h
    exact (own P hP).1
  have hs : Same (hid O H2) (hid O H3) := fun b ob e => by
    obtain ⟨e1, e2⟩ := hid_iff.mp e
    refine hid_iff.mpr ⟨e1, sm _ _ ?_⟩
    have nb : b ≠ P := fun z => e1 (by rw [z]; exact hO)
    rw [upd_ne nb]
    exact e2
  have T := lamAt_of I3 L hf hfn
  have dat := Dat.of gs3
  have aA : ∀ {Ng' : List Str} {x' : Str} {sc' : Scope} (A : Around) (outer : List Env) (g : Addr) (cdv : Value) (s : Shared) (H : Hp), LamAt X σ scope f (lamO X params body scope pm' c' ctv) s.heap H → f ∉ frs outer → Room (k + 1) (A.deeper (envOfC x' sc' s.heap.objs.size g cdv)) → Ng'[2]? = some a → Vis sc' a →
      ActA (putZ X.prog X.w X.K X.mg X.base Ng' x' sc' g cdv A outer s H) a f c' (X.env.qual ++ "<lambda>") (hid O H3) r := fun A outer g cdv s H T0 hfr0 hr0 hN0 hv0 Γ0 e y y' p1 p2 hj hy hyy hs0 =>
    de_act1 T0 hfr0 L hp dat (fun u => hbind _ _ _ _ _ u) hr0 hj hy (fun A outer s H hr1 => hbody A outer s H f c' y y' hyy hr1) hN0 hv0 hs0 hda hcd
  have lv0 : ∀ y y', r y y' → LvOk X σ scope f c' (lamO X params body scope pm' c' ctv) (hid O H3) Ng x st (k + 1) [y, tupI []] y' := fun y y' hy A outer g' cdv s H T0 hfr0 hr0 =>
    HR.b0 A outer g' cdv s H f c' _ _ r y y' (hr0.mono (Nat.zero_le _)) (aA A outer g' cdv s H T0 hfr0 hr0 HR.N2 HR.va) hy
  have lv : LvOk X σ scope f c' (lamO X params body scope pm' c' ctv) (hid O H3) Ng x st (k + 2) [d1, d2] d := by
    cases hR with
    | here hy => exact fun A outer g' cdv s H T0 hfr0 hr0 => lv0 _ _ hy A outer g' cdv s H T0 hfr0 (hr0.mono (Nat.le_succ _))
    | in_ h1 h2 h3 =>
      intro A outer g' cdv s H T0 hfr0 hr0
      refine HR.b1 A outer g' cdv s H f c' _ _ r _ _ _ (hr0.mono (Nat.zero_le _)) (fun Γ0 e1 e2 y y' p p3 pos hj hy1 hy2 hyy n1 n2 hpl0 => ?_) h1 h2 h3
      exact de_again (lv0 y y' hyy) T0 hfr0 hr0 F hm hb HR.sc hj hy1 hy2 HR.N2 HR.va HR.gl n1 n2 hpl0 hdb hda hcd
  have rc := run_lv (ps := [a0, a1, a]) (us := [u1, u2, .ref f]) (vs := [v1, v2, .ref f]) lv I3.env0 T hfr hr F hb HR.sc I3.kIn (.cons r1 (.cons r2 (.cons rfl .nil))) gs3.live (.cons (dp_mono ((hid_mono m2).trans hs) _ _ q1) (.cons (dp_mono hs _ _ q2) (.cons ⟨rfl, rfl, hco, Same.refl _⟩ .nil))) rfl (Q := Q) fun v H' s' dv => kk v H' (gs3.step s') dv
  refine ⟨I3.kIn, wpAny_call (codeAny_mono rc fun r s4 hq => ?_)⟩
  cases r with
  | error e => exact (show False from hq).elim
  | ok fl =>
    cases fl with
    | ret u => exact I3.after hq
    | next => exact False.elim hq
    | brk => exact False.elim hq
    | cont => exact False.elim hq
end
end EY
set_option autoImplicit false
set_option maxHeartbeats 1000000
/-! things, and how they are spoilt -/
namespace M
open EY L2 PySem
def wholeIn (size : Int) : PyData → Bool
  | .int i => decide (0 ≤ i) && decide (i < size)
  | _ => false
def isRowP (d : PyData) (size : Int) : Bool := match d with
  | .tuple xs => decide (xs.length ≤ 30) && xs.all (wholeIn size)
  | _ => false
theorem isRow_same (d : PyData) (size : Int) : isRowP d size = isRow d size := by
  cases d with
  | tuple xs =>
    show (decide (xs.length ≤ 30) && xs.all (wholeIn size)) = (decide (xs.length ≤ 30) && xs.all fun x => isNum x 0 (size - 1))
    congr 1
    refine all_congr fun x _ => ?_
    cases x with
    | int i =>
      show (decide (0 ≤ i) && decide (i < size)) = (decide (0 ≤ i) && decide (i ≤ size - 1))
      congr 1
      rw [decide_eq_decide]
      omega
    | _ => rfl
  | _ => rfl
def oddL1 : List PyData := [.int (-1), .int 0, .int 1, .int 2, .int 12, .int 13, .bool true, .bool false, .none, .str "", .str "a", tupI [], lstI [], tupI [0], .tuple [.bool true], tupI [13], tupI [-1], lstI [0], .tuple [.none]]
def oddL2 : List PyData := [tupI [0, 1], tupI (List.replicate 30 [1]).flatten, tupI (List.replicate 31 [0]).flatten, .tuple [.str "0"], .tuple [tupI []], .tuple [.int 0, .bool false]]
def oddL : List PyData := oddL1 ++ oddL2
def odd (number : Int) : PyData := oddL.getD (number % 25).toNat .none
def spInt (n number : Int) : PyData := if number / 6 % 2 = 0 then ([.str (strI n), .int (-n), .int (n + 1), .bool (decide (n = 1)), .int (n + 13)] : List PyData).getD (number / 12 % 5).toNat .none else odd (number / 6)
def spTup (ns : List Int) (number deep : Int) : PyData :=
  if 0 < deep ∧ 0 < ns.length ∧ 0 < number % 6 then
    .tuple ((ns.take (number / 6 % ns.length).toNat).map .int ++ [spInt (ns.getD (number / 6 % ns.length).toNat 0) (number / 186)] ++ (ns.drop (number / 6 % ns.length + 1).toNat).map .int)
  else if 0 < ns.length ∧ number / 6 % 2 = 0 then
    ([lstI ns, tupI ns.dropLast, tupI (ns ++ cut ns (some (-1)) none), tupI (ns.drop 1), tupI ns.reverse, tupI (List.replicate 3 ns).flatten] : List PyData).getD (number / 12 % 6).toNat .none
  else odd (number / 6)
def okD (d : PyData) : Prop := d.canLay0 = true ∧ d.depth ≤ 8
theorem getD_all {P : PyData → Prop} {xs : List PyData} (h : ∀ x ∈ xs, P x) (h0 : P .none) (i : Nat) : P (xs.getD i .none) := by
  rw [List.getD_eq_getElem?_getD]
  cases e : xs[i]? with
  | none => exact h0
  | some x => exact h x (List.mem_of_getElem? e)
theorem ok_none : okD .none := ⟨by decide +kernel, by decide +kernel⟩
theorem ok_int (i : Int) : okD (.int i) := ⟨by simp [PyData.canLay0], by simp [PyData.depth]⟩
theorem ok_bool (i : Bool) : okD (.bool i) := ⟨by simp [PyData.canLay0], by simp [PyData.depth]⟩
theorem ok_str {n : Int} (h : 0 ≤ n ∧ n ≤ 12) : okD (.str (strI n)) := by
  have e : n = 0 ∨ n = 1 ∨ n = 2 ∨ n = 3 ∨ n = 4 ∨ n = 5 ∨ n = 6 ∨ n = 7 ∨ n = 8 ∨ n = 9 ∨ n = 10 ∨ n = 11 ∨ n = 12 := by omega
  rcases e with e | e | e | e | e | e | e | e | e | e | e | e | e <;> subst e <;> exact ⟨by decide +kernel, by simp [PyData.depth]⟩
theorem ok_tupI (ns : List Int) : okD (tupI ns) := by
  have h1 := canLay_ints ns
  have h2 := depth_ints ns
  refine ⟨by simp [PyData.canLay0, h1], ?_⟩
  simp [PyData.depth]
  omega
theorem ok_lstI (ns : List Int) : okD (lstI ns) := by
  have h1 := canLay_ints ns
  have h2 := depth_ints ns
  refine ⟨by simp [PyData.canLay0, h1], ?_⟩
  simp [PyData.depth]
  omega
theorem odd_ok (n : Int) : okD (odd n) := by
  refine getD_all (P := okD) (fun x hx => ?_) ok_none _
  have : ∀ x ∈ oddL, x.canLay0 = true ∧ x.depth ≤ 8 := by
    have h : (oddL.all fun x => x.canLay0 && decide (x.depth ≤ 8)) = true := by decide +kernel
    intro x hx
    have := List.all_eq_true.mp h x hx
    simpa using this
  exact this x hx
theorem spInt_ok {n : Int} (number : Int) (hn : 0 ≤ n ∧ n ≤ 12) : okD (spInt n number) := by
  unfold spInt
  split
  · refine getD_all (P := okD) (fun x hx => ?_) ok_none _
    simp at hx
    rcases hx with h | h | h | h | h <;> subst h
    · exact ok_str hn
    · exact ok_int _
    · exact ok_int _
    · exact ok_bool _
    · exact ok_int _
  · exact odd_ok _
theorem ok_shaped {d : PyData} (h : okD d) : SeqAt.shaped d = true := by
  unfold SeqAt.shaped
  rw [h.1]
  have := h.2
  simp
  omega
theorem spTup_shaped {ns : List Int} {size : Int} (number deep : Int) (hn : Nums size ns) (hs : 0 < size ∧ size ≤ 13) : SeqAt.shaped (spTup ns number deep) = true := by
  unfold spTup
  split
  · refine shaped_tuple.mpr fun x hx => ?_
    have : okD x := by
      rcases List.mem_append.mp hx with hx | hx
      · rcases List.mem_append.mp hx with hx | hx
        · obtain ⟨i, _, rfl⟩ := List.mem_map.mp hx
          exact ok_int i
        · have : x = _ := List.mem_singleton.mp hx
          rw [this]
          have := hn.get hs.1 (number / 6 % ns.length).toNat
          exact spInt_ok _ ⟨by omega, by omega⟩
      · obtain ⟨i, _, rfl⟩ := List.mem_map.mp hx
        exact ok_int i
    exact ⟨this.1, by have := this.2; omega⟩
  · split
    · refine ok_shaped (getD_all (P := okD) (fun x hx => ?_) ok_none _)
      simp only [List.mem_cons, List.not_mem_nil, or_false] at hx
      rcases hx with h | h | h | h | h | h <;> subst h
      · exact ok_lstI _
      · exact ok_tupI _
      · exact ok_tupI _
      · exact ok_tupI _
      · exact ok_tupI _
      · exact ok_tupI _
    · exact ok_shaped (odd_ok _)
end M
namespace M
open EY PySem
theorem all_range_getD (xs : List PyData) (f : PyData → Bool) : (List.range xs.length).all (id ∘ fun i => f (xs.getD i .none)) = xs.all f := by
  have h : (List.range xs.length).map (fun i => xs.getD i .none) = xs := by
    apply List.ext_getElem (by simp)
    intro i h1 h2
    simp at h1
    simp [List.getD_eq_getElem?_getD, List.getElem?_eq_getElem h1]
  conv => rhs; rw [← h]
  rw [List.all_map]
  rfl
end M
set_option autoImplicit false
/-! what is bent at a place -/
namespace M
open EY PySem
def othTL (row : List Int) : List PyData := [lstI row, lstI row, tupI (row ++ row.take 1)] ++ [tupI (row.drop 1), .list [tupI row]]
def othT (row : List Int) (n : Int) : PyData := (othTL row).getD (n % 5).toNat .none
def othIL (x : Int) : List PyData := [.bool true, .none, .str (strI x), .tuple [.int x]] ++ [.int (-1 - x)]
def othI (x n : Int) : PyData := (othIL x).getD (n % 5).toNat .none
/-- the ways into a row -/
def waysL (way : List Int) (k : Nat) : List PyData := tupI way :: (List.range k).map fun (i : Nat) => tupI (way ++ [(i : Int)])
def bent (row : List Int) (number : Int) : PyData :=
  match (number % ((row.length : Int) + 1)).toNat with
  | 0 => othT row (number / 4096)
  | i + 1 => .tuple ((row.take i).map .int ++ [othI (row.getD i 0) (number / 4096)] ++ (row.drop (i + 1)).map .int)
/-- what the lambda tells -/
inductive BentR (n : Int) : PyData → PyData → Prop
  | t {row : List Int} : row.length ≤ 40 → BentR n (tupI row) (othT row n)
  | i {x : Int} : 0 ≤ x ∧ x ≤ 12 → BentR n (.int x) (othI x n)
theorem ways_len (way : List Int) (k : Nat) : (waysL way k).length = k + 1 := by simp [waysL]
theorem ways_succ (way : List Int) (k : Nat) : waysL way (k + 1) = waysL way k ++ [tupI (way ++ [(k : Int)])] := by
  unfold waysL
  rw [List.range_succ, List.map_append]
  rfl
/-- the way, and what is put there -/
theorem bent_put {row : List Int} {size : Int} (number : Int) (hn : Nums size row) (hs : 0 < size ∧ size ≤ 13) (hl : row.length ≤ 40) :
    ∃ way : List Int, (waysL [] row.length).getD (number % ((row.length : Int) + 1)).toNat .none = tupI way ∧ PutR (BentR (number / 4096)) (tupI row) (tupI way) (bent row number) := by
  have h0 : 0 ≤ number % ((row.length : Int) + 1) := Int.emod_nonneg _ (by omega)
  have h1 : number % ((row.length : Int) + 1) < (row.length : Int) + 1 := Int.emod_lt_of_pos _ (by omega)
  unfold bent
  cases e : (number % ((row.length : Int) + 1)).toNat with
  | zero => exact ⟨[], rfl, .here (.t hl)⟩
  | succ i =>
    have hi : i < row.length := by omega
    refine ⟨[(i : Int)], ?_, .in_ hi hl (.i ?_)⟩
    · unfold waysL
      rw [List.getD_cons_succ, List.getD_eq_getElem?_getD, List.getElem?_map, List.getElem?_range hi]
      rfl
    · have := hn.get hs.1 i
      exact ⟨by omega, by omega⟩
theorem othI_ok {x : Int} (n : Int) (hx : 0 ≤ x ∧ x ≤ 12) : okD (othI x n) := by
  refine getD_all (P := okD) (fun y hy => ?_) ok_none _
  simp only [othIL, List.cons_append, List.nil_append, List.mem_cons, List.not_mem_nil, or_false] at hy
  rcases hy with h | h | h | h | h <;> subst h
  · exact ok_bool _
  · exact ok_none
  · exact ok_str hx
  · exact ok_tupI [x]
  · exact ok_int _
theorem othT_shaped (row : List Int) (n : Int) : SeqAt.shaped (othT row n) = true := by
  refine ok_shaped (getD_all (P := okD) (fun y hy => ?_) ok_none _)
  simp only [othTL, List.cons_append, List.nil_append, List.mem_cons, List.not_mem_nil, or_false] at hy
  rcases hy with h | h | h | h | h <;> subst h
  · exact ok_lstI _
  · exact ok_lstI _
  · exact ok_tupI _
  · exact ok_tupI _
  · have h1 := canLay_ints row
    have h2 := depth_ints row
    refine ⟨by simp [PyData.canLay0, PyData.canLayAll0, h1], ?_⟩
    simp [PyData.depth, PyData.depthAll]
    omega
theorem bent_shaped {row : List Int} {size : Int} (number : Int) (hn : Nums size row) (hs : 0 < size ∧ size ≤ 13) : SeqAt.shaped (bent row number) = true := by
  unfold bent
  split
  · exact othT_shaped _ _
  · rename_i i _
    refine shaped_tuple.mpr fun x hx => ?_
    have : okD x := by
      rcases List.mem_append.mp hx with hx | hx
      · rcases List.mem_append.mp hx with hx | hx
        · obtain ⟨i, _, rfl⟩ := List.mem_map.mp hx
          exact ok_int i
        · have : x = _ := List.mem_singleton.mp hx
          rw [this]
          have := hn.get hs.1 i
          exact othI_ok _ ⟨by omega, by omega⟩
      · obtain ⟨i, _, rfl⟩ := List.mem_map.mp hx
        exact ok_int i
    exact ⟨this.1, by have := this.2; omega⟩
end M

set_option maxHeartbeats 2000000
namespace K
open PySem L2 EY
def topS (i : Nat) : Stmt := PySem.Challenge.pw_echoyard_k09_lists_anywhere.main.body.getD i (.Pass ⟨0, 0, 0, 0⟩)
abbrev q_t : Str := ("_law_spoilt" ++ ".<locals>.") ++ "<lambda>"
section
variable {P : Program} {w : World} {K : PySem.W.Frag} {mg : Str → Option Value} {base : Heap}
abbrev s__law_cell_at : Stmt := topS 6
abbrev N__law_cell_at : List Str := ["script", "k"]
theorem sc__law_cell_at : FnScope N__law_cell_at ["script", "k"] (defScope s__law_cell_at) := ⟨rfl, rfl, rfl, by decide +kernel, rfl, by decide +kernel, by decide +kernel⟩
def R__law_cell_at : List PyData → PyData → Prop := fun ds d => ∃ (script : List Int) (k : Int), ds = [lstI script, .int k] ∧ (0 ≤ k) ∧ d = .int (M.cellAt script k)
theorem fn__law_cell_at {f : Addr} {fd : FuncData} (F : Fun K "_law_cell_at" "_law_cell_at" s__law_cell_at f fd) (B : Blt mg) : FnOk P w K mg base CX0 1 f fd ["script", "k"] (spD K R__law_cell_at) := by
  refine EY.fn_of F sc__law_cell_at (fun ds d h => by obtain ⟨_, _, rfl, _⟩ := h; rfl) ?_
  rintro X cdv A outer s H E rfl hr ds d ⟨script, k, rfl, hk, rfl⟩
  show DS _ (defBody s__law_cell_at) [Option.some (.d (lstI script)), Option.some (.d (.int k))] _
  refine ds_when (CE.dt (ce_lt (de_var 1 rfl) (de_lenLI B.len (DE.dr (de_var 0 rfl))))) (fun hc => ?_) (fun hc => ?_)
  · have hc' := of_decide_eq_true hc
    refine ds_ret (de_ixLI (DE.dr (de_var 0 rfl)) (de_var 1 rfl) (by first | exact atI_back (by omega) | exact atI_nth (by omega) (by omega))) ?_
    show PyData.int _ = PyData.int _
    rw [M.cellAt, if_pos hc']
  · have hc' := of_decide_eq_false hc
    refine ds_ret de_int ?_
    show PyData.int _ = PyData.int _
    rw [M.cellAt, if_neg hc']
abbrev s__law_mixed : Stmt := topS 7
abbrev N__law_mixed : List Str := ["script", "k", "drawn"]
theorem sc__law_mixed : FnScope N__law_mixed ["script", "k"] (defScope s__law_mixed) := ⟨rfl, rfl, rfl, by decide +kernel, rfl, by decide +kernel, by decide +kernel⟩
def R__law_mixed : List PyData → PyData → Prop := fun ds d => ∃ (script : List Int) (k : Int), ds = [lstI script, .int k] ∧ (0 ≤ k) ∧ d = .int (M.mixed script k)
theorem fn__law_mixed {f : Addr} {fd : FuncData} (F : Fun K "_law_mixed" "_law_mixed" s__law_mixed f fd) (B : Blt mg) (H__law_cell_at : Has P w K mg base 1 "_law_cell_at" ["script", "k"] (spD K R__law_cell_at)) : FnOk P w K mg base CX0 2 f fd ["script", "k"] (spD K R__law_mixed) := by
  refine EY.fn_of F sc__law_mixed (fun ds d h => by obtain ⟨_, _, rfl, _⟩ := h; rfl) ?_
  rintro X cdv A outer s H E rfl hr ds d ⟨script, k, rfl, hk, rfl⟩
  show DS _ (defBody s__law_mixed) [Option.some (.d (lstI script)), Option.some (.d (.int k)), none] _
  refine ds_set 2 sc__law_mixed.nd (de_mod (de_mul (de_add (de_add (de_call H__law_cell_at hr (da_cons (de_var 0 rfl) (da_cons (de_var 1 rfl) da_nil)) ⟨_, _, rfl, (by first | omega | assumption | decide), rfl⟩) (de_mul de_int (de_var 1 rfl) (.inl ⟨by decide, by decide⟩))) de_int) de_int (.inr ⟨by decide, by decide⟩)) de_int (by decide)) ?_
  try dsimp only [List.set]
  have h := M.emod_ok (x := (M.cellAt script k + 7919 * k + 1) * 48271) (size := 2147483647) (by decide)
  refine ds_ret (de_mod (de_add (de_add (de_mul (de_var 2 rfl) (de_var 2 rfl) ((by first | exact .inl ⟨by omega, by omega⟩ | exact .inr ⟨by omega, by omega⟩))) (de_mul de_int (de_var 2 rfl) (.inl ⟨by decide, by decide⟩))) (de_var 1 rfl)) de_int (by decide)) ?_
  rfl
abbrev s__law_drawn : Stmt := topS 8
abbrev N__law_drawn : List Str := ["number", "k", "drawn"]
theorem sc__law_drawn : FnScope N__law_drawn ["number", "k"] (defScope s__law_drawn) := ⟨rfl, rfl, rfl, by decide +kernel, rfl, by decide +kernel, by decide +kernel⟩
def R__law_drawn : List PyData → PyData → Prop := fun ds d => ∃ (number : Int) (k : Int), ds = [.int number, .int k] ∧ d = .int (M.drawn number k)
theorem fn__law_drawn {f : Addr} {fd : FuncData} (F : Fun K "_law_drawn" "_law_drawn" s__law_drawn f fd) (B : Blt mg) : FnOk P w K mg base CX0 1 f fd ["number", "k"] (spD K R__law_drawn) := by
  refine EY.fn_of F sc__law_drawn (fun ds d h => by obtain ⟨_, _, rfl, _⟩ := h; rfl) ?_
  rintro X cdv A outer s H E rfl hr ds d ⟨number, k, rfl, rfl⟩
  show DS _ (defBody s__law_drawn) [Option.some (.d (.int number)), Option.some (.d (.int k)), none] _
  refine ds_set 2 sc__law_drawn.nd (de_mod (de_mul (de_add (de_add (de_var 0 rfl) (de_mul de_int (de_var 1 rfl) (.inl ⟨by decide, by decide⟩))) de_int) de_int (.inr ⟨by decide, by decide⟩)) de_int (by decide)) ?_
  try dsimp only [List.set]
  have h := M.emod_ok (x := (number + 104729 * k + 17) * 69621) (size := 2147483647) (by decide)
  refine ds_ret (de_mod (de_add (de_add (de_mul (de_var 2 rfl) (de_var 2 rfl) ((by first | exact .inl ⟨by omega, by omega⟩ | exact .inr ⟨by omega, by omega⟩))) (de_mul de_int (de_var 2 rfl) (.inl ⟨by decide, by decide⟩))) (de_var 1 rfl)) de_int (by decide)) ?_
  rfl
abbrev s__law_numbers : Stmt := topS 11
abbrev N__law_numbers : List Str := ["number", "size", "many", "rare", "found", "k", "drawn"]
theorem sc__law_numbers : FnScope N__law_numbers ["number", "size", "many"] (defScope s__law_numbers) := ⟨rfl, rfl, rfl, by decide +kernel, rfl, by decide +kernel, by decide +kernel⟩
def R__law_numbers : List PyData → PyData → Prop := fun ds d => ∃ (number : Int) (size : Int) (many : Int), ds = [.int number, .int size, .int many] ∧ (0 < size) ∧ (size ≤ 1000) ∧ (0 ≤ many) ∧ (many ≤ 100) ∧ d = tupI (M.numbers number size many)
theorem fn__law_numbers {f : Addr} {fd : FuncData} (F : Fun K "_law_numbers" "_law_numbers" s__law_numbers f fd) (B : Blt mg) (H__law_drawn : Has P w K mg base 1 "_law_drawn" ["number", "k"] (spD K R__law_drawn)) : FnOk P w K mg base CX0 2 f fd ["number", "size", "many"] (spD K R__law_numbers) := by
  refine EY.fn_of F sc__law_numbers (fun ds d h => by obtain ⟨_, _, _, rfl, _⟩ := h; rfl) ?_
  rintro X cdv A outer s H E rfl hr ds d ⟨number, size, many, rfl, hs, hs2, hm0, hm, rfl⟩
  show DS _ (defBody s__law_numbers) [Option.some (.d (.int number)), Option.some (.d (.int size)), Option.some (.d (.int many)), none, none, none, none] _
  refine ds_set 3 sc__law_numbers.nd (de_mod (de_var 0 rfl) de_int (by decide)) ?_
  try dsimp only [List.set]
  refine ds_own 4 sc__law_numbers.nd (DL.is (ys := List.map PyData.int []) (dl_lst da_nil (Nat.le_of_ble_eq_true rfl)) rfl) ?_
  try dsimp only [List.set]
  refine ds_for (dif_range1 B.range (de_var 2 rfl) (by first | omega | assumption | decide) (by first | omega | assumption | decide)) (fun i Γ => ∃ y z, Γ = [some (.d (.int number)), some (.d (.int size)), some (.d (.int many)), some (.d (.int (number % 3))), some (.own (((List.range i).map (M.numOne number size)).map .int)), y, z]) ⟨_, _, rfl⟩ ?_ ?_
  · rintro i Γ hi ⟨y, z, rfl⟩
    refine ⟨_, _, (dg_name 5 sc__law_numbers.nd), ?_⟩
    refine ds_set 6 sc__law_numbers.nd (de_call H__law_drawn hr (da_cons (de_var 0 rfl) (da_cons (de_var 5 rfl) da_nil)) ⟨_, _, rfl, rfl⟩) ?_
    try dsimp only [List.set]
    refine ds_app 4 rfl (de_mul (de_mod (de_fdiv (de_var 6 rfl) de_int (⟨by decide, by decide⟩)) (de_var 1 rfl) ((by first | omega | assumption | decide))) (de_intB B.int (de_or (CE.de (ce_gt (de_var 3 rfl) de_int)) (fun _ => (de_one (CE.de (ce_eq (de_mod (de_var 6 rfl) de_int (by decide)) de_int)))))) ((by have h1 := M.emod_ok (x := M.drawn number i / 8) hs; have h2 := M.b2z_ok (decide (0 < number % 3) || decide (M.drawn number i % 5 = 0)); exact .inl ⟨by omega, by omega⟩))) ?_ (by first | omega | assumption | (simp; omega))
    try dsimp only [List.set]
    refine ds_nil ⟨some (.d (.int i)), some (.d (.int (M.drawn number i))), ?_⟩
    rw [List.range_succ, List.map_append, List.map_append]
    try rfl
  · rintro Γ ⟨y, z, rfl⟩
    refine ds_ret (de_tupLI B.tuple (DB.dr (db_var 4 rfl))) ?_
    rfl
abbrev s__law_next : Stmt := topS 10
abbrev N__law_next : List Str := ["row", "rule", "size", "at", "part"]
theorem sc__law_next : FnScope N__law_next ["row", "rule", "size"] (defScope s__law_next) := ⟨rfl, rfl, rfl, by decide +kernel, rfl, by decide +kernel, by decide +kernel⟩
def R__law_next : List PyData → PyData → Prop := fun ds d => ∃ (row : List Int) (rule : List Int) (size : Int), ds = [tupI row, tupI rule, .int size] ∧ (0 < size) ∧ (size ≤ 1000) ∧ (M.Nums size rule) ∧ (rule.length ≤ row.length) ∧ (rule.length ≤ 1000) ∧ d = .int (M.nextBy row rule size)
theorem fn__law_next {f : Addr} {fd : FuncData} (F : Fun K "_law_next" "_law_next" s__law_next f fd) (B : Blt mg) : FnOk P w K mg base CX0 1 f fd ["row", "rule", "size"] (spD K R__law_next) := by
  refine EY.fn_of F sc__law_next (fun ds d h => by obtain ⟨_, _, _, rfl, _⟩ := h; rfl) ?_
  rintro X cdv A outer s H E rfl hr ds d ⟨row, rule, size, rfl, hs, hs2, hn, hl, hl2, rfl⟩
  show DS _ (defBody s__law_next) [Option.some (.d (tupI row)), Option.some (.d (tupI rule)), Option.some (.d (.int size)), none, none] _
  refine ds_ret (de_mod (de_sum B.sum (DL.dr (DL.is (Comp.dl (comp_of (own := [("at", 3), ("part", 4)]) sc__law_next.nd (DIF.dic (dif_enumI B.enumerate (de_var 1 rfl))) (blkOk_by (N := N__law_next) (sc := defScope s__law_next) (by decide +kernel)) _ _ _ (by first | omega | assumption | (simp; omega)) (fun i hi _ _ _ _ _ => (dg_tup2 (dg_name 3 sc__law_next.nd) (dg_name 4 sc__law_next.nd))) (by decide) (fun i hi _ _ _ _ _ => dts_nil) (fun i hi hf _ _ _ _ _ => (de_mul (de_var 4 rfl) (de_ixI (de_var 0 rfl) (de_sub (de_neg de_int) (de_var 3 rfl)) (by first | exact atI_back (by omega) | exact atI_nth (by omega) (by omega))) ((by have := M.Nums.get hn hs i; exact .inl ⟨by omega, by omega⟩)))))) (gathI _ _)))) (de_var 2 rfl) ((by first | omega | assumption | decide))) ?_
  rfl
abbrev s__law_made : Stmt := topS 12
abbrev N__law_made : List Str := ["start", "rule", "size", "many", "found"]
theorem sc__law_made : FnScope N__law_made ["start", "rule", "size", "many"] (defScope s__law_made) := ⟨rfl, rfl, rfl, by decide +kernel, rfl, by decide +kernel, by decide +kernel⟩
def R__law_made : List PyData → PyData → Prop := fun ds d => ∃ (start : List Int) (rule : List Int) (size : Int) (many : Int), ds = [tupI start, tupI rule, .int size, .int many] ∧ (0 < size) ∧ (size ≤ 1000) ∧ (M.Nums size rule) ∧ (rule.length ≤ start.length) ∧ (start.length ≤ 100) ∧ (0 ≤ many) ∧ (many ≤ 100) ∧ d = tupI (M.made start rule size many)
theorem fn__law_made {f : Addr} {fd : FuncData} (F : Fun K "_law_made" "_law_made" s__law_made f fd) (B : Blt mg) (H__law_next : Has P w K mg base 1 "_law_next" ["row", "rule", "size"] (spD K R__law_next)) : FnOk P w K mg base CX0 2 f fd ["start", "rule", "size", "many"] (spD K R__law_made) := by
  refine EY.fn_of F sc__law_made (fun ds d h => by obtain ⟨_, _, _, _, rfl, _⟩ := h; rfl) ?_
  rintro X cdv A outer s H E rfl hr ds d ⟨start, rule, size, many, rfl, hs, hs2, hn, hl, hl2, h0, hm, rfl⟩
  show DS _ (defBody s__law_made) [Option.some (.d (tupI start)), Option.some (.d (tupI rule)), Option.some (.d (.int size)), Option.some (.d (.int many)), none] _
  refine ds_set 4 sc__law_made.nd (de_var 0 rfl) ?_
  try dsimp only [List.set]
  refine ds_while (fun m Γ => ∃ n : Nat, Γ = [some (.d (tupI start)), some (.d (tupI rule)), some (.d (.int size)), some (.d (.int many)), some (.d (tupI (M.more rule size n start)))] ∧ n + m = many.toNat - start.length) (many.toNat - start.length) ⟨0, rfl, by omega⟩ ?_
  rintro m Γ ⟨n, rfl, hnm⟩
  have hlen := M.more_len rule size n start
  refine ⟨_, (CE.dt (ce_lt (de_lenI B.len (de_var 4 rfl)) (de_var 3 rfl))), fun hc => ?_, fun hc => ?_⟩
  · have hc' := of_decide_eq_true hc
    refine ds_set 4 sc__law_made.nd (de_catI (de_var 4 rfl) (DE.is (d' := tupI [_]) (de_tup (da_cons (de_call H__law_next hr (da_cons (de_var 4 rfl) (da_cons (de_var 1 rfl) (da_cons (de_var 2 rfl) da_nil))) ⟨_, _, _, rfl, (by first | omega | assumption | decide), (by first | omega | assumption | decide), (by first | assumption | omega), (by first | omega | assumption | decide), (by first | omega | assumption | decide), rfl⟩) da_nil) (Nat.le_of_ble_eq_true rfl)) rfl) (by first | omega | assumption | (simp; omega))) ?_
    try dsimp only [List.set]
    refine ds_nil ⟨m - 1, by omega, n + 1, ?_, by omega⟩
    rw [M.more_succ]
    try rfl
  · have hc' := of_decide_eq_false hc
    refine ds_ret (de_slI (de_var 4 rfl) do_none (do_some (de_var 3 rfl))) ?_
    show tupI _ = tupI _
    rw [cut_to _ h0]
    have e : n = many.toNat - start.length := by omega
    rw [M.made, e]
abbrev s__law_row : Stmt := topS 13
abbrev N__law_row : List Str := ["number", "size", "most", "many", "rule", "row", "at"]
theorem sc__law_row : FnScope N__law_row ["number", "size", "most"] (defScope s__law_row) := ⟨rfl, rfl, rfl, by decide +kernel, rfl, by decide +kernel, by decide +kernel⟩
def R__law_row : List PyData → PyData → Prop := fun ds d => ∃ (number : Int) (size : Int) (most : Int), ds = [.int number, .int size, .int most] ∧ (0 ≤ number) ∧ (0 < size) ∧ (size ≤ 1000) ∧ (0 ≤ most) ∧ (most ≤ 60) ∧ d = tupI (M.lawRow number size most)
theorem fn__law_row {f : Addr} {fd : FuncData} (F : Fun K "_law_row" "_law_row" s__law_row f fd) (B : Blt mg) (H__law_numbers : Has P w K mg base 2 "_law_numbers" ["number", "size", "many"] (spD K R__law_numbers)) (H__law_drawn : Has P w K mg base 1 "_law_drawn" ["number", "k"] (spD K R__law_drawn)) (H__law_made : Has P w K mg base 2 "_law_made" ["start", "rule", "size", "many"] (spD K R__law_made)) : FnOk P w K mg base CX0 3 f fd ["number", "size", "most"] (spD K R__law_row) := by
  refine EY.fn_of F sc__law_row (fun ds d h => by obtain ⟨_, _, _, rfl, _⟩ := h; rfl) ?_
  rintro X cdv A outer s H E rfl hr ds d ⟨number, size, most, rfl, hN, hs, hs2, hm0, hm, rfl⟩
  show DS _ (defBody s__law_row) [Option.some (.d (.int number)), Option.some (.d (.int size)), Option.some (.d (.int most)), none, none, none, none] _
  have q1 := M.emod_ok (x := number) (size := most + 1) (by omega)
  have q2 := M.emod_ok (x := number / 32) (size := 6) (by decide)
  refine ds_set 3 sc__law_row.nd (de_mod (de_var 0 rfl) (de_add (de_var 2 rfl) de_int) ((by first | omega | assumption | decide))) ?_
  try dsimp only [List.set]
  refine ds_set 4 sc__law_row.nd (de_call H__law_numbers hr (da_cons (de_call H__law_drawn hr (da_cons (de_var 0 rfl) (da_cons de_int da_nil)) ⟨_, _, rfl, rfl⟩) (da_cons (de_var 1 rfl) (da_cons (de_mod (de_fdiv (de_var 0 rfl) de_int (⟨by decide, by decide⟩)) de_int (by decide)) da_nil))) ⟨_, _, _, rfl, (by first | omega | assumption | decide), (by first | omega | assumption | decide), (by first | omega | assumption | decide), (by first | omega | assumption | decide), rfl⟩) ?_
  try dsimp only [List.set]
  have r1 := M.numbers_len (M.drawn number 1) size (number / 32 % 6)
  have r2 := M.numbers_ok (number := M.drawn number 1) (many := number / 32 % 6) hs
  refine ds_set 5 sc__law_row.nd (de_call H__law_numbers hr (da_cons (de_call H__law_drawn hr (da_cons (de_var 0 rfl) (da_cons de_int da_nil)) ⟨_, _, rfl, rfl⟩) (da_cons (de_var 1 rfl) (da_cons (de_max2 B.max (de_var 3 rfl) (de_lenI B.len (de_var 4 rfl))) da_nil))) ⟨_, _, _, rfl, (by first | omega | assumption | decide), (by first | omega | assumption | decide), (by first | omega | assumption | decide), (by first | omega | assumption | decide), rfl⟩) ?_
  try dsimp only [List.set]
  have r3 := M.numbers_len (M.drawn number 2) size (max (number % (most + 1)) (M.numbers (M.drawn number 1) size (number / 32 % 6)).length)
  refine ds_if (M := fun Γ => Γ = [some (.d (.int number)), some (.d (.int size)), some (.d (.int most)), some (.d (.int (number % (most + 1)))), some (.d (tupI (M.numbers (M.drawn number 1) size (number / 32 % 6)))), some (.d (tupI (if 0 < number / 192 % 3 then M.made ((M.numbers (M.drawn number 2) size (max (number % (most + 1)) (M.numbers (M.drawn number 1) size (number / 32 % 6)).length)).take (M.numbers (M.drawn number 1) size (number / 32 % 6)).length) (M.numbers (M.drawn number 1) size (number / 32 % 6)) size (max (number % (most + 1)) (M.numbers (M.drawn number 1) size (number / 32 % 6)).length) else M.numbers (M.drawn number 2) size (max (number % (most + 1)) (M.numbers (M.drawn number 1) size (number / 32 % 6)).length)))), none]) (CE.dt (ce_gt (de_mod (de_fdiv (de_var 0 rfl) de_int (⟨by decide, by decide⟩)) de_int (by decide)) de_int)) (fun hc => ?_) (fun hc => ?_) ?_
  · have hc' := of_decide_eq_true hc
    refine ds_set 5 sc__law_row.nd (de_call H__law_made hr (da_cons (de_slI (de_var 5 rfl) do_none (do_some (de_lenI B.len (de_var 4 rfl)))) (da_cons (de_var 4 rfl) (da_cons (de_var 1 rfl) (da_cons (de_max2 B.max (de_var 3 rfl) (de_lenI B.len (de_var 4 rfl))) da_nil)))) ⟨_, _, _, _, rfl, (by first | omega | assumption | decide), (by first | omega | assumption | decide), (by exact r2), (by rw [cut_to _ (by omega), List.length_take]; omega), (by rw [cut_to _ (by omega), List.length_take]; omega), (by first | omega | assumption | decide), (by first | omega | assumption | decide), rfl⟩) ?_
    try dsimp only [List.set]
    refine ds_nil ?_
    rw [cut_to _ (by omega), if_pos hc']
    try rfl
  · have hc' := of_decide_eq_false hc
    refine ds_nil ?_
    rw [if_neg hc']
    try rfl
  rintro Γ rfl
  refine ds_set 5 sc__law_row.nd (de_slI (de_var 5 rfl) do_none (do_some (de_var 3 rfl))) ?_
  try dsimp only [List.set]
  rw [cut_to _ q1.1]
  have r4 := M.lawRow1_len (number := number) (size := size) hm0
  show DS _ _ [some (.d (.int number)), some (.d (.int size)), some (.d (.int most)), some (.d (.int (number % (most + 1)))), some (.d (tupI (M.numbers (M.drawn number 1) size (number / 32 % 6)))), some (.d (tupI (M.lawRow1 number size most))), none] _
  refine ds_ifs (DW.dt (dw_and (CE.dt (ce_eq (de_mod (de_fdiv (de_var 0 rfl) de_int (⟨by decide, by decide⟩)) de_int (by decide)) de_int)) (fun _ => (dw_and1 (CE.dt (ce_gt (de_var 3 rfl) de_int)))))) (fun hc => ?_) (fun hc => ?_)
  · have hc' := (Bool.and_eq_true_iff.mp hc)
    have c1 := of_decide_eq_true hc'.1
    have c2 := of_decide_eq_true hc'.2
    have q3 := M.emod_ok (x := number / 1728) c2
    refine ds_set 6 sc__law_row.nd (de_mod (de_fdiv (de_var 0 rfl) de_int (⟨by decide, by decide⟩)) (de_var 3 rfl) ((by first | omega | assumption | decide))) ?_
    try dsimp only [List.set]
    refine ds_set 5 sc__law_row.nd (de_catI (de_catI (de_slI (de_var 5 rfl) do_none (do_some (de_var 6 rfl))) (DE.is (d' := tupI [_]) (de_tup (da_cons (de_mod (de_add (de_ixI (de_var 5 rfl) (de_var 6 rfl) (by first | exact atI_back (by omega) | exact atI_nth (by omega) (by omega))) de_int) (de_var 1 rfl) ((by first | omega | assumption | decide))) da_nil) (Nat.le_of_ble_eq_true rfl)) rfl) (by rw [cut_to _ (by omega), List.length_take]; simp; omega)) (de_slI (de_var 5 rfl) (do_some (de_add (de_var 6 rfl) de_int)) do_none) (by rw [cut_to _ (by omega), cut_from _ (by omega), List.length_append, List.length_take, List.length_drop]; simp; omega)) ?_
    try dsimp only [List.set]
    refine ds_nil ?_
    rw [cut_to _ (by omega), cut_from _ (by omega)]
    refine ds_ret (de_var 5 rfl) ?_
    show tupI _ = tupI _
    rw [M.lawRow, if_pos ⟨c1, c2⟩]
    try rfl
  · refine ds_ret (de_var 5 rfl) ?_
    show tupI _ = tupI _
    rw [M.lawRow, if_neg ?_]
    rintro ⟨c1, c2⟩
    rw [decide_eq_true c1, decide_eq_true c2] at hc
    cases hc
abbrev s__law_places_in_0 : Stmt := topS 16
abbrev N__law_places_in_0 : List Str := ["bent_one", "bent_way", "bent_ways", "bent_at", "bent_part"]
theorem sc__law_places_in_0 : FnScope N__law_places_in_0 ["bent_one", "bent_way"] (defScope s__law_places_in_0) := ⟨rfl, rfl, rfl, by decide +kernel, rfl, by decide +kernel, by decide +kernel⟩
def R__law_places_in_0 : List PyData → PyData → Prop := fun ds d => ∃ (bent_one : Int) (bent_way : List Int), ds = [.int bent_one, tupI bent_way] ∧ d = .list [tupI bent_way]
theorem fn__law_places_in_0 {f : Addr} {fd : FuncData} (F : Fun K "_law_places_in" "_law_places_in" s__law_places_in_0 f fd) (B : Blt mg) : FnOk P w K mg base CX0 1 f fd ["bent_one", "bent_way"] (spD K R__law_places_in_0) := by
  refine EY.fn_of F sc__law_places_in_0 (fun ds d h => by obtain ⟨_, _, rfl, _⟩ := h; rfl) ?_
  rintro X cdv A outer s H E rfl hr ds d ⟨bent_one, bent_way, rfl, rfl⟩
  show DS _ (defBody s__law_places_in_0) [Option.some (.d (.int bent_one)), Option.some (.d (tupI bent_way)), none, none, none] _
  refine ds_own 2 sc__law_places_in_0.nd (dl_lst (da_cons (de_var 1 rfl) da_nil) (Nat.le_of_ble_eq_true rfl)) ?_
  try dsimp only [List.set]
  try dsimp only [List.set]
  refine ds_when (k := false) (DT.is (dt_of (de_isi_tuple B.isinstance B.tuple (de_var 0 rfl))) rfl) (fun hc => nomatch hc) (fun _ => ?_)
  refine ds_retOwn 2 rfl ?_
  refine ds_ret (de_var 2 rfl) ?_
  rfl
abbrev s__law_places_in : Stmt := topS 16
abbrev N__law_places_in : List Str := ["bent_one", "bent_way", "bent_ways", "bent_at", "bent_part"]
theorem sc__law_places_in : FnScope N__law_places_in ["bent_one", "bent_way"] (defScope s__law_places_in) := ⟨rfl, rfl, rfl, by decide +kernel, rfl, by decide +kernel, by decide +kernel⟩
def R__law_places_in : List PyData → PyData → Prop := fun ds d => ∃ (bent_one : List Int) (bent_way : List Int), ds = [tupI bent_one, tupI bent_way] ∧ (bent_one.length ≤ 40) ∧ (bent_way.length ≤ 40) ∧ d = .list (M.waysL bent_way bent_one.length)
theorem fn__law_places_in {f : Addr} {fd : FuncData} (F : Fun K "_law_places_in" "_law_places_in" s__law_places_in f fd) (B : Blt mg) (H__law_places_in_0 : Has P w K mg base 1 "_law_places_in" ["bent_one", "bent_way"] (spD K R__law_places_in_0)) : FnOk P w K mg base CX0 2 f fd ["bent_one", "bent_way"] (spD K R__law_places_in) := by
  refine EY.fn_of F sc__law_places_in (fun ds d h => by obtain ⟨_, _, rfl, _⟩ := h; rfl) ?_
  rintro X cdv A outer s H E rfl hr ds d ⟨bent_one, bent_way, rfl, h1, h2, rfl⟩
  show DS _ (defBody s__law_places_in) [Option.some (.d (tupI bent_one)), Option.some (.d (tupI bent_way)), none, none, none] _
  refine ds_own 2 sc__law_places_in.nd (dl_lst (da_cons (de_var 1 rfl) da_nil) (Nat.le_of_ble_eq_true rfl)) ?_
  try dsimp only [List.set]
  try dsimp only [List.set]
  refine ds_if (k := true) (M := fun Γ => ∃ y z, Γ = [some (.d (tupI bent_one)), some (.d (tupI bent_way)), some (.own (M.waysL bent_way bent_one.length)), y, z]) (DT.is (dt_of (de_isi_tuple B.isinstance B.tuple (de_var 0 rfl))) rfl) (fun _ => ?_) (fun hc => nomatch hc) ?_
  · refine ds_for (dif_enumI B.enumerate (de_var 0 rfl)) (fun i Γ => ∃ y z, Γ = [some (.d (tupI bent_one)), some (.d (tupI bent_way)), some (.own (M.waysL bent_way i)), y, z]) ⟨_, _, rfl⟩ ?_ (fun Γ h => ds_nil h)
    rintro i Γ hi ⟨y, z, rfl⟩
    refine ⟨_, _, (dg_tup2 (dg_name 3 sc__law_places_in.nd) (dg_name 4 sc__law_places_in.nd)), ?_⟩
    dsimp only [List.set]
    have hi' : i < bent_one.length := hi
    have hw := M.ways_len bent_way i
    refine ds_own 2 sc__law_places_in.nd (dl_catR (DB.dr (db_var 2 rfl)) (DE.dr (de_call H__law_places_in_0 hr (da_cons (de_var 4 rfl) (da_cons (de_catI (de_var 1 rfl) (DE.is (d' := tupI [_]) (de_tup (da_cons (de_var 3 rfl) da_nil) (Nat.le_of_ble_eq_true rfl)) rfl) (by simp; omega)) da_nil)) ⟨_, _, rfl, rfl⟩)) (by rw [hw]; simp; omega)) ?_
    try dsimp only [List.set]
    refine ds_nil ⟨some (.d (.int (i : Int))), some (.d (.int (bent_one.getD i 0))), ?_⟩
    rw [M.ways_succ]
  · rintro Γ ⟨y, z, rfl⟩
    refine ds_retOwn 2 rfl ?_
    refine ds_ret (de_var 2 rfl) ?_
    rfl
abbrev s__law_otherwise_t : Stmt := topS 18
abbrev N__law_otherwise_t : List Str := ["bent_one", "bent_number", "bent_some"]
theorem sc__law_otherwise_t : FnScope N__law_otherwise_t ["bent_one", "bent_number"] (defScope s__law_otherwise_t) := ⟨rfl, rfl, rfl, by decide +kernel, rfl, by decide +kernel, by decide +kernel⟩
def R__law_otherwise_t : List PyData → PyData → Prop := fun ds d => ∃ (bent_one : List Int) (bent_number : Int), ds = [tupI bent_one, .int bent_number] ∧ (bent_one.length ≤ 40) ∧ d = M.othT bent_one bent_number
theorem fn__law_otherwise_t {f : Addr} {fd : FuncData} (F : Fun K "_law_otherwise" "_law_otherwise" s__law_otherwise_t f fd) (B : Blt mg) : FnOk P w K mg base CX0 1 f fd ["bent_one", "bent_number"] (spD K R__law_otherwise_t) := by
  refine EY.fn_of F sc__law_otherwise_t (fun ds d h => by obtain ⟨_, _, rfl, _⟩ := h; rfl) ?_
  rintro X cdv A outer s H E rfl hr ds d ⟨bent_one, bent_number, rfl, h1, rfl⟩
  show DS _ (defBody s__law_otherwise_t) [Option.some (.d (tupI bent_one)), Option.some (.d (.int bent_number)), none] _
  refine ds_when (k := true) (DT.is (dt_of (de_isi_tuple B.isinstance B.tuple (de_var 0 rfl))) rfl) (fun _ => ?_) (fun hc => nomatch hc)
  have c1 : cut bent_one none (some 1) = bent_one.take 1 := cut_to _ (by decide)
  have c2 : cut bent_one (some 1) none = bent_one.drop 1 := cut_from _ (by decide)
  have hl1 : (cut bent_one none (some 1)).length ≤ 40 := by rw [c1, List.length_take]; omega
  refine ds_own (xs := [lstI bent_one, lstI bent_one, tupI (bent_one ++ cut bent_one none (some 1))]) 2 sc__law_otherwise_t.nd (dl_lst (da_cons (DL.de (dl_listT B.list (de_var 0 rfl))) (da_cons (DL.de (dl_listT B.list (de_var 0 rfl))) (da_cons (de_catI (de_var 0 rfl) (de_slI (de_var 0 rfl) do_none (do_some de_int)) (by first | omega | assumption | (simp; omega))) da_nil))) (Nat.le_of_ble_eq_true rfl)) ?_
  try dsimp only [List.set]
  try dsimp only [List.set]
  have h := M.emod_ok (x := bent_number) (size := 5) (by decide)
  refine ds_ret (de_ixL (DL.dr (dl_catR (DB.dr (db_var 2 rfl)) (DL.dr (dl_lst (da_cons (de_slI (de_var 0 rfl) (do_some de_int) do_none) (da_cons (DL.de (dl_lst (da_cons (de_var 0 rfl) da_nil) (Nat.le_of_ble_eq_true rfl))) da_nil)) (Nat.le_of_ble_eq_true rfl))) (Nat.le_of_ble_eq_true rfl))) (de_mod (de_var 1 rfl) de_int (by decide)) (atI_nthD (by omega) (by exact h.2))) ?_
  rw [c1, c2]
  rfl
abbrev s__law_otherwise_i : Stmt := topS 18
abbrev N__law_otherwise_i : List Str := ["bent_one", "bent_number", "bent_some"]
theorem sc__law_otherwise_i : FnScope N__law_otherwise_i ["bent_one", "bent_number"] (defScope s__law_otherwise_i) := ⟨rfl, rfl, rfl, by decide +kernel, rfl, by decide +kernel, by decide +kernel⟩
def R__law_otherwise_i : List PyData → PyData → Prop := fun ds d => ∃ (bent_one : Int) (bent_number : Int), ds = [.int bent_one, .int bent_number] ∧ (0 ≤ bent_one ∧ bent_one ≤ 12) ∧ d = M.othI bent_one bent_number
theorem fn__law_otherwise_i {f : Addr} {fd : FuncData} (F : Fun K "_law_otherwise" "_law_otherwise" s__law_otherwise_i f fd) (B : Blt mg) : FnOk P w K mg base CX0 1 f fd ["bent_one", "bent_number"] (spD K R__law_otherwise_i) := by
  refine EY.fn_of F sc__law_otherwise_i (fun ds d h => by obtain ⟨_, _, rfl, _⟩ := h; rfl) ?_
  rintro X cdv A outer s H E rfl hr ds d ⟨bent_one, bent_number, rfl, h1, rfl⟩
  show DS _ (defBody s__law_otherwise_i) [Option.some (.d (.int bent_one)), Option.some (.d (.int bent_number)), none] _
  refine ds_when (k := false) (DT.is (dt_of (de_isi_tuple B.isinstance B.tuple (de_var 0 rfl))) rfl) (fun hc => nomatch hc) (fun _ => ?_)
  refine ds_when (k := false) (DT.is (dt_of (de_isi_bool B.isinstance B.bool (de_var 0 rfl))) rfl) (fun hc => nomatch hc) (fun _ => ?_)
  refine ds_when (k := true) (DT.is (dt_of (de_isi_int B.isinstance B.int (de_var 0 rfl))) rfl) (fun _ => ?_) (fun hc => nomatch hc)
  refine ds_own (xs := [.bool true, .none, .str (strI bent_one), .tuple [.int bent_one]]) 2 sc__law_otherwise_i.nd (dl_lst (da_cons de_bool (da_cons de_none (da_cons (de_strI B.str (de_var 0 rfl) (by exact log2_small ⟨by omega, by omega⟩)) (da_cons (DE.is (d' := tupI [_]) (de_tup (da_cons (de_var 0 rfl) da_nil) (Nat.le_of_ble_eq_true rfl)) rfl) da_nil)))) (Nat.le_of_ble_eq_true rfl)) ?_
  try dsimp only [List.set]
  try dsimp only [List.set]
  have h := M.emod_ok (x := bent_number) (size := 5) (by decide)
  refine ds_ret (de_ixL (DL.dr (dl_catR (DB.dr (db_var 2 rfl)) (DL.dr (dl_lst (da_cons (de_sub (de_neg de_int) (de_var 0 rfl)) da_nil) (Nat.le_of_ble_eq_true rfl))) (Nat.le_of_ble_eq_true rfl))) (de_mod (de_var 1 rfl) de_int (by decide)) (atI_nthD (by omega) (by exact h.2))) ?_
  rfl
abbrev s__law_put_at : Stmt := topS 17
abbrev N__law_put_at : List Str := ["bent_one", "bent_way", "bent_by", "bent_at", "bent_part"]
theorem sc__law_put_at : FnScope N__law_put_at ["bent_one", "bent_way", "bent_by"] (defScope s__law_put_at) := ⟨rfl, rfl, rfl, by decide +kernel, rfl, by decide +kernel, by decide +kernel⟩
theorem rf__law_put_at {f : Addr} {fd : FuncData} (F : Fun K "_law_put_at" "_law_put_at" s__law_put_at f fd) (hm : mg "_law_put_at" = some (.ref f)) (hb : Binds K fd ["bent_one", "bent_way", "bent_by"] []) (B : Blt mg) : HasPut P w K mg base "_law_put_at" "bent_one" "bent_way" "bent_by" s__law_put_at N__law_put_at := by
  refine ⟨⟨f, fd, F, hm, hb⟩, sc__law_put_at, rfl, Or.inl (by decide +kernel), (by decide +kernel), ?_, ?_⟩
  · intro A outer g cdv s H f' c' q D1 r d d' hr act hd
    show DS _ (defBody s__law_put_at) [Option.some (.d d), Option.some (.d (tupI [])), Option.some (.fac (.ref f') [] (lamF c' q D1)), none, none] _
    refine ds_when (k := true) (DT.is (CE.dt (ce_eqI hr (de_var 1 rfl) (DE.is (d' := tupI []) (de_tup da_nil (Nat.le_of_ble_eq_true rfl)) rfl))) (by simp)) (fun _ => ?_) (fun hc => nomatch hc)
    exact ds_ret (act _ _ _ _ _ _ rfl (de_var 0 rfl) hd rfl) rfl
  · intro A outer g cdv s H f' c' q D1 r row i d' hr act hi hl hd
    show DS _ (defBody s__law_put_at) [Option.some (.d (tupI row)), Option.some (.d (tupI [(i : Int)])), Option.some (.fac (.ref f') [] (lamF c' q D1)), none, none] _
    refine ds_when (k := false) (DT.is (CE.dt (ce_eqI hr (de_var 1 rfl) (DE.is (d' := tupI []) (de_tup da_nil (Nat.le_of_ble_eq_true rfl)) rfl))) (by simp)) (fun hc => nomatch hc) (fun _ => ?_)
    refine ds_set 3 sc__law_put_at.nd (DE.is (d' := .int (i : Int)) (de_ixI (de_var 1 rfl) de_int (by exact atI_nth (ns := [(i : Int)]) (by decide) (by simp))) (by rfl)) ?_
    try dsimp only [List.set]
    refine ds_set 4 sc__law_put_at.nd (act _ _ _ _ _ _ _ _ rfl (DE.is (d' := .int (row.getD i 0)) (de_ixI (de_var 0 rfl) (de_var 3 rfl) (by exact atI_nth (Int.natCast_nonneg i) (Int.ofNat_lt.mpr hi))) rfl) (DE.is (de_slI (de_var 1 rfl) (do_some de_int) do_none) rfl) hd rfl rfl rfl) ?_
    try dsimp only [List.set]
    try dsimp only [List.set]
    refine ds_ret (de_catT (de_catT (de_slI (de_var 0 rfl) do_none (do_some (de_var 3 rfl))) (de_tup (da_cons (de_var 4 rfl) da_nil) (Nat.le_of_ble_eq_true rfl)) ?_) (de_slI (de_var 0 rfl) (do_some (de_add (de_var 3 rfl) de_int)) do_none) ?_) ?_
    · rw [cut_to _ (by omega)]
      simp
      omega
    · rw [cut_to _ (by omega), cut_from _ (by omega)]
      simp
      omega
    · show PyData.tuple _ = _
      rw [cut_to _ (by omega), cut_from _ (by omega)]
      rfl
abbrev s__law_spoilt : Stmt := topS 19
abbrev N__law_spoilt : List Str := ["thing", "number", "deep", "bent_ways", "bent_way", "@t"]
theorem sc__law_spoilt : FnScope N__law_spoilt ["thing", "number", "deep"] (defScope s__law_spoilt) := ⟨rfl, rfl, rfl, by decide +kernel, rfl, by decide +kernel, by decide +kernel⟩
def R__law_spoilt : List PyData → PyData → Prop := fun ds d => ∃ (thing : List Int) (number : Int) (deep : Int), ds = [tupI thing, .int number, .int deep] ∧ (M.Nums 13 thing) ∧ (thing.length ≤ 40) ∧ d = M.bent thing number
theorem fn__law_spoilt {f : Addr} {fd : FuncData} {T_t : Addr} {c_t : Addr} (TB : LamX.TabB base mg c_t T_t) (F : FunC K "_law_spoilt" "_law_spoilt" s__law_spoilt f fd (.ref c_t)) (B : Blt mg) (H__law_places_in : Has P w K mg base 2 "_law_places_in" ["bent_one", "bent_way"] (spD K R__law_places_in)) (H__law_otherwise_t : Has P w K mg base 1 "_law_otherwise" ["bent_one", "bent_number"] (spD K R__law_otherwise_t)) (H__law_otherwise_i : Has P w K mg base 1 "_law_otherwise" ["bent_one", "bent_number"] (spD K R__law_otherwise_i)) (H__law_put_at : HasPut P w K mg base "_law_put_at" "bent_one" "bent_way" "bent_by" s__law_put_at N__law_put_at) : FnOk P w K mg base CX0 6 f fd ["thing", "number", "deep"] (spT K T_t q_t R__law_spoilt) := by
  refine EY.fn_ofT (j := 5) (nm := "@t") F sc__law_spoilt (fun ds d h => by obtain ⟨_, _, _, rfl, _⟩ := h; rfl) rfl (by decide) (not_vis (by decide +kernel)) ?_
  rintro X A outer s H E rfl hr ds d ⟨thing, number, deep, rfl, h1, h2, rfl⟩
  show DS _ (defBody s__law_spoilt) [Option.some (.d (tupI thing)), Option.some (.d (.int number)), Option.some (.d (.int deep)), none, none, Option.some (.fac .non [T_t] (tabF T_t q_t))] _
  refine ds_set 3 sc__law_spoilt.nd (de_call H__law_places_in hr (da_cons (de_var 0 rfl) (da_cons (DE.is (d' := tupI []) (de_tup da_nil (Nat.le_of_ble_eq_true rfl)) rfl) da_nil)) ⟨_, _, rfl, (by first | omega | assumption | decide), (by first | omega | assumption | decide), rfl⟩) ?_
  try dsimp only [List.set]
  obtain ⟨way, e1, e2⟩ := M.bent_put (size := 13) number h1 ⟨by decide, by decide⟩ h2
  have hw := M.ways_len [] thing.length
  have hm := M.emod_ok (x := number) (size := (thing.length : Int) + 1) (by omega)
  refine ds_set 4 sc__law_spoilt.nd (DE.is (d' := tupI way) (de_ixL (DE.dr (de_var 3 rfl)) (DE.is (d' := .int (number % ((thing.length : Int) + 1))) (de_mod (de_var 1 rfl) (de_lenL B.len (DE.dr (de_var 3 rfl))) ((by rw [hw]; omega))) (by rw [hw]; rfl)) (atI_nthD (by omega) (by rw [hw]; omega))) e1) ?_
  try dsimp only [List.set]
  try dsimp only [List.set]
  refine ds_retM (dm_put 5 H__law_put_at rfl (only_of rfl) (by simp) TB rfl (lamS1_by (sc := defScope s__law_spoilt) (pr := "bent_part") (by decide +kernel)) (show ¬ ("bent_part" : Str) ∈ N__law_spoilt by decide +kernel) ?_ hr (de_var 0 rfl) (de_var 4 rfl) e2) (fun O H v h => ⟨rfl, h⟩)
  intro A outer s H f c' y y' hy hr'
  cases hy with
  | t hl => exact de_call H__law_otherwise_t hr' (da_cons (de_var 0 rfl) (da_cons (de_fdiv (i := number) (de_var 2 rfl) de_int ⟨by decide, by decide⟩) da_nil)) ⟨_, _, rfl, hl, rfl⟩
  | i hx => exact de_call H__law_otherwise_i hr' (da_cons (de_var 0 rfl) (da_cons (de_fdiv (i := number) (de_var 2 rfl) de_int ⟨by decide, by decide⟩) da_nil)) ⟨_, _, rfl, hx, rfl⟩
abbrev s__law_number : Stmt := topS 9
abbrev N__law_number : List Str := ["thing", "low", "high"]
theorem sc__law_number : FnScope N__law_number ["thing", "low", "high"] (defScope s__law_number) := ⟨rfl, rfl, rfl, by decide +kernel, rfl, by decide +kernel, by decide +kernel⟩
def R__law_number : List PyData → PyData → Prop := fun ds d => ∃ (thing : PyData) (low : Int) (high : Int), ds = [thing, .int low, .int high] ∧ d = .bool (M.isNum thing low high)
theorem fn__law_number {f : Addr} {fd : FuncData} (F : Fun K "_law_number" "_law_number" s__law_number f fd) (B : Blt mg) : FnOk P w K mg base CX0 1 f fd ["thing", "low", "high"] (spD K R__law_number) := by
  refine EY.fn_of F sc__law_number (fun ds d h => by obtain ⟨_, _, _, rfl, _⟩ := h; rfl) ?_
  rintro X cdv A outer s H E rfl hr ds d ⟨thing, low, high, rfl, rfl⟩
  show DS _ (defBody s__law_number) [Option.some (.d (thing)), Option.some (.d (.int low)), Option.some (.d (.int high))] _
  cases thing with
  | int n =>
    refine ds_ret (de_and (de_isi_int B.isinstance B.int (de_var 0 rfl)) (fun _ => (de_and (de_not (de_isi_bool B.isinstance B.bool (de_var 0 rfl))) (fun _ => (de_one (CH.de (ch_le_le (de_var 1 rfl) (de_var 0 rfl) (de_var 2 rfl)))))))) ?_
    rfl
  | bool n =>
    refine ds_ret (de_and (de_isi_int B.isinstance B.int (de_var 0 rfl)) (fun _ => de_and (k' := false) (de_not (de_isi_bool B.isinstance B.bool (de_var 0 rfl))) (fun h => Bool.noConfusion (show false = true from h)))) ?_
    rfl
  | none =>
    refine ds_ret (de_and (k' := false) (de_isi_int B.isinstance B.int (de_var 0 rfl)) (fun h => Bool.noConfusion (show false = true from h))) ?_
    rfl
  | str n =>
    refine ds_ret (de_and (k' := false) (de_isi_int B.isinstance B.int (de_var 0 rfl)) (fun h => Bool.noConfusion (show false = true from h))) ?_
    rfl
  | list n =>
    refine ds_ret (de_and (k' := false) (de_isi_int B.isinstance B.int (de_var 0 rfl)) (fun h => Bool.noConfusion (show false = true from h))) ?_
    rfl
  | tuple n =>
    refine ds_ret (de_and (k' := false) (de_isi_int B.isinstance B.int (de_var 0 rfl)) (fun h => Bool.noConfusion (show false = true from h))) ?_
    rfl
  | dict n =>
    refine ds_ret (de_and (k' := false) (de_isi_int B.isinstance B.int (de_var 0 rfl)) (fun h => Bool.noConfusion (show false = true from h))) ?_
    rfl
abbrev s__law_is_row : Stmt := topS 14
abbrev N__law_is_row : List Str := ["thing", "size", "part"]
theorem sc__law_is_row : FnScope N__law_is_row ["thing", "size"] (defScope s__law_is_row) := ⟨rfl, rfl, rfl, by decide +kernel, rfl, by decide +kernel, by decide +kernel⟩
def R__law_is_row : List PyData → PyData → Prop := fun ds d => ∃ (thing : PyData) (size : Int), ds = [thing, .int size] ∧ (SeqAt.shaped thing = true) ∧ d = .bool (M.isRow thing size)
theorem fn__law_is_row {f : Addr} {fd : FuncData} (F : Fun K "_law_is_row" "_law_is_row" s__law_is_row f fd) (B : Blt mg) (H__law_number : Has P w K mg base 1 "_law_number" ["thing", "low", "high"] (spD K R__law_number)) : FnOk P w K mg base CX0 2 f fd ["thing", "size"] (spD K R__law_is_row) := by
  refine EY.fn_of F sc__law_is_row (fun ds d h => by obtain ⟨_, _, rfl, _⟩ := h; rfl) ?_
  rintro X cdv A outer s H E rfl hr ds d ⟨thing, size, rfl, hsh, rfl⟩
  show DS _ (defBody s__law_is_row) [Option.some (.d (thing)), Option.some (.d (.int size)), none] _
  cases thing with
  | tuple xs =>
    refine ds_when (k := decide (30 < (xs.length : Int))) (DT.is (DW.dt (dw_or (dt_not (dt_of (de_isi_tuple B.isinstance B.tuple (de_var 0 rfl)))) (fun _ => dw_or1 (CE.dt (ce_gt (de_lenT B.len (de_var 0 rfl)) de_int))))) rfl) (fun hc => ?_) (fun hc => ?_)
    · refine ds_ret de_bool ?_
      show PyData.bool _ = PyData.bool _
      rw [M.isRow]
      have := of_decide_eq_true hc
      rw [decide_eq_false (by omega)]
      try rfl
    · have hc' := of_decide_eq_false hc
      refine ds_ret (CE.de (ce_eqNil hr (DL.dr (Comp.dl (comp_of (own := [("part", 2)]) sc__law_is_row.nd (DIF.dic (dif_tup (de_var 0 rfl))) (blkOk_by (N := N__law_is_row) (sc := defScope s__law_is_row) (by decide +kernel)) _ _ _ (by first | omega | assumption | (simp; omega)) (fun i hi _ _ _ _ _ => (dg_name 2 sc__law_is_row.nd)) (by decide) (fun i hi _ _ _ _ _ => (dts_one (dt_not (dt_of (de_call H__law_number hr (da_cons (de_var 2 rfl) (da_cons de_int (da_cons (de_sub (de_var 1 rfl) de_int) da_nil))) ⟨_, _, _, rfl, rfl⟩))))) (fun i hi hf _ _ _ _ _ => (de_var 2 rfl))))) (DL.dr (DL.is (ys := List.map PyData.int []) (dl_lst da_nil (Nat.le_of_ble_eq_true rfl)) rfl)) (shaped_sub hsh (gath_mem fun i hi => getD_mem hi)))) ?_
      show PyData.bool _ = PyData.bool _
      rw [gath_empty (f := fun x => !M.isNum x 0 (size - 1)), M.isRow, decide_eq_true (by omega), Bool.true_and]
      simp
  | none =>
    refine ds_when (DT.is (k' := true) (DW.dt (dw_or (k' := false) (dt_not (dt_of (de_isi_tuple B.isinstance B.tuple (de_var 0 rfl)))) (fun h => Bool.noConfusion (show true = false from h)))) rfl) (fun hc => ?_) (fun hc => nomatch hc)
    refine ds_ret de_bool ?_
    rfl
  | bool _ =>
    refine ds_when (DT.is (k' := true) (DW.dt (dw_or (k' := false) (dt_not (dt_of (de_isi_tuple B.isinstance B.tuple (de_var 0 rfl)))) (fun h => Bool.noConfusion (show true = false from h)))) rfl) (fun hc => ?_) (fun hc => nomatch hc)
    refine ds_ret de_bool ?_
    rfl
  | int _ =>
    refine ds_when (DT.is (k' := true) (DW.dt (dw_or (k' := false) (dt_not (dt_of (de_isi_tuple B.isinstance B.tuple (de_var 0 rfl)))) (fun h => Bool.noConfusion (show true = false from h)))) rfl) (fun hc => ?_) (fun hc => nomatch hc)
    refine ds_ret de_bool ?_
    rfl
  | str _ =>
    refine ds_when (DT.is (k' := true) (DW.dt (dw_or (k' := false) (dt_not (dt_of (de_isi_tuple B.isinstance B.tuple (de_var 0 rfl)))) (fun h => Bool.noConfusion (show true = false from h)))) rfl) (fun hc => ?_) (fun hc => nomatch hc)
    refine ds_ret de_bool ?_
    rfl
  | list _ =>
    refine ds_when (DT.is (k' := true) (DW.dt (dw_or (k' := false) (dt_not (dt_of (de_isi_tuple B.isinstance B.tuple (de_var 0 rfl)))) (fun h => Bool.noConfusion (show true = false from h)))) rfl) (fun hc => ?_) (fun hc => nomatch hc)
    refine ds_ret de_bool ?_
    rfl
  | dict _ =>
    refine ds_when (DT.is (k' := true) (DW.dt (dw_or (k' := false) (dt_not (dt_of (de_isi_tuple B.isinstance B.tuple (de_var 0 rfl)))) (fun h => Bool.noConfusion (show true = false from h)))) rfl) (fun hc => ?_) (fun hc => nomatch hc)
    refine ds_ret de_bool ?_
    rfl
abbrev s__law_same : Stmt := topS 15
abbrev N__law_same : List Str := ["found", "due"]
theorem sc__law_same : FnScope N__law_same ["found", "due"] (defScope s__law_same) := ⟨rfl, rfl, rfl, by decide +kernel, rfl, by decide +kernel, by decide +kernel⟩
def R__law_same : List PyData → PyData → Prop := fun ds d => ∃ (found : Bool) (due : Bool), ds = [.bool found, .bool due] ∧ d = .bool (decide (found = due))
theorem fn__law_same {f : Addr} {fd : FuncData} (F : Fun K "_law_same" "_law_same" s__law_same f fd) (B : Blt mg) : FnOk P w K mg base CX0 1 f fd ["found", "due"] (spD K R__law_same) := by
  refine EY.fn_of F sc__law_same (fun ds d h => by obtain ⟨_, _, rfl, _⟩ := h; rfl) ?_
  rintro X cdv A outer s H E rfl hr ds d ⟨found, due, rfl, rfl⟩
  show DS _ (defBody s__law_same) [Option.some (.d (.bool found)), Option.some (.d (.bool due))] _
  refine ds_ret (DE.is (de_and (de_isi_bool B.isinstance B.bool (de_var 0 rfl)) (fun _ => (de_one (CE.de (ce_eqB (de_var 0 rfl) (de_var 1 rfl)))))) (by simp [isBoolD])) rfl
abbrev s_is_whole : Stmt := topS 2
abbrev N_is_whole : List Str := ["thing"]
theorem sc_is_whole : FnScope N_is_whole ["thing"] (defScope s_is_whole) := ⟨rfl, rfl, rfl, by decide +kernel, rfl, by decide +kernel, by decide +kernel⟩
def R_is_whole : List PyData → PyData → Prop := fun ds d => ∃ (thing : PyData), ds = [thing] ∧ d = .bool (isIntD thing && !isBoolD thing)
theorem fn_is_whole {f : Addr} {fd : FuncData} (F : Fun K "is_whole" "is_whole" s_is_whole f fd) (B : Blt mg) : FnOk P w K mg base CX0 1 f fd ["thing"] (spD K R_is_whole) := by
  refine EY.fn_of F sc_is_whole (fun ds d h => by obtain ⟨_, rfl, _⟩ := h; rfl) ?_
  rintro X cdv A outer s H E rfl hr ds d ⟨thing, rfl, rfl⟩
  show DS _ (defBody s_is_whole) [Option.some (.d (thing))] _
  refine ds_ret (de_and (de_isi_int B.isinstance B.int (de_var 0 rfl)) (fun _ => (de_one (de_not (de_isi_bool B.isinstance B.bool (de_var 0 rfl)))))) ?_
  rfl
abbrev s_is_row : Stmt := topS 3
abbrev N_is_row : List Str := ["thing", "size", "part"]
theorem sc_is_row : FnScope N_is_row ["thing", "size"] (defScope s_is_row) := ⟨rfl, rfl, rfl, by decide +kernel, rfl, by decide +kernel, by decide +kernel⟩
def R_is_row : List PyData → PyData → Prop := fun ds d => ∃ (thing : PyData) (size : Int), ds = [thing, .int size] ∧ d = .bool (M.isRowP thing size)
theorem fn_is_row {f : Addr} {fd : FuncData} (F : Fun K "is_row" "is_row" s_is_row f fd) (B : Blt mg) (H_is_whole : Has P w K mg base 1 "is_whole" ["thing"] (spD K R_is_whole)) {t_MOST : Tok} (G_MOST : mg "MOST" = some (.int 30 t_MOST)) : FnOk P w K mg base CX0 2 f fd ["thing", "size"] (spD K R_is_row) := by
  refine EY.fn_of F sc_is_row (fun ds d h => by obtain ⟨_, _, rfl, _⟩ := h; rfl) ?_
  rintro X cdv A outer s H E rfl hr ds d ⟨thing, size, rfl, rfl⟩
  show DS _ (defBody s_is_row) [Option.some (.d (thing)), Option.some (.d (.int size)), none] _
  cases thing with
  | tuple xs =>
    refine ds_when (k := decide (30 < (xs.length : Int))) (DT.is (DW.dt (dw_or (dt_not (dt_of (de_isi_tuple B.isinstance B.tuple (de_var 0 rfl)))) (fun _ => dw_or1 (CE.dt (ce_gt (de_lenT B.len (de_var 0 rfl)) (de_globI G_MOST)))))) rfl) (fun hc => ?_) (fun hc => ?_)
    · refine ds_ret de_bool ?_
      show PyData.bool _ = PyData.bool _
      rw [M.isRowP]
      have := of_decide_eq_true hc
      rw [decide_eq_false (by omega)]
      try rfl
    · have hc' := of_decide_eq_false hc
      refine ds_ret (de_all B.all (DL.dr (DL.is (Comp.dl (comp_of (own := [("part", 2)]) sc_is_row.nd (DIF.dic (dif_tup (de_var 0 rfl))) (blkOk_by (N := N_is_row) (sc := defScope s_is_row) (by decide +kernel)) _ (fun _ => true) (fun i => .bool (M.wholeIn size (xs.getD i .none))) (by omega) (fun i hi _ _ _ _ _ => (dg_name 2 sc_is_row.nd)) (by decide) (fun i hi _ _ _ _ _ => dts_nil) (fun i hi hf _ _ _ _ _ => ?_))) (gathB _ _)))) ?_
      · dsimp only
        generalize xs.getD i .none = d
        cases d with
        | int n => exact DE.is (de_and (de_call H_is_whole hr (da_cons (de_var 2 rfl) da_nil) ⟨_, rfl, rfl⟩) (fun _ => (de_one (CH.de (ch_le_lt de_int (de_var 2 rfl) (de_var 1 rfl)))))) rfl
        | bool n => exact DE.is (de_and (k' := false) (de_call H_is_whole hr (da_cons (de_var 2 rfl) da_nil) ⟨_, rfl, rfl⟩) (fun h => Bool.noConfusion (show false = true from h))) rfl
        | none => exact DE.is (de_and (k' := false) (de_call H_is_whole hr (da_cons (de_var 2 rfl) da_nil) ⟨_, rfl, rfl⟩) (fun h => Bool.noConfusion (show false = true from h))) rfl
        | str n => exact DE.is (de_and (k' := false) (de_call H_is_whole hr (da_cons (de_var 2 rfl) da_nil) ⟨_, rfl, rfl⟩) (fun h => Bool.noConfusion (show false = true from h))) rfl
        | list n => exact DE.is (de_and (k' := false) (de_call H_is_whole hr (da_cons (de_var 2 rfl) da_nil) ⟨_, rfl, rfl⟩) (fun h => Bool.noConfusion (show false = true from h))) rfl
        | tuple n => exact DE.is (de_and (k' := false) (de_call H_is_whole hr (da_cons (de_var 2 rfl) da_nil) ⟨_, rfl, rfl⟩) (fun h => Bool.noConfusion (show false = true from h))) rfl
        | dict n => exact DE.is (de_and (k' := false) (de_call H_is_whole hr (da_cons (de_var 2 rfl) da_nil) ⟨_, rfl, rfl⟩) (fun h => Bool.noConfusion (show false = true from h))) rfl
      · show PyData.bool _ = PyData.bool _
        congr 1
        rw [M.isRowP, decide_eq_true (by omega), Bool.true_and, List.all_map]
        exact M.all_range_getD xs (M.wholeIn size)
  | none =>
    refine ds_when (DT.is (k' := true) (DW.dt (dw_or (k' := false) (dt_not (dt_of (de_isi_tuple B.isinstance B.tuple (de_var 0 rfl)))) (fun h => Bool.noConfusion (show true = false from h)))) rfl) (fun hc => ?_) (fun hc => nomatch hc)
    refine ds_ret de_bool ?_
    rfl
  | bool _ =>
    refine ds_when (DT.is (k' := true) (DW.dt (dw_or (k' := false) (dt_not (dt_of (de_isi_tuple B.isinstance B.tuple (de_var 0 rfl)))) (fun h => Bool.noConfusion (show true = false from h)))) rfl) (fun hc => ?_) (fun hc => nomatch hc)
    refine ds_ret de_bool ?_
    rfl
  | int _ =>
    refine ds_when (DT.is (k' := true) (DW.dt (dw_or (k' := false) (dt_not (dt_of (de_isi_tuple B.isinstance B.tuple (de_var 0 rfl)))) (fun h => Bool.noConfusion (show true = false from h)))) rfl) (fun hc => ?_) (fun hc => nomatch hc)
    refine ds_ret de_bool ?_
    rfl
  | str _ =>
    refine ds_when (DT.is (k' := true) (DW.dt (dw_or (k' := false) (dt_not (dt_of (de_isi_tuple B.isinstance B.tuple (de_var 0 rfl)))) (fun h => Bool.noConfusion (show true = false from h)))) rfl) (fun hc => ?_) (fun hc => nomatch hc)
    refine ds_ret de_bool ?_
    rfl
  | list _ =>
    refine ds_when (DT.is (k' := true) (DW.dt (dw_or (k' := false) (dt_not (dt_of (de_isi_tuple B.isinstance B.tuple (de_var 0 rfl)))) (fun h => Bool.noConfusion (show true = false from h)))) rfl) (fun hc => ?_) (fun hc => nomatch hc)
    refine ds_ret de_bool ?_
    rfl
  | dict _ =>
    refine ds_when (DT.is (k' := true) (DW.dt (dw_or (k' := false) (dt_not (dt_of (de_isi_tuple B.isinstance B.tuple (de_var 0 rfl)))) (fun h => Bool.noConfusion (show true = false from h)))) rfl) (fun hc => ?_) (fun hc => nomatch hc)
    refine ds_ret de_bool ?_
    rfl
abbrev s_is_rule : Stmt := topS 4
abbrev N_is_rule : List Str := ["thing", "size"]
theorem sc_is_rule : FnScope N_is_rule ["thing", "size"] (defScope s_is_rule) := ⟨rfl, rfl, rfl, by decide +kernel, rfl, by decide +kernel, by decide +kernel⟩
def R_is_rule : List PyData → PyData → Prop := fun ds d => ∃ (thing : PyData) (size : Int), ds = [thing, .int size] ∧ d = .bool (M.isRowP thing size)
theorem fn_is_rule {f : Addr} {fd : FuncData} (F : Fun K "is_rule" "is_rule" s_is_rule f fd) (B : Blt mg) (H_is_row : Has P w K mg base 2 "is_row" ["thing", "size"] (spD K R_is_row)) : FnOk P w K mg base CX0 3 f fd ["thing", "size"] (spD K R_is_rule) := by
  refine EY.fn_of F sc_is_rule (fun ds d h => by obtain ⟨_, _, rfl, _⟩ := h; rfl) ?_
  rintro X cdv A outer s H E rfl hr ds d ⟨thing, size, rfl, rfl⟩
  show DS _ (defBody s_is_rule) [Option.some (.d (thing)), Option.some (.d (.int size))] _
  refine ds_ret (de_call H_is_row hr (da_cons (de_var 0 rfl) (da_cons (de_var 1 rfl) da_nil)) ⟨_, _, rfl, rfl⟩) ?_
  rfl
abbrev s__law_once : Stmt := topS 20
abbrev N__law_once : List Str := ["script", "size", "thing", "number", "due", "@t"]
theorem sc__law_once : FnScope N__law_once ["script"] (defScope s__law_once) := ⟨rfl, rfl, rfl, by decide +kernel, rfl, by decide +kernel, by decide +kernel⟩
def R__law_once : List PyData → PyData → Prop := fun ds d => ∃ (script : List Int), ds = [lstI script] ∧ (script.length ≤ 100) ∧ d = .bool true
theorem fn__law_once {f : Addr} {fd : FuncData} {T_t : Addr} {cdv : Value} (F : FunC K "_law_once" "_law_once" s__law_once f fd cdv) (B : Blt mg) (H__law_mixed : Has P w K mg base 2 "_law_mixed" ["script", "k"] (spD K R__law_mixed)) (H__law_row : Has P w K mg base 3 "_law_row" ["number", "size", "most"] (spD K R__law_row)) (H__law_numbers : Has P w K mg base 2 "_law_numbers" ["number", "size", "many"] (spD K R__law_numbers)) (H__law_spoilt : Has P w K mg base 6 "_law_spoilt" ["thing", "number", "deep"] (spT K T_t q_t R__law_spoilt)) (H__law_is_row : Has P w K mg base 2 "_law_is_row" ["thing", "size"] (spD K R__law_is_row)) (H__law_same : Has P w K mg base 1 "_law_same" ["found", "due"] (spD K R__law_same)) (H_is_row : Has P w K mg base 2 "is_row" ["thing", "size"] (spD K R_is_row)) (H_is_rule : Has P w K mg base 3 "is_rule" ["thing", "size"] (spD K R_is_rule)) : FnOk P w K mg base CX0 7 f fd ["script"] (spT K T_t q_t R__law_once) := by
  refine EY.fn_ofT (j := 5) (nm := "@t") F sc__law_once (fun ds d h => by obtain ⟨_, rfl, _⟩ := h; rfl) rfl (by decide) (not_vis (by decide +kernel)) ?_
  rintro X A outer s H E rfl hr ds d ⟨script, rfl, hlen, rfl⟩
  show DS _ (defBody s__law_once) [Option.some (.d (lstI script)), none, none, none, none, Option.some (.fac .non [T_t] (tabF T_t q_t))] _
  refine ds_set 1 sc__law_once.nd (de_ixI (DE.is (d' := tupI [_, _, _, _, _, _]) (de_tup (da_cons de_int (da_cons de_int (da_cons de_int (da_cons de_int (da_cons de_int (da_cons de_int da_nil)))))) (Nat.le_of_ble_eq_true rfl)) rfl) (de_mod (de_call H__law_mixed hr (da_cons (de_var 0 rfl) (da_cons de_int da_nil)) ⟨_, _, rfl, (by first | omega | assumption | decide), rfl⟩) de_int (by decide)) (by exact M.clock_at _)) ?_
  try dsimp only [List.set]
  have hS := M.clock_size (M.mixed script 0)
  generalize M.clock (M.mixed script 0) = size at hS
  have hs := hS.pos
  have hs2 := hS.le
  have hs3 : size ≤ 1000 := by omega
  have m1 := M.mixed_ok script 1
  have m2 := M.mixed_ok script 2
  refine ds_set 2 sc__law_once.nd (de_call H__law_row hr (da_cons (de_call H__law_mixed hr (da_cons (de_var 0 rfl) (da_cons de_int da_nil)) ⟨_, _, rfl, (by first | omega | assumption | decide), rfl⟩) (da_cons (de_var 1 rfl) (da_cons de_int da_nil))) ⟨_, _, _, rfl, (by first | omega | assumption | decide), (by first | omega | assumption | decide), (by first | omega | assumption | decide), (by first | omega | assumption | decide), (by first | omega | assumption | decide), rfl⟩) ?_
  try dsimp only [List.set]
  refine ds_set 3 sc__law_once.nd (de_call H__law_mixed hr (da_cons (de_var 0 rfl) (da_cons de_int da_nil)) ⟨_, _, rfl, (by first | omega | assumption | decide), rfl⟩) ?_
  try dsimp only [List.set]
  refine ds_if (M := fun Γ => ∃ (ns : List Int), Γ = [some (.d (lstI script)), some (.d (.int size)), some (.d (tupI ns)), some (.d (.int (M.mixed script 2))), none, some (.fac .non [T_t] (tabF T_t q_t))] ∧ M.Nums size ns ∧ ns.length ≤ 31) (CE.dt (ce_eq (de_mod (de_var 3 rfl) de_int (by decide)) de_int)) (fun hc => ?_) (fun hc => ?_) ?_
  · refine ds_set 2 sc__law_once.nd (de_call H__law_numbers hr (da_cons (de_call H__law_mixed hr (da_cons (de_var 0 rfl) (da_cons de_int da_nil)) ⟨_, _, rfl, (by first | omega | assumption | decide), rfl⟩) (da_cons (de_var 1 rfl) (da_cons (de_add de_int (de_mod (de_fdiv (de_var 3 rfl) de_int (⟨by decide, by decide⟩)) de_int (by decide))) da_nil))) ⟨_, _, _, rfl, (by first | omega | assumption | decide), (by first | omega | assumption | decide), (by first | omega | assumption | decide), (by first | omega | assumption | decide), rfl⟩) ?_
    try dsimp only [List.set]
    refine ds_nil ⟨_, rfl, M.numbers_ok hs, ?_⟩
    rw [M.numbers_len]
    omega
  · have := M.lawRow_le (number := M.mixed script 1) (size := size) (most := 16) (by decide)
    exact ds_nil ⟨_, rfl, M.lawRow_ok hs, by omega⟩
  rintro Γ ⟨ns, rfl, hn, hl⟩
  have hn13 : M.Nums 13 ns := fun x hx => by have := hn x hx; omega
  refine ds_if (M := fun Γ => ∃ (d : PyData), Γ = [some (.d (lstI script)), some (.d (.int size)), some (.d d), some (.d (.int (M.mixed script 2))), none, some (.fac .non [T_t] (tabF T_t q_t))] ∧ SeqAt.shaped d = true) (CE.dt (ce_eq (de_mod (de_call H__law_mixed hr (da_cons (de_var 0 rfl) (da_cons de_int da_nil)) ⟨_, _, rfl, (by first | omega | assumption | decide), rfl⟩) de_int (by decide)) de_int)) (fun hc => ?_) (fun hc => ds_nil ⟨_, rfl, shaped_tupI _⟩) ?_
  · refine ds_setDM 2 sc__law_once.nd (dm_callT 5 rfl (only_of rfl) (by simp) H__law_spoilt hr (da_cons (de_var 2 rfl) (da_cons (de_call H__law_mixed hr (da_cons (de_var 0 rfl) (da_cons de_int da_nil)) ⟨_, _, rfl, (by first | omega | assumption | decide), rfl⟩) (da_cons (de_mod (de_fdiv (de_call H__law_mixed hr (da_cons (de_var 0 rfl) (da_cons de_int da_nil)) ⟨_, _, rfl, (by first | omega | assumption | decide), rfl⟩) de_int (⟨by decide, by decide⟩)) de_int (by decide)) da_nil))) ⟨_, _, _, rfl, hn13, by omega, rfl⟩) ?_
    exact ds_nil ⟨_, rfl, M.bent_shaped _ hn13 ⟨by decide, by decide⟩⟩
  rintro Γ ⟨d, rfl, hd⟩
  refine ds_set 4 sc__law_once.nd (de_call H__law_is_row hr (da_cons (de_var 2 rfl) (da_cons (de_var 1 rfl) da_nil)) ⟨_, _, rfl, (by first | assumption | omega), rfl⟩) ?_
  try dsimp only [List.set]
  refine ds_retT (DE.is (de_and (de_call H__law_same hr (da_cons (de_call H_is_row hr (da_cons (de_var 2 rfl) (da_cons (de_var 1 rfl) da_nil)) ⟨_, _, rfl, rfl⟩) (da_cons (de_var 4 rfl) da_nil)) ⟨_, _, rfl, rfl⟩) (fun _ => (de_one (de_call H__law_same hr (da_cons (de_call H_is_rule hr (da_cons (de_var 2 rfl) (da_cons (de_var 1 rfl) da_nil)) ⟨_, _, rfl, rfl⟩) (da_cons (de_var 4 rfl) da_nil)) ⟨_, _, rfl, rfl⟩)))) ?_) rfl (fun O H v h => ⟨rfl, h⟩)
  rw [M.isRow_same]
  simp
abbrev s_law : Stmt := topS 21
abbrev N_law : List Str := ["script", "bent_turn", "bent_cell", "@t"]
theorem sc_law : FnScope N_law ["script"] (defScope s_law) := ⟨rfl, rfl, rfl, by decide +kernel, rfl, by decide +kernel, by decide +kernel⟩
def R_law : List PyData → PyData → Prop := fun ds d => ∃ (script : List Int), ds = [lstI script] ∧ (script.length ≤ 63) ∧ d = .bool true
theorem fn_law {f : Addr} {fd : FuncData} {T_t : Addr} {cdv : Value} (F : FunC K "law" "law" s_law f fd cdv) (B : Blt mg) (H__law_once : Has P w K mg base 7 "_law_once" ["script"] (spT K T_t q_t R__law_once)) : FnOk P w K mg base CX0 8 f fd ["script"] (spT K T_t q_t R_law) := by
  refine EY.fn_ofT (j := 3) (nm := "@t") F sc_law (fun ds d h => by obtain ⟨_, rfl, _⟩ := h; rfl) rfl (by decide) (not_vis (by decide +kernel)) ?_
  rintro X A outer s H E rfl hr ds d ⟨script, rfl, hlen, rfl⟩
  show DS _ (defBody s_law) [Option.some (.d (lstI script)), none, none, Option.some (.fac .non [T_t] (tabF T_t q_t))] _
  refine ds_for (dif_range1 B.range de_int (by first | omega | assumption | decide) (by first | omega | assumption | decide)) (fun i Γ => ∃ y, Γ = [some (.d (lstI script)), y, none, some (.fac .non [T_t] (tabF T_t q_t))]) ⟨_, rfl⟩ ?_ ?_
  · rintro i Γ hi ⟨y, rfl⟩
    refine ⟨_, _, (dg_name 1 sc_law.nd), ?_⟩
    dsimp only [List.set]
    refine ds_whenM (k := false) (DTM.is (dtm_not (dm_callT 3 rfl (only_of rfl) (by simp) H__law_once hr (da_cons (DL.de (dl_catRI (DL.dr (DL.is (Comp.dl (comp_of (own := [("bent_cell", 2)]) sc_law.nd (dic_listI (DE.dr (de_var 0 rfl))) (blkOk_by (N := N_law) (sc := defScope s_law) (by decide +kernel)) _ _ _ (by omega) (fun i hi _ _ _ _ _ => (dg_name 2 sc_law.nd)) (by decide) (fun i hi _ _ _ _ _ => dts_nil) (fun i hi hf _ _ _ _ _ => (de_add (de_var 2 rfl) (de_mul de_int (de_var 1 rfl) (.inl ⟨by decide, by decide⟩)))))) (gathI _ _))) (DL.dr (DL.is (ys := List.map PyData.int [_]) (dl_lst (da_cons (de_var 1 rfl) da_nil) (Nat.le_of_ble_eq_true rfl)) rfl)) (by simp; omega))) da_nil) ⟨_, rfl, ?_, rfl⟩)) rfl) (fun hc => nomatch hc) (fun _ => ?_)
    · simp
      omega
    · exact ds_nil ⟨_, rfl⟩
  · rintro Γ ⟨y, rfl⟩
    refine ds_retT de_bool ?_ (fun O H v h => ⟨rfl, h⟩)
    rfl
end
theorem all_mk {l : PySem.W.OpenLaw} {w : World} {K : PySem.W.Frag} {h : Heap} {mg : Str → Option Value} {fa : Addr} (X : K.In h) (G : h.Ns mainGlobals mg) (hfa : mg "law" = some (.ref fa))
    {c_t T_t : Addr} {ts : List Addr} (tY : ∀ P ∈ ts, h.get? P = some (PySem.W.tabObj #[]))
    {f1 : Addr} {od1 an1 : Option Addr} {sl1 : Array (Option Value)} {oc1 kV1 dc1 pm1 cd1 ct1 : Value}
    {f2 : Addr} {od2 an2 : Option Addr} {sl2 : Array (Option Value)} {oc2 kV2 dc2 pm2 cd2 ct2 : Value}
    {f3 : Addr} {od3 an3 : Option Addr} {sl3 : Array (Option Value)} {oc3 kV3 dc3 pm3 cd3 ct3 : Value}
    {f4 : Addr} {od4 an4 : Option Addr} {sl4 : Array (Option Value)} {oc4 kV4 dc4 pm4 cd4 ct4 : Value}
    {f5 : Addr} {od5 an5 : Option Addr} {sl5 : Array (Option Value)} {oc5 kV5 dc5 pm5 cd5 ct5 : Value}
    {f6 : Addr} {od6 an6 : Option Addr} {sl6 : Array (Option Value)} {oc6 kV6 dc6 pm6 cd6 ct6 : Value}
    {f7 : Addr} {od7 an7 : Option Addr} {sl7 : Array (Option Value)} {oc7 kV7 dc7 pm7 cd7 ct7 : Value}
    {f8 : Addr} {od8 an8 : Option Addr} {sl8 : Array (Option Value)} {oc8 kV8 dc8 pm8 cd8 ct8 : Value}
    {f9 : Addr} {od9 an9 : Option Addr} {sl9 : Array (Option Value)} {oc9 kV9 dc9 pm9 cd9 ct9 : Value}
    {f10 : Addr} {od10 an10 : Option Addr} {sl10 : Array (Option Value)} {oc10 kV10 dc10 pm10 cd10 ct10 : Value}
    {f11 : Addr} {od11 an11 : Option Addr} {sl11 : Array (Option Value)} {oc11 kV11 dc11 pm11 cd11 ct11 : Value}
    {f12 : Addr} {od12 an12 : Option Addr} {sl12 : Array (Option Value)} {oc12 kV12 dc12 pm12 cd12 ct12 : Value}
    {f13 : Addr} {od13 an13 : Option Addr} {sl13 : Array (Option Value)} {oc13 kV13 dc13 pm13 ct13 : Value}
    {f14 : Addr} {od14 an14 : Option Addr} {sl14 : Array (Option Value)} {oc14 kV14 dc14 pm14 cd14 ct14 : Value}
    {f15 : Addr} {od15 an15 : Option Addr} {sl15 : Array (Option Value)} {oc15 kV15 dc15 pm15 cd15 ct15 : Value}
    {f16 : Addr} {od16 an16 : Option Addr} {sl16 : Array (Option Value)} {oc16 kV16 dc16 pm16 cd16 ct16 : Value}
    {f17 : Addr} {od17 an17 : Option Addr} {sl17 : Array (Option Value)} {oc17 kV17 dc17 pm17 cd17 ct17 : Value}
    {f18 : Addr} {od18 an18 : Option Addr} {sl18 : Array (Option Value)} {oc18 kV18 dc18 pm18 cd18 ct18 : Value}
    {f19 : Addr} {od19 an19 : Option Addr} {sl19 : Array (Option Value)} {oc19 kV19 dc19 pm19 cd19 ct19 : Value}
    {f20 : Addr} {od20 an20 : Option Addr} {sl20 : Array (Option Value)} {oc20 kV20 dc20 pm20 cd20 ct20 : Value}
    {f21 : Addr} {od21 an21 : Option Addr} {sl21 : Array (Option Value)} {oc21 kV21 dc21 pm21 cd21 ct21 : Value}
    {tk_MOST : Tok}
    (tt : ts = [T_t])
    (a1 : PySem.W.nsIn K mainGlobals "_law_cell_at" = some (some (.ref f1))) (l1 : K.lookup f1 = some ⟨oc1, od1, .func (PySem.W.fnOf "_law_cell_at" "_law_cell_at" (defArgs s__law_cell_at) (defBody s__law_cell_at) (defScope s__law_cell_at) .none kV1 dc1 pm1 an1 cd1 ct1), sl1⟩) (c1 : PySem.W.codeIn K cd1 "_law_cell_at" = true) (k1 : PySem.W.keepIn K (.ref f1) = true)
    (a2 : PySem.W.nsIn K mainGlobals "_law_mixed" = some (some (.ref f2))) (l2 : K.lookup f2 = some ⟨oc2, od2, .func (PySem.W.fnOf "_law_mixed" "_law_mixed" (defArgs s__law_mixed) (defBody s__law_mixed) (defScope s__law_mixed) .none kV2 dc2 pm2 an2 cd2 ct2), sl2⟩) (c2 : PySem.W.codeIn K cd2 "_law_mixed" = true) (k2 : PySem.W.keepIn K (.ref f2) = true)
    (a3 : PySem.W.nsIn K mainGlobals "_law_drawn" = some (some (.ref f3))) (l3 : K.lookup f3 = some ⟨oc3, od3, .func (PySem.W.fnOf "_law_drawn" "_law_drawn" (defArgs s__law_drawn) (defBody s__law_drawn) (defScope s__law_drawn) .none kV3 dc3 pm3 an3 cd3 ct3), sl3⟩) (c3 : PySem.W.codeIn K cd3 "_law_drawn" = true) (k3 : PySem.W.keepIn K (.ref f3) = true)
    (a4 : PySem.W.nsIn K mainGlobals "_law_numbers" = some (some (.ref f4))) (l4 : K.lookup f4 = some ⟨oc4, od4, .func (PySem.W.fnOf "_law_numbers" "_law_numbers" (defArgs s__law_numbers) (defBody s__law_numbers) (defScope s__law_numbers) .none kV4 dc4 pm4 an4 cd4 ct4), sl4⟩) (c4 : PySem.W.codeIn K cd4 "_law_numbers" = true) (k4 : PySem.W.keepIn K (.ref f4) = true)
    (a5 : PySem.W.nsIn K mainGlobals "_law_next" = some (some (.ref f5))) (l5 : K.lookup f5 = some ⟨oc5, od5, .func (PySem.W.fnOf "_law_next" "_law_next" (defArgs s__law_next) (defBody s__law_next) (defScope s__law_next) .none kV5 dc5 pm5 an5 cd5 ct5), sl5⟩) (c5 : PySem.W.codeIn K cd5 "_law_next" = true) (k5 : PySem.W.keepIn K (.ref f5) = true)
    (a6 : PySem.W.nsIn K mainGlobals "_law_made" = some (some (.ref f6))) (l6 : K.lookup f6 = some ⟨oc6, od6, .func (PySem.W.fnOf "_law_made" "_law_made" (defArgs s__law_made) (defBody s__law_made) (defScope s__law_made) .none kV6 dc6 pm6 an6 cd6 ct6), sl6⟩) (c6 : PySem.W.codeIn K cd6 "_law_made" = true) (k6 : PySem.W.keepIn K (.ref f6) = true)
    (a7 : PySem.W.nsIn K mainGlobals "_law_row" = some (some (.ref f7))) (l7 : K.lookup f7 = some ⟨oc7, od7, .func (PySem.W.fnOf "_law_row" "_law_row" (defArgs s__law_row) (defBody s__law_row) (defScope s__law_row) .none kV7 dc7 pm7 an7 cd7 ct7), sl7⟩) (c7 : PySem.W.codeIn K cd7 "_law_row" = true) (k7 : PySem.W.keepIn K (.ref f7) = true)
    (a8 : PySem.W.nsIn K mainGlobals "_law_places_in" = some (some (.ref f8))) (l8 : K.lookup f8 = some ⟨oc8, od8, .func (PySem.W.fnOf "_law_places_in" "_law_places_in" (defArgs s__law_places_in_0) (defBody s__law_places_in_0) (defScope s__law_places_in_0) .none kV8 dc8 pm8 an8 cd8 ct8), sl8⟩) (c8 : PySem.W.codeIn K cd8 "_law_places_in" = true) (k8 : PySem.W.keepIn K (.ref f8) = true)
    (a9 : PySem.W.nsIn K mainGlobals "_law_places_in" = some (some (.ref f9))) (l9 : K.lookup f9 = some ⟨oc9, od9, .func (PySem.W.fnOf "_law_places_in" "_law_places_in" (defArgs s__law_places_in) (defBody s__law_places_in) (defScope s__law_places_in) .none kV9 dc9 pm9 an9 cd9 ct9), sl9⟩) (c9 : PySem.W.codeIn K cd9 "_law_places_in" = true) (k9 : PySem.W.keepIn K (.ref f9) = true)
    (a10 : PySem.W.nsIn K mainGlobals "_law_otherwise" = some (some (.ref f10))) (l10 : K.lookup f10 = some ⟨oc10, od10, .func (PySem.W.fnOf "_law_otherwise" "_law_otherwise" (defArgs s__law_otherwise_t) (defBody s__law_otherwise_t) (defScope s__law_otherwise_t) .none kV10 dc10 pm10 an10 cd10 ct10), sl10⟩) (c10 : PySem.W.codeIn K cd10 "_law_otherwise" = true) (k10 : PySem.W.keepIn K (.ref f10) = true)
    (a11 : PySem.W.nsIn K mainGlobals "_law_otherwise" = some (some (.ref f11))) (l11 : K.lookup f11 = some ⟨oc11, od11, .func (PySem.W.fnOf "_law_otherwise" "_law_otherwise" (defArgs s__law_otherwise_i) (defBody s__law_otherwise_i) (defScope s__law_otherwise_i) .none kV11 dc11 pm11 an11 cd11 ct11), sl11⟩) (c11 : PySem.W.codeIn K cd11 "_law_otherwise" = true) (k11 : PySem.W.keepIn K (.ref f11) = true)
    (a12 : PySem.W.nsIn K mainGlobals "_law_put_at" = some (some (.ref f12))) (l12 : K.lookup f12 = some ⟨oc12, od12, .func (PySem.W.fnOf "_law_put_at" "_law_put_at" (defArgs s__law_put_at) (defBody s__law_put_at) (defScope s__law_put_at) .none kV12 dc12 pm12 an12 cd12 ct12), sl12⟩) (c12 : PySem.W.codeIn K cd12 "_law_put_at" = true) (k12 : PySem.W.keepIn K (.ref f12) = true)
    (a13 : PySem.W.nsIn K mainGlobals "_law_spoilt" = some (some (.ref f13))) (l13 : K.lookup f13 = some ⟨oc13, od13, .func (PySem.W.fnOf "_law_spoilt" "_law_spoilt" (defArgs s__law_spoilt) (defBody s__law_spoilt) (defScope s__law_spoilt) .none kV13 dc13 pm13 an13 (.ref c_t) ct13), sl13⟩) (c13 : PySem.W.codeIn K (.ref c_t) "_law_spoilt" = true) (k13 : PySem.W.keepIn K (.ref f13) = true)
    (a14 : PySem.W.nsIn K mainGlobals "_law_number" = some (some (.ref f14))) (l14 : K.lookup f14 = some ⟨oc14, od14, .func (PySem.W.fnOf "_law_number" "_law_number" (defArgs s__law_number) (defBody s__law_number) (defScope s__law_number) .none kV14 dc14 pm14 an14 cd14 ct14), sl14⟩) (c14 : PySem.W.codeIn K cd14 "_law_number" = true) (k14 : PySem.W.keepIn K (.ref f14) = true)
    (a15 : PySem.W.nsIn K mainGlobals "_law_is_row" = some (some (.ref f15))) (l15 : K.lookup f15 = some ⟨oc15, od15, .func (PySem.W.fnOf "_law_is_row" "_law_is_row" (defArgs s__law_is_row) (defBody s__law_is_row) (defScope s__law_is_row) .none kV15 dc15 pm15 an15 cd15 ct15), sl15⟩) (c15 : PySem.W.codeIn K cd15 "_law_is_row" = true) (k15 : PySem.W.keepIn K (.ref f15) = true)
    (a16 : PySem.W.nsIn K mainGlobals "_law_same" = some (some (.ref f16))) (l16 : K.lookup f16 = some ⟨oc16, od16, .func (PySem.W.fnOf "_law_same" "_law_same" (defArgs s__law_same) (defBody s__law_same) (defScope s__law_same) .none kV16 dc16 pm16 an16 cd16 ct16), sl16⟩) (c16 : PySem.W.codeIn K cd16 "_law_same" = true) (k16 : PySem.W.keepIn K (.ref f16) = true)
    (a17 : PySem.W.nsIn K mainGlobals "is_whole" = some (some (.ref f17))) (l17 : K.lookup f17 = some ⟨oc17, od17, .func (PySem.W.fnOf "is_whole" "is_whole" (defArgs s_is_whole) (defBody s_is_whole) (defScope s_is_whole) .none kV17 dc17 pm17 an17 cd17 ct17), sl17⟩) (c17 : PySem.W.codeIn K cd17 "is_whole" = true) (k17 : PySem.W.keepIn K (.ref f17) = true)
    (a18 : PySem.W.nsIn K mainGlobals "is_row" = some (some (.ref f18))) (l18 : K.lookup f18 = some ⟨oc18, od18, .func (PySem.W.fnOf "is_row" "is_row" (defArgs s_is_row) (defBody s_is_row) (defScope s_is_row) .none kV18 dc18 pm18 an18 cd18 ct18), sl18⟩) (c18 : PySem.W.codeIn K cd18 "is_row" = true) (k18 : PySem.W.keepIn K (.ref f18) = true)
    (a19 : PySem.W.nsIn K mainGlobals "is_rule" = some (some (.ref f19))) (l19 : K.lookup f19 = some ⟨oc19, od19, .func (PySem.W.fnOf "is_rule" "is_rule" (defArgs s_is_rule) (defBody s_is_rule) (defScope s_is_rule) .none kV19 dc19 pm19 an19 cd19 ct19), sl19⟩) (c19 : PySem.W.codeIn K cd19 "is_rule" = true) (k19 : PySem.W.keepIn K (.ref f19) = true)
    (a20 : PySem.W.nsIn K mainGlobals "_law_once" = some (some (.ref f20))) (l20 : K.lookup f20 = some ⟨oc20, od20, .func (PySem.W.fnOf "_law_once" "_law_once" (defArgs s__law_once) (defBody s__law_once) (defScope s__law_once) .none kV20 dc20 pm20 an20 cd20 ct20), sl20⟩) (c20 : PySem.W.codeIn K cd20 "_law_once" = true) (k20 : PySem.W.keepIn K (.ref f20) = true)
    (a21 : PySem.W.nsIn K mainGlobals "law" = some (some (.ref f21))) (l21 : K.lookup f21 = some ⟨oc21, od21, .func (PySem.W.fnOf "law" "law" (defArgs s_law) (defBody s_law) (defScope s_law) .none kV21 dc21 pm21 an21 cd21 ct21), sl21⟩) (c21 : PySem.W.codeIn K cd21 "law" = true) (k21 : PySem.W.keepIn K (.ref f21) = true)
    (g_MOST : PySem.W.nsIn K mainGlobals "MOST" = some (some (.int 30 tk_MOST)))
    (z_len : PySem.W.nsIn K mainGlobals "len" = some none)
    (z_sum : PySem.W.nsIn K mainGlobals "sum" = some none)
    (z_all : PySem.W.nsIn K mainGlobals "all" = some none)
    (z_range : PySem.W.nsIn K mainGlobals "range" = some none)
    (z_enumerate : PySem.W.nsIn K mainGlobals "enumerate" = some none)
    (z_zip : PySem.W.nsIn K mainGlobals "zip" = some none)
    (z_max : PySem.W.nsIn K mainGlobals "max" = some none)
    (z_min : PySem.W.nsIn K mainGlobals "min" = some none)
    (z_int : PySem.W.nsIn K mainGlobals "int" = some none)
    (z_str : PySem.W.nsIn K mainGlobals "str" = some none)
    (z_bool : PySem.W.nsIn K mainGlobals "bool" = some none)
    (z_tuple : PySem.W.nsIn K mainGlobals "tuple" = some none)
    (z_list : PySem.W.nsIn K mainGlobals "list" = some none)
    (z_isinstance : PySem.W.nsIn K mainGlobals "isinstance" = some none)
    (z_sorted : PySem.W.nsIn K mainGlobals "sorted" = some none)
    (z_ValueError : PySem.W.nsIn K mainGlobals "ValueError" = some none)
    (tn : K.lookup T_t = none) (th : PySem.W.codeHdIn K c_t T_t = true) :
    LamX.LawAtS l w K CX0 8 63 "script" mg fa h := by
  have e := hfa.symm.trans (PySem.W.mg_of X G a21)
  cases e
  have B : Blt mg := ⟨PySem.W.mg_none_of X G z_len, PySem.W.mg_none_of X G z_sum, PySem.W.mg_none_of X G z_all, PySem.W.mg_none_of X G z_range, PySem.W.mg_none_of X G z_enumerate, PySem.W.mg_none_of X G z_zip, PySem.W.mg_none_of X G z_max, PySem.W.mg_none_of X G z_min, PySem.W.mg_none_of X G z_int, PySem.W.mg_none_of X G z_str, PySem.W.mg_none_of X G z_bool, PySem.W.mg_none_of X G z_tuple, PySem.W.mg_none_of X G z_list, PySem.W.mg_none_of X G z_isinstance, PySem.W.mg_none_of X G z_sorted, PySem.W.mg_none_of X G z_ValueError⟩
  have F1 := fun_mk (st := s__law_cell_at) l1 c1 k1
  have b1 := F1.binds (ps := ["script", "k"]) fun _ _ _ _ _ _ us hl => match us, hl with | [_, _], _ => rfl
  have F2 := fun_mk (st := s__law_mixed) l2 c2 k2
  have b2 := F2.binds (ps := ["script", "k"]) fun _ _ _ _ _ _ us hl => match us, hl with | [_, _], _ => rfl
  have F3 := fun_mk (st := s__law_drawn) l3 c3 k3
  have b3 := F3.binds (ps := ["number", "k"]) fun _ _ _ _ _ _ us hl => match us, hl with | [_, _], _ => rfl
  have F4 := fun_mk (st := s__law_numbers) l4 c4 k4
  have b4 := F4.binds (ps := ["number", "size", "many"]) fun _ _ _ _ _ _ us hl => match us, hl with | [_, _, _], _ => rfl
  have F5 := fun_mk (st := s__law_next) l5 c5 k5
  have b5 := F5.binds (ps := ["row", "rule", "size"]) fun _ _ _ _ _ _ us hl => match us, hl with | [_, _, _], _ => rfl
  have F6 := fun_mk (st := s__law_made) l6 c6 k6
  have b6 := F6.binds (ps := ["start", "rule", "size", "many"]) fun _ _ _ _ _ _ us hl => match us, hl with | [_, _, _, _], _ => rfl
  have F7 := fun_mk (st := s__law_row) l7 c7 k7
  have b7 := F7.binds (ps := ["number", "size", "most"]) fun _ _ _ _ _ _ us hl => match us, hl with | [_, _, _], _ => rfl
  have F8 := fun_mk (st := s__law_places_in_0) l8 c8 k8
  have b8 := F8.binds (ps := ["bent_one", "bent_way"]) fun _ _ _ _ _ _ us hl => match us, hl with | [_, _], _ => rfl
  have F9 := fun_mk (st := s__law_places_in) l9 c9 k9
  have b9 := F9.binds (ps := ["bent_one", "bent_way"]) fun _ _ _ _ _ _ us hl => match us, hl with | [_, _], _ => rfl
  have F10 := fun_mk (st := s__law_otherwise_t) l10 c10 k10
  have b10 := F10.binds (ps := ["bent_one", "bent_number"]) fun _ _ _ _ _ _ us hl => match us, hl with | [_, _], _ => rfl
  have F11 := fun_mk (st := s__law_otherwise_i) l11 c11 k11
  have b11 := F11.binds (ps := ["bent_one", "bent_number"]) fun _ _ _ _ _ _ us hl => match us, hl with | [_, _], _ => rfl
  have F12 := fun_mk (st := s__law_put_at) l12 c12 k12
  have b12 := F12.binds (ps := ["bent_one", "bent_way", "bent_by"]) fun _ _ _ _ _ _ us hl => match us, hl with | [_, _, _], _ => rfl
  have F13 := fun_mk (st := s__law_spoilt) l13 c13 k13
  have b13 := F13.binds (ps := ["thing", "number", "deep"]) fun _ _ _ _ _ _ us hl => match us, hl with | [_, _, _], _ => rfl
  have F14 := fun_mk (st := s__law_number) l14 c14 k14
  have b14 := F14.binds (ps := ["thing", "low", "high"]) fun _ _ _ _ _ _ us hl => match us, hl with | [_, _, _], _ => rfl
  have F15 := fun_mk (st := s__law_is_row) l15 c15 k15
  have b15 := F15.binds (ps := ["thing", "size"]) fun _ _ _ _ _ _ us hl => match us, hl with | [_, _], _ => rfl
  have F16 := fun_mk (st := s__law_same) l16 c16 k16
  have b16 := F16.binds (ps := ["found", "due"]) fun _ _ _ _ _ _ us hl => match us, hl with | [_, _], _ => rfl
  have F17 := fun_mk (st := s_is_whole) l17 c17 k17
  have b17 := F17.binds (ps := ["thing"]) fun _ _ _ _ _ _ us hl => match us, hl with | [_], _ => rfl
  have F18 := fun_mk (st := s_is_row) l18 c18 k18
  have b18 := F18.binds (ps := ["thing", "size"]) fun _ _ _ _ _ _ us hl => match us, hl with | [_, _], _ => rfl
  have F19 := fun_mk (st := s_is_rule) l19 c19 k19
  have b19 := F19.binds (ps := ["thing", "size"]) fun _ _ _ _ _ _ us hl => match us, hl with | [_, _], _ => rfl
  have F20 := fun_mk (st := s__law_once) l20 c20 k20
  have b20 := F20.binds (ps := ["script"]) fun _ _ _ _ _ _ us hl => match us, hl with | [_], _ => rfl
  have F21 := fun_mk (st := s_law) l21 c21 k21
  have b21 := F21.binds (ps := ["script"]) fun _ _ _ _ _ _ us hl => match us, hl with | [_], _ => rfl
  subst tt
  refine ⟨PySem.W.fnOf "law" "law" (defArgs s_law) (defBody s_law) (defScope s_law) .none kV21 dc21 pm21 an21 cd21 ct21, [(c_t, T_t)], spT K T_t q_t R_law, fun p hp => ?_, fun p hp => ?_, fun p hp => ?_, fun s v => .of_eq rfl, fun H a ns hl _ hT hS => EY.sp_lawT (hT (c_t, T_t) (List.mem_singleton_self _)) hS ⟨ns, rfl, hl, rfl⟩, fun base _ _ hTB => ?_⟩
  · rw [List.mem_singleton] at hp; subst hp; exact tY T_t (List.mem_singleton_self _)
  · rw [List.mem_singleton] at hp; subst hp; exact tn
  · rw [List.mem_singleton] at hp; subst hp; exact PySem.W.codeHd_of_K X th
  have TB := hTB (c_t, T_t) (List.mem_singleton_self _)
  have H__law_cell_at : Has l.prog w K mg base 1 "_law_cell_at" ["script", "k"] (spD K R__law_cell_at) := Has.mk' (fn__law_cell_at F1 B) F1 (PySem.W.mg_of X G a1) b1
  have H__law_mixed : Has l.prog w K mg base 2 "_law_mixed" ["script", "k"] (spD K R__law_mixed) := Has.mk' (fn__law_mixed F2 B H__law_cell_at) F2 (PySem.W.mg_of X G a2) b2
  have H__law_drawn : Has l.prog w K mg base 1 "_law_drawn" ["number", "k"] (spD K R__law_drawn) := Has.mk' (fn__law_drawn F3 B) F3 (PySem.W.mg_of X G a3) b3
  have H__law_numbers : Has l.prog w K mg base 2 "_law_numbers" ["number", "size", "many"] (spD K R__law_numbers) := Has.mk' (fn__law_numbers F4 B H__law_drawn) F4 (PySem.W.mg_of X G a4) b4
  have H__law_next : Has l.prog w K mg base 1 "_law_next" ["row", "rule", "size"] (spD K R__law_next) := Has.mk' (fn__law_next F5 B) F5 (PySem.W.mg_of X G a5) b5
  have H__law_made : Has l.prog w K mg base 2 "_law_made" ["start", "rule", "size", "many"] (spD K R__law_made) := Has.mk' (fn__law_made F6 B H__law_next) F6 (PySem.W.mg_of X G a6) b6
  have H__law_row : Has l.prog w K mg base 3 "_law_row" ["number", "size", "most"] (spD K R__law_row) := Has.mk' (fn__law_row F7 B H__law_numbers H__law_drawn H__law_made) F7 (PySem.W.mg_of X G a7) b7
  have H__law_places_in_0 : Has l.prog w K mg base 1 "_law_places_in" ["bent_one", "bent_way"] (spD K R__law_places_in_0) := Has.mk' (fn__law_places_in_0 F8 B) F8 (PySem.W.mg_of X G a8) b8
  have H__law_places_in : Has l.prog w K mg base 2 "_law_places_in" ["bent_one", "bent_way"] (spD K R__law_places_in) := Has.mk' (fn__law_places_in F9 B H__law_places_in_0) F9 (PySem.W.mg_of X G a9) b9
  have H__law_otherwise_t : Has l.prog w K mg base 1 "_law_otherwise" ["bent_one", "bent_number"] (spD K R__law_otherwise_t) := Has.mk' (fn__law_otherwise_t F10 B) F10 (PySem.W.mg_of X G a10) b10
  have H__law_otherwise_i : Has l.prog w K mg base 1 "_law_otherwise" ["bent_one", "bent_number"] (spD K R__law_otherwise_i) := Has.mk' (fn__law_otherwise_i F11 B) F11 (PySem.W.mg_of X G a11) b11
  have H__law_put_at : HasPut l.prog w K mg base "_law_put_at" "bent_one" "bent_way" "bent_by" s__law_put_at N__law_put_at := rf__law_put_at F12 (PySem.W.mg_of X G a12) b12 B
  have FC13 : FunC K "_law_spoilt" "_law_spoilt" s__law_spoilt f13 _ (.ref c_t) := ⟨⟨_, _, _, _, _, _, _, _, rfl, l13, c13⟩⟩
  have H__law_spoilt : Has l.prog w K mg base 6 "_law_spoilt" ["thing", "number", "deep"] (spT K T_t q_t R__law_spoilt) := Has.mk' (fn__law_spoilt TB FC13 B H__law_places_in H__law_otherwise_t H__law_otherwise_i H__law_put_at) F13 (PySem.W.mg_of X G a13) b13
  have H__law_number : Has l.prog w K mg base 1 "_law_number" ["thing", "low", "high"] (spD K R__law_number) := Has.mk' (fn__law_number F14 B) F14 (PySem.W.mg_of X G a14) b14
  have H__law_is_row : Has l.prog w K mg base 2 "_law_is_row" ["thing", "size"] (spD K R__law_is_row) := Has.mk' (fn__law_is_row F15 B H__law_number) F15 (PySem.W.mg_of X G a15) b15
  have H__law_same : Has l.prog w K mg base 1 "_law_same" ["found", "due"] (spD K R__law_same) := Has.mk' (fn__law_same F16 B) F16 (PySem.W.mg_of X G a16) b16
  have H_is_whole : Has l.prog w K mg base 1 "is_whole" ["thing"] (spD K R_is_whole) := Has.mk' (fn_is_whole F17 B) F17 (PySem.W.mg_of X G a17) b17
  have H_is_row : Has l.prog w K mg base 2 "is_row" ["thing", "size"] (spD K R_is_row) := Has.mk' (fn_is_row F18 B H_is_whole (PySem.W.mg_of X G g_MOST)) F18 (PySem.W.mg_of X G a18) b18
  have H_is_rule : Has l.prog w K mg base 3 "is_rule" ["thing", "size"] (spD K R_is_rule) := Has.mk' (fn_is_rule F19 B H_is_row) F19 (PySem.W.mg_of X G a19) b19
  have FC20 : FunC K "_law_once" "_law_once" s__law_once f20 _ cd20 := ⟨⟨_, _, _, _, _, _, _, _, rfl, l20, c20⟩⟩
  have H__law_once : Has l.prog w K mg base 7 "_law_once" ["script"] (spT K T_t q_t R__law_once) := Has.mk' (fn__law_once FC20 B H__law_mixed H__law_row H__law_numbers H__law_spoilt H__law_is_row H__law_same H_is_row H_is_rule) F20 (PySem.W.mg_of X G a20) b20
  have FC21 : FunC K "law" "law" s_law fa _ cd21 := ⟨⟨_, _, _, _, _, _, _, _, rfl, l21, c21⟩⟩
  exact fn_law FC21 B H__law_once
end K
open PySem PySem.W PyProof.Rows in
set_option maxRecDepth 100000 in
set_option maxHeartbeats 0 in
theorem PySem.Challenge.cw_echoyard_k09_lists_anywhere_holds : PySem.Challenge.rw_echoyard_k09_lists_anywhere.Holds := by
  w_on; o_law; k_head; (case hw => w_witness2)
  k_fill
  refine LamX.walk_ofTs (l := PySem.Challenge.rw_echoyard_k09_lists_anywhere) (n := 63) (k := 8) (x := "script") (CX := fun _ => L2.CX0) rfl (by decide) rfl ⟨rfl, by decide, by decide⟩ (fun w h Y => PySem.W.km_in_of Y) ?F (fun _ _ _ _ _ h => h)
  case F =>
    intro w mg fa h Y KX G hmg
    refine' K.all_mk KX G hmg (PySem.W.km_tabs_of Y) ?tt ?a1 ?l1 ?c1 ?k1 ?a2 ?l2 ?c2 ?k2 ?a3 ?l3 ?c3 ?k3 ?a4 ?l4 ?c4 ?k4 ?a5 ?l5 ?c5 ?k5 ?a6 ?l6 ?c6 ?k6 ?a7 ?l7 ?c7 ?k7 ?a8 ?l8 ?c8 ?k8 ?a9 ?l9 ?c9 ?k9 ?a10 ?l10 ?c10 ?k10 ?a11 ?l11 ?c11 ?k11 ?a12 ?l12 ?c12 ?k12 ?a13 ?l13 ?c13 ?k13 ?a14 ?l14 ?c14 ?k14 ?a15 ?l15 ?c15 ?k15 ?a16 ?l16 ?c16 ?k16 ?a17 ?l17 ?c17 ?k17 ?a18 ?l18 ?c18 ?k18 ?a19 ?l19 ?c19 ?k19 ?a20 ?l20 ?c20 ?k20 ?a21 ?l21 ?c21 ?k21 ?g_MOST ?z_len ?z_sum ?z_all ?z_range ?z_enumerate ?z_zip ?z_max ?z_min ?z_int ?z_str ?z_bool ?z_tuple ?z_list ?z_isinstance ?z_sorted ?z_ValueError ?tn ?th
    (case tt => rfl)
    (case a1 => k_is)
    (case l1 => k_is)
    (case c1 => k_is)
    (case k1 => k_is)
    (case a2 => k_is)
    (case l2 => k_is)
    (case c2 => k_is)
    (case k2 => k_is)
    (case a3 => k_is)
    (case l3 => k_is)
    (case c3 => k_is)
    (case k3 => k_is)
    (case a4 => k_is)
    (case l4 => k_is)
    (case c4 => k_is)
    (case k4 => k_is)
    (case a5 => k_is)
    (case l5 => k_is)
    (case c5 => k_is)
    (case k5 => k_is)
    (case a6 => k_is)
    (case l6 => k_is)
    (case c6 => k_is)
    (case k6 => k_is)
    (case a7 => k_is)
    (case l7 => k_is)
    (case c7 => k_is)
    (case k7 => k_is)
    (case a8 => k_is)
    (case l8 => k_is)
    (case c8 => k_is)
    (case k8 => k_is)
    (case a9 => k_is)
    (case l9 => k_is)
    (case c9 => k_is)
    (case k9 => k_is)
    (case a10 => k_is)
    (case l10 => k_is)
    (case c10 => k_is)
    (case k10 => k_is)
    (case a11 => k_is)
    (case l11 => k_is)
    (case c11 => k_is)
    (case k11 => k_is)
    (case a12 => k_is)
    (case l12 => k_is)
    (case c12 => k_is)
    (case k12 => k_is)
    (case a13 => k_is)
    (case l13 => k_is)
    (case c13 => k_is)
    (case k13 => k_is)
    (case a14 => k_is)
    (case l14 => k_is)
    (case c14 => k_is)
    (case k14 => k_is)
    (case a15 => k_is)
    (case l15 => k_is)
    (case c15 => k_is)
    (case k15 => k_is)
    (case a16 => k_is)
    (case l16 => k_is)
    (case c16 => k_is)
    (case k16 => k_is)
    (case a17 => k_is)
    (case l17 => k_is)
    (case c17 => k_is)
    (case k17 => k_is)
    (case a18 => k_is)
    (case l18 => k_is)
    (case c18 => k_is)
    (case k18 => k_is)
    (case a19 => k_is)
    (case l19 => k_is)
    (case c19 => k_is)
    (case k19 => k_is)
    (case a20 => k_is)
    (case l20 => k_is)
    (case c20 => k_is)
    (case k20 => k_is)
    (case a21 => k_is)
    (case l21 => k_is)
    (case c21 => k_is)
    (case k21 => k_is)
    (case g_MOST => k_is)
    (case z_len => k_is)
    (case z_sum => k_is)
    (case z_all => k_is)
    (case z_range => k_is)
    (case z_enumerate => k_is)
    (case z_zip => k_is)
    (case z_max => k_is)
    (case z_min => k_is)
    (case z_int => k_is)
    (case z_str => k_is)
    (case z_bool => k_is)
    (case z_tuple => k_is)
    (case z_list => k_is)
    (case z_isinstance => k_is)
    (case z_sorted => k_is)
    (case z_ValueError => k_is)
    (case tn => first | rfl | k_is | kernel_rfl)
    (case th => first | rfl | k_is | kernel_rfl)
