import PyProof.Rows.All
import Wide.All
import OpenK.AllK
import Wide.FinOn
import HandS.ForMost
import HandS.IsInst
import HandS.Wide
import HandS.Deep
import HandS.TupAny
import HandS.RaiseMore
import KE.KExcSuper
import HandS.ForExc
import HandS.ExcIs
import HandS.HotCalls
import PySem.Challenge.RW_gridplots_k76_turns_of_finite_order
set_option Elab.async false
set_option linter.all false
set_option maxRecDepth 100000
/-! F3: a data-level reading of defs, over the hand layer -/
namespace F3
open PySem PySem.Spec PyProof.Rows L2

/-- a value as data: shared; a fresh list of the running def's; a list of a slot's own -/
inductive Res where
  | sh (d : PyData)
  | fr (ds : List PyData)
  | bo (ds : List PyData)
@[simp] def Res.dat : Res → PyData
  | .sh d => d
  | .fr ds => .list ds
  | .bo ds => .list ds
abbrev Rh := List (Option Res)

/-! ### heaps -/
def off (H : Hp) (O : List Addr) : Hp := fun b => if b ∈ O then none else H b
theorem off_in {H : Hp} {O : List Addr} {b : Addr} (h : b ∈ O) : off H O b = none := if_pos h
theorem off_out {H : Hp} {O : List Addr} {b : Addr} (h : b ∉ O) : off H O b = H b := if_neg h
theorem off_some {H : Hp} {O : List Addr} {b : Addr} {o : HO} (h : off H O b = some o) : b ∉ O ∧ H b = some o := by
  by_cases hb : b ∈ O
  · rw [off_in hb] at h; cases h
  · rw [off_out hb] at h; exact ⟨hb, h⟩
theorem off_same {H H' : Hp} {O : List Addr} (e : Same H H') : Same (off H O) (off H' O) := fun b o h => by
  obtain ⟨hb, h⟩ := off_some h
  rw [off_out hb]; exact e _ _ h
theorem off_le {H : Hp} {O : List Addr} : Same (off H O) H := fun b o h => (off_some h).2
theorem off_sub {H : Hp} {O O' : List Addr} (s : ∀ b ∈ O', b ∈ O) : Same (off H O) (off H O') := fun b o h => by
  obtain ⟨hb, h⟩ := off_some h
  rw [off_out fun z => hb (s b z)]; exact h
theorem off_new {H : Hp} {O : List Addr} {p : Addr} (h : H p = none) : Same (off H O) (off H (p :: O)) := fun b o e => by
  obtain ⟨hb, e⟩ := off_some e
  rw [off_out fun z => ?_]
  · exact e
  · rcases List.mem_cons.mp z with z | z
    · rw [z, h] at e; cases e
    · exact hb z
theorem off_upd {H : Hp} {O : List Addr} {p : Addr} {o : HO} (h : p ∈ O) : off (upd H p o) O = off H O := by
  funext b
  by_cases hb : b ∈ O
  · rw [off_in hb, off_in hb]
  · rw [off_out hb, off_out hb, upd_ne fun z => hb (by rw [z]; exact h)]
theorem same_new {H : Hp} {p : Addr} {o : HO} (h : H p = none) : Same H (upd H p o) := fun b u e => by
  rw [upd_ne (ne_of_none e h)]; exact e

section
variable {K : PySem.W.Frag} {H H' : Hp}
theorem Same.tup {a : Addr} {xs : List V} (e : Same H H') (h : SqT K H a xs) : SqT K H' a xs := by
  rcases h with (h | ⟨o, h⟩) | h
  · exact .inl (.inl (e _ _ h))
  · exact .inl (.inr ⟨o, e _ _ h⟩)
  · exact .inr h
mutual
theorem dp_mono (e : Same H H') : ∀ (d : PyData) (v : V), Dp K H v d → Dp K H' v d
  | .none, _, h => by cases h; exact .non
  | .bool b, _, h => by cases h; exact .bl b
  | .int i, _, h => by cases h; exact .int i
  | .str x, _, h => by cases h; exact .str x
  | .list ds, _, h => by
    cases h with
    | lst hs ha => exact .lst (e.seq hs) (dpa_mono e ds _ ha)
  | .tuple ds, _, h => by
    cases h with
    | tup hs ha => exact .tup (Same.tup e hs) (dpa_mono e ds _ ha)
  | .dict _, _, h => by cases h
theorem dpa_mono (e : Same H H') : ∀ (ds : List PyData) (vs : List V), DpAll K H vs ds → DpAll K H' vs ds
  | [], _, h => by cases h; exact .nil
  | d :: ds, _, h => by
    cases h with
    | cons h1 h2 => exact .cons (dp_mono e d _ h1) (dpa_mono e ds _ h2)
end
theorem dpa_len : ∀ {ds : List PyData} {vs : List V}, DpAll K H vs ds → vs.length = ds.length
  | [], _, h => by cases h; rfl
  | d :: ds, _, h => by
    cases h with
    | cons h1 h2 => rw [List.length_cons, List.length_cons, dpa_len h2]
theorem dpa_get : ∀ {ds : List PyData} {vs : List V} {i : Nat} {d : PyData}, DpAll K H vs ds → ds[i]? = some d → ∃ v, vs[i]? = some v ∧ Dp K H v d
  | [], _, _, _, _, e => by simp at e
  | d :: ds, _, 0, _, h, e => by
    cases h with
    | cons h1 h2 =>
      simp at e; subst e
      exact ⟨_, rfl, h1⟩
  | d :: ds, _, i + 1, x, h, e => by
    cases h with
    | cons h1 h2 =>
      obtain ⟨v, e1, e2⟩ := dpa_get (i := i) (d := x) h2 (by simpa using e)
      exact ⟨v, by simpa using e1, e2⟩
theorem dpa_get' : ∀ {ds : List PyData} {vs : List V} {i : Nat} {v : V}, DpAll K H vs ds → vs[i]? = some v → ∃ d, ds[i]? = some d ∧ Dp K H v d
  | [], _, _, _, h, e => by cases h; simp at e
  | d :: ds, _, 0, _, h, e => by
    cases h with
    | cons h1 h2 =>
      simp at e; subst e
      exact ⟨_, rfl, h1⟩
  | d :: ds, _, i + 1, x, h, e => by
    cases h with
    | cons h1 h2 =>
      obtain ⟨v, e1, e2⟩ := dpa_get' (i := i) (v := x) h2 (by simpa using e)
      exact ⟨v, by simpa using e1, e2⟩
theorem dpa_append : ∀ {ds es : List PyData} {vs ws : List V}, DpAll K H vs ds → DpAll K H ws es → DpAll K H (vs ++ ws) (ds ++ es)
  | [], _, _, _, h, g => by cases h; exact g
  | _ :: _, _, _, _, h, g => by
    cases h with
    | cons h1 h2 => exact .cons h1 (dpa_append h2 g)
theorem dpa_take : ∀ (n : Nat) {ds : List PyData} {vs : List V}, DpAll K H vs ds → DpAll K H (vs.take n) (ds.take n)
  | 0, _, _, _ => .nil
  | n + 1, [], _, h => by cases h; exact .nil
  | n + 1, _ :: _, _, h => by
    cases h with
    | cons h1 h2 => exact .cons h1 (dpa_take n h2)
theorem dpa_drop : ∀ (n : Nat) {ds : List PyData} {vs : List V}, DpAll K H vs ds → DpAll K H (vs.drop n) (ds.drop n)
  | 0, _, _, h => h
  | n + 1, [], _, h => by cases h; exact .nil
  | n + 1, _ :: _, _, h => by
    cases h with
    | cons h1 h2 => exact dpa_drop n h2
theorem dpa_set : ∀ (i : Nat) {ds : List PyData} {vs : List V} {d : PyData} {v : V}, DpAll K H vs ds → Dp K H v d → DpAll K H (vs.set i v) (ds.set i d)
  | _, [], _, _, _, h, _ => by cases h; exact .nil
  | 0, _ :: _, _, _, _, h, g => by
    cases h with
    | cons h1 h2 => exact .cons g h2
  | i + 1, _ :: _, _, _, _, h, g => by
    cases h with
    | cons h1 h2 => exact .cons h1 (dpa_set i h2 g)
theorem dpa_dropLast {ds : List PyData} {vs : List V} (h : DpAll K H vs ds) : DpAll K H vs.dropLast ds.dropLast := by
  rw [List.dropLast_eq_take, List.dropLast_eq_take, dpa_len h]
  exact dpa_take _ h
theorem dpa_reverse : ∀ {ds : List PyData} {vs : List V}, DpAll K H vs ds → DpAll K H vs.reverse ds.reverse
  | [], _, h => by cases h; exact .nil
  | _ :: _, _, h => by
    cases h with
    | cons h1 h2 =>
      rw [List.reverse_cons, List.reverse_cons]
      exact dpa_append (dpa_reverse h2) (.cons h1 .nil)
theorem dpa_ints : ∀ (ns : List Int), DpAll K H (ns.map V.int) (ns.map PyData.int)
  | [] => .nil
  | n :: ns => .cons (.int n) (dpa_ints ns)
theorem dpa_toInts : ∀ {ns : List Int} {vs : List V}, DpAll K H vs (ns.map PyData.int) → vs = ns.map V.int
  | [], _, h => by cases h; rfl
  | n :: ns, _, h => by
    cases h with
    | cons h1 h2 => cases h1; rw [dpa_toInts h2]; rfl
theorem dpa_toBools : ∀ {ns : List Bool} {vs : List V}, DpAll K H vs (ns.map PyData.bool) → vs = ns.map V.bl
  | [], _, h => by cases h; rfl
  | n :: ns, _, h => by
    cases h with
    | cons h1 h2 => cases h1; rw [dpa_toBools h2]; rfl
end

/-! ### values -/
/-- H0: at the def's entry; Z: what its callers own; O: what is owned now -/
structure Bs (H0 : Hp) (Z O : List Addr) (H : Hp) : Prop where
  same : Same H0 H
  zo : ∀ p ∈ Z, p ∈ O
  z0 : ∀ p ∈ Z, ∃ o, H0 p = some o
  live : ∀ p ∈ O, ∃ o, H p = some o
theorem Bs.mono {H0 H H' : Hp} {Z O : List Addr} (b : Bs H0 Z O H) (e : Same H H') : Bs H0 Z O H' :=
  ⟨b.same.trans e, b.zo, b.z0, fun p hp => let ⟨o, h⟩ := b.live p hp; ⟨o, e _ _ h⟩⟩
theorem Bs.new {H0 H : Hp} {Z O : List Addr} {p : Addr} (b : Bs H0 Z O H) (h : H p = none) : p ∉ O ∧ H0 p = none :=
  ⟨fun hp => (by
    obtain ⟨o, e⟩ := b.live p hp
    rw [h] at e
    cases e), b.same.free h⟩
theorem Bs.nz {H0 H : Hp} {Z O : List Addr} {p : Addr} (b : Bs H0 Z O H) (h : H0 p = none) : p ∉ Z := fun hz => by
  obtain ⟨o, e⟩ := b.z0 p hz
  rw [h] at e
  cases e

/-- v is r, in the heap H of a def entered at H0; a fresh list is younger than Hs; the lists at O are owned -/
def Vl (K : PySem.W.Frag) (H0 Hs : Hp) (O : List Addr) (H : Hp) : Res → V → Prop
  | .sh d, v => Dp K (off H O) v d
  | .fr ds, v => ∃ p vs, v = .ref p ∧ Hs p = none ∧ p ∉ O ∧ H p = some (.lst vs) ∧ DpAll K (off H (p :: O)) vs ds
  | .bo ds, v => ∃ p vs, v = .ref p ∧ H0 p = none ∧ p ∈ O ∧ H p = some (.lst vs) ∧ DpAll K (off H O) vs ds
/-- shared, if it is no slot's own -/
def Res.shr : Res → Option PyData
  | .sh d => some d
  | .fr ds => some (.list ds)
  | .bo _ => none
/-- the items of a list, whoever owns it: they are shared -/
def Res.lst : Res → Option (List PyData)
  | .sh (.list ds) => some ds
  | .fr ds => some ds
  | .bo ds => some ds
  | _ => none
def Res.tup : Res → Option (List PyData)
  | .sh (.tuple ds) => some ds
  | _ => none
section
variable {K : PySem.W.Frag} {H0 Hs H H' : Hp} {Z O : List Addr}
theorem Vl.anti {r : Res} {v : V} {Hs' : Hp} (h : Vl K H0 Hs' O H r v) (e : Same Hs Hs') : Vl K H0 Hs O H r v := by
  cases r with
  | sh d => exact h
  | fr ds =>
    obtain ⟨p, vs, h1, h2, h3⟩ := h
    exact ⟨p, vs, h1, e.free h2, h3⟩
  | bo ds => exact h
theorem Vl.mono {r : Res} {v : V} (h : Vl K H0 Hs O H r v) (e : Same H H') : Vl K H0 Hs O H' r v := by
  cases r with
  | sh d => exact dp_mono (off_same e) d v h
  | fr ds =>
    obtain ⟨p, vs, h1, h2, h3, h4, h5⟩ := h
    exact ⟨p, vs, h1, h2, h3, e _ _ h4, dpa_mono (off_same e) ds vs h5⟩
  | bo ds =>
    obtain ⟨p, vs, h1, h2, h3, h4, h5⟩ := h
    exact ⟨p, vs, h1, h2, h3, e _ _ h4, dpa_mono (off_same e) ds vs h5⟩
theorem Vl.full {r : Res} {v : V} (h : Vl K H0 Hs O H r v) : Dp K H v r.dat := by
  cases r with
  | sh d => exact dp_mono off_le d v h
  | fr ds =>
    obtain ⟨p, vs, rfl, h2, h3, h4, h5⟩ := h
    exact .lst (SqL.of h4) (dpa_mono off_le ds vs h5)
  | bo ds =>
    obtain ⟨p, vs, rfl, h2, h3, h4, h5⟩ := h
    exact .lst (SqL.of h4) (dpa_mono off_le ds vs h5)
theorem Vl.shr {r : Res} {d : PyData} {v : V} (h : Vl K H0 Hs O H r v) (e : r.shr = some d) : Dp K (off H O) v d := by
  cases r with
  | sh d' => cases e; exact h
  | fr ds =>
    cases e
    obtain ⟨p, vs, rfl, h2, h3, h4, h5⟩ := h
    exact .lst (SqL.of (by rw [off_out h3]; exact h4)) (dpa_mono (off_sub fun b hb => List.mem_cons_of_mem _ hb) ds vs h5)
  | bo ds => cases e
theorem Vl.lst {r : Res} {ds : List PyData} {v : V} (h : Vl K H0 Hs O H r v) (e : r.lst = some ds) : ∃ p vs, v = .ref p ∧ SqL K H p vs ∧ DpAll K (off H O) vs ds := by
  cases r with
  | sh d =>
    cases d <;> simp only [Res.lst] at e <;> try (cases e; done)
    cases e
    have h : Dp K (off H O) v (.list _) := h
    cases h with
    | lst hs ha => exact ⟨_, _, rfl, off_le.seq hs, ha⟩
  | fr ds =>
    cases e
    obtain ⟨p, vs, rfl, h2, h3, h4, h5⟩ := h
    exact ⟨p, vs, rfl, SqL.of h4, dpa_mono (off_sub fun b hb => List.mem_cons_of_mem _ hb) ds vs h5⟩
  | bo ds =>
    cases e
    obtain ⟨p, vs, rfl, h2, h3, h4, h5⟩ := h
    exact ⟨p, vs, rfl, SqL.of h4, h5⟩
theorem Vl.tup {r : Res} {ds : List PyData} {v : V} (h : Vl K H0 Hs O H r v) (e : r.tup = some ds) : ∃ p vs, v = .ref p ∧ SqT K (off H O) p vs ∧ DpAll K (off H O) vs ds := by
  cases r with
  | sh d =>
    cases d <;> simp only [Res.tup] at e <;> try (cases e; done)
    cases e
    have h : Dp K (off H O) v (.tuple _) := h
    cases h with
    | tup hs ha => exact ⟨_, _, rfl, hs, ha⟩
  | fr ds => cases e
  | bo ds => cases e
theorem Vl.int {i : Int} : Vl K H0 Hs O H (.sh (.int i)) (.int i) := Dp.int i
theorem Vl.bool {b : Bool} : Vl K H0 Hs O H (.sh (.bool b)) (.bl b) := Dp.bl b
theorem Vl.none : Vl K H0 Hs O H (.sh .none) .non := Dp.non
theorem Vl.str {b : Str} : Vl K H0 Hs O H (.sh (.str b)) (.str b) := Dp.str b
theorem Vl.to_int {i : Int} {v : V} (h : Vl K H0 Hs O H (.sh (.int i)) v) : v = .int i := by
  have h : Dp K (off H O) v (.int i) := h
  cases h; rfl
theorem Vl.to_bool {i : Bool} {v : V} (h : Vl K H0 Hs O H (.sh (.bool i)) v) : v = .bl i := by
  have h : Dp K (off H O) v (.bool i) := h
  cases h; rfl
theorem Vl.to_str {i : Str} {v : V} (h : Vl K H0 Hs O H (.sh (.str i)) v) : v = .str i := by
  have h : Dp K (off H O) v (.str i) := h
  cases h; rfl
theorem Vl.to_none {v : V} (h : Vl K H0 Hs O H (.sh .none) v) : v = .non := by
  have h : Dp K (off H O) v .none := h
  cases h; rfl
/-- a new list -/
theorem Vl.newL {p : Addr} {vs : List V} {ds : List PyData} (b : Bs H0 Z O H) (e : Same Hs H) (h : H p = Option.none) (hd : DpAll K (off H O) vs ds) : Vl K H0 Hs O (upd H p (.lst vs)) (.fr ds) (.ref p) :=
  ⟨p, vs, rfl, e.free h, (b.new h).1, upd_same, dpa_mono ((off_new h).trans (off_same (same_new h))) ds vs hd⟩
theorem Vl.newT {p : Addr} {vs : List V} {ds : List PyData} (b : Bs H0 Z O H) (h : H p = Option.none) (hd : DpAll K (off H O) vs ds) : Vl K H0 Hs O (upd H p (.tup vs)) (.sh (.tuple ds)) (.ref p) := by
  refine Dp.tup (SqT.of (a := p) ?_) (dpa_mono (off_same (same_new h)) ds vs hd)
  rw [off_out (b.new h).1]; exact upd_same
end

/-! ### states -/
structure Cor (K : PySem.W.Frag) (H0 : Hp) (Z O : List Addr) (ρ : Rh) (σ : L2.St) (H : Hp) : Prop where
  bs : Bs H0 Z O H
  sl : ∀ (i : Nat) (r : Res), ρ[i]? = some (some r) → ∃ v, σ[i]? = some (some v) ∧ Vl K H0 H0 O H r v ∧ ∀ ds, r ≠ .fr ds
  di : ∀ (i j : Nat) (ds es : List PyData) (p : Addr), i ≠ j → ρ[i]? = some (some (.bo ds)) → ρ[j]? = some (some (.bo es)) → σ[i]? = some (some (.ref p)) → σ[j]? = some (some (.ref p)) → False
  len : ρ.length = σ.length
section
variable {K : PySem.W.Frag} {H0 H H' : Hp} {Z O O' : List Addr} {ρ : Rh} {σ : L2.St}
theorem Cor.mono (c : Cor K H0 Z O ρ σ H) (e : Same H H') : Cor K H0 Z O ρ σ H' :=
  ⟨c.bs.mono e, fun i r h => let ⟨v, h1, h2, h3⟩ := c.sl i r h; ⟨v, h1, h2.mono e, h3⟩, c.di, c.len⟩
theorem set_some {α : Type} {l : List (Option α)} {i j : Nat} {a : α} (h : (l.set i none)[j]? = some (some a)) : l[j]? = some (some a) := by
  by_cases hj : i = j
  · subst hj
    by_cases hl : i < l.length
    · rw [List.getElem?_set_self hl] at h; cases h
    · rw [List.getElem?_eq_none (by simpa using hl)] at h; cases h
  · rwa [List.getElem?_set_ne hj] at h
/-- forget a slot -/
theorem Cor.forget (c : Cor K H0 Z O ρ σ H) (i : Nat) : Cor K H0 Z O (ρ.set i none) σ H :=
  ⟨c.bs, fun j r h => c.sl j r (set_some h), fun a b ds es p hab ha hb => c.di a b ds es p hab (set_some ha) (set_some hb), by rw [List.length_set]; exact c.len⟩
theorem set_get {α : Type} {l : List α} {i j : Nat} {a b : α} (h : (l.set i a)[j]? = some b) : (j = i ∧ b = a ∧ i < l.length) ∨ (j ≠ i ∧ l[j]? = some b) := by
  by_cases hj : i = j
  · subst hj
    by_cases hl : i < l.length
    · rw [List.getElem?_set_self hl] at h; cases h; exact .inl ⟨rfl, rfl, hl⟩
    · rw [List.getElem?_eq_none (by simpa using hl)] at h; cases h
  · rw [List.getElem?_set_ne hj] at h; exact .inr ⟨fun e => hj e.symm, h⟩
/-- store a shared value -/
theorem Cor.setS (c : Cor K H0 Z O ρ σ H) (i : Nat) {d : PyData} {v : V} (h : Dp K (off H O) v d) : Cor K H0 Z O (ρ.set i (some (.sh d))) (σ.set i (some v)) H := by
  refine ⟨c.bs, fun j r e => ?_, fun a b ds es p hab ha hb sa sb => ?_, by rw [List.length_set, List.length_set]; exact c.len⟩
  · rcases set_get e with ⟨rfl, e, hl⟩ | ⟨hj, e⟩
    · cases e
      exact ⟨v, List.getElem?_set_self (by rw [← c.len]; exact hl), h, fun _ z => by cases z⟩
    · rw [List.getElem?_set_ne hj.symm]; exact c.sl j r e
  · rcases set_get ha with ⟨_, e, _⟩ | ⟨h1, ha⟩
    · cases e
    · rcases set_get hb with ⟨_, e, _⟩ | ⟨h2, hb⟩
      · cases e
      · rw [List.getElem?_set_ne h1.symm] at sa
        rw [List.getElem?_set_ne h2.symm] at sb
        exact c.di a b ds es p hab ha hb sa sb
/-- store a fresh list: the slot owns it -/
theorem Cor.setF (c : Cor K H0 Z O ρ σ H) (e : Same H H') (i : Nat) {ds : List PyData} {p : Addr} {vs : List V} (h2 : H p = none) (h3 : p ∉ O) (h4 : H' p = some (.lst vs)) (h5 : DpAll K (off H' (p :: O)) vs ds) :
    Cor K H0 Z (p :: O) (ρ.set i (some (.bo ds))) (σ.set i (some (.ref p))) H' ∧ Same (off H O) (off H' (p :: O)) := by
  have sm : Same (off H O) (off H' (p :: O)) := (off_new h2).trans (off_same e)
  have b := c.bs.mono e
  have old : ∀ (j : Nat) (q : Addr) (xs : List PyData), ρ[j]? = some (some (.bo xs)) → σ[j]? = some (some (.ref q)) → q ≠ p := fun j q xs ej es => by
    obtain ⟨w, e1, ⟨q', ws, rfl, g0, gp, _⟩, _⟩ := c.sl j _ ej
    rw [es] at e1
    cases e1
    exact fun z => h3 (z ▸ gp)
  refine ⟨⟨⟨b.same, fun q hq => List.mem_cons_of_mem _ (b.zo q hq), b.z0, fun q hq => ?_⟩, fun j r ej => ?_, fun a b xs ys q hab ha hb sa sb => ?_, by rw [List.length_set, List.length_set]; exact c.len⟩, sm⟩
  · rcases List.mem_cons.mp hq with rfl | hq
    · exact ⟨_, h4⟩
    · exact b.live q hq
  · rcases set_get ej with ⟨rfl, ej, hl⟩ | ⟨hj, ej⟩
    · cases ej
      exact ⟨.ref p, List.getElem?_set_self (by rw [← c.len]; exact hl), ⟨p, vs, rfl, c.bs.same.free h2, List.mem_cons_self, h4, h5⟩, fun _ z => by cases z⟩
    · rw [List.getElem?_set_ne hj.symm]
      obtain ⟨w, e1, e2, e3⟩ := c.sl j r ej
      refine ⟨w, e1, ?_, e3⟩
      cases r with
      | sh d => exact dp_mono sm d w e2
      | fr xs => exact absurd rfl (e3 xs)
      | bo xs =>
        obtain ⟨q, ws, rfl, g0, gp, gl, gd⟩ := e2
        exact ⟨q, ws, rfl, g0, List.mem_cons_of_mem _ gp, e _ _ gl, dpa_mono sm xs ws gd⟩
  · rcases set_get ha with ⟨z1, ea, hl⟩ | ⟨h1, ha'⟩
    · rcases set_get hb with ⟨z2, _, _⟩ | ⟨h2', hb'⟩
      · exact hab (z1.trans z2.symm)
      · rw [z1, List.getElem?_set_self (by rw [← c.len]; exact hl)] at sa
        cases sa
        rw [List.getElem?_set_ne h2'.symm] at sb
        exact old _ _ _ hb' sb rfl
    · rcases set_get hb with ⟨z2, eb, hl⟩ | ⟨h2', hb'⟩
      · rw [z2, List.getElem?_set_self (by rw [← c.len]; exact hl)] at sb
        cases sb
        rw [List.getElem?_set_ne h1.symm] at sa
        exact old _ _ _ ha' sa rfl
      · rw [List.getElem?_set_ne h1.symm] at sa
        rw [List.getElem?_set_ne h2'.symm] at sb
        exact c.di _ _ xs ys q hab ha' hb' sa sb
/-- a slot's list is shared from now on -/
theorem Cor.freeze (c : Cor K H0 Z O ρ σ H) {i : Nat} {ds : List PyData} (e : ρ[i]? = some (some (.bo ds))) :
    ∃ O', Cor K H0 Z O' (ρ.set i (some (.sh (.list ds)))) σ H ∧ Same (off H O) (off H O') := by
  obtain ⟨v, h1, ⟨p, vs, rfl, h0, hp, hl, hd⟩, _⟩ := c.sl i _ e
  have sub : ∀ b ∈ O.filter (fun b => b != p), b ∈ O := fun b hb => (List.mem_filter.mp hb).1
  have np : p ∉ O.filter (fun b => b != p) := fun z => absurd rfl (bne_iff_ne.mp (List.mem_filter.mp z).2)
  have sm : Same (off H O) (off H (O.filter (fun b => b != p))) := off_sub sub
  have hi : i < ρ.length := (List.getElem?_eq_some_iff.mp e).1
  refine ⟨_, ⟨⟨c.bs.same, fun q hq => List.mem_filter.mpr ⟨c.bs.zo q hq, bne_iff_ne.mpr fun z => c.bs.nz h0 (by rw [← z]; exact hq)⟩, c.bs.z0, fun q hq => c.bs.live q (sub q hq)⟩, fun j r ej => ?_, fun a b xs ys q hab ha hb sa sb => ?_, by rw [List.length_set]; exact c.len⟩, sm⟩
  · rcases set_get ej with ⟨rfl, ej, _⟩ | ⟨hj, ej⟩
    · cases ej
      exact ⟨_, h1, Dp.lst (SqL.of (by rw [off_out np]; exact hl)) (dpa_mono sm ds vs hd), fun _ z => by cases z⟩
    · obtain ⟨w, e1, e2, e3⟩ := c.sl j r ej
      refine ⟨w, e1, ?_, e3⟩
      cases r with
      | sh d => exact dp_mono sm d w e2
      | fr xs => exact absurd rfl (e3 xs)
      | bo xs =>
        obtain ⟨q, ws, rfl, g0, gp, gl, gd⟩ := e2
        refine ⟨q, ws, rfl, g0, List.mem_filter.mpr ⟨gp, bne_iff_ne.mpr fun z => ?_⟩, gl, dpa_mono sm xs ws gd⟩
        subst z
        exact c.di j i xs ds q hj ej e e1 h1
  · rcases set_get ha with ⟨_, ea, _⟩ | ⟨_, ha⟩
    · cases ea
    · rcases set_get hb with ⟨_, eb, _⟩ | ⟨_, hb⟩
      · cases eb
      · exact c.di a b xs ys q hab ha hb sa sb
end
end F3
set_option maxRecDepth 100000
namespace F3
open PySem PySem.Spec PyProof.Rows L2

/-- what a def of data promises: it hands back g of its arguments; nothing that stood is changed; what is owned elsewhere (Z) is not reached -/
def spD (K : PySem.W.Frag) (n : Nat) (g : List PyData → Option Res) : Sp := fun vs H Q _ =>
  vs.length = n ∧ ∃ ds r Z, (∀ p ∈ Z, ∃ o, H p = some o) ∧ DpAll K (off H Z) vs ds ∧ g ds = some r ∧ ∀ v H', Same H H' → Vl K H H Z H' r v → Q v H'

/-- a def keeps a promise, where no repr runs -/
structure FnG (P : Program) (w : World) (K : PySem.W.Frag) (mg : Str → Option Value) (base : Heap) (k : Nat) (f : Addr) (fd : FuncData) (ps : List Str) (sp : Sp) : Prop where
  len : ∀ vs H Q E, sp vs H Q E → vs.length = ps.length
  run : ∀ (A : Around) (outer : List PySem.Env) (s : Shared) (H : Hp) (args : Args) (us : List Value) (vs : List V) (Q : VK),
    Room k A → A.guards = some [] → Env0 P w K mg base A outer s H → BindsTo s fd args (ps.zip us) → Vals vs us → sp vs H Q E0 →
      codeAny (model P w) A (.call (.ref f) args) (CR CX0 outer P w H s Q E0) s
theorem FnG.mono {P : Program} {w : World} {K : PySem.W.Frag} {mg : Str → Option Value} {base : Heap} {j k : Nat} {f : Addr} {fd : FuncData} {ps : List Str} {sp : Sp}
    (F : FnG P w K mg base j f fd ps sp) (h : j ≤ k) : FnG P w K mg base k f fd ps sp :=
  ⟨F.len, fun A o s H a us vs Q hr => F.run A o s H a us vs Q (hr.mono h)⟩

section
variable {P : Program} {w : World} {K : PySem.W.Frag} {mg : Str → Option Value} {base : Heap}
/-- a def's promise by its body -/
theorem fnG_of {x qual : Str} {st : Stmt} {f : Addr} {fd : FuncData} {N ps : List Str} {k : Nat} {sp : Sp} (F : Fun K x qual st f fd) (S : FnScope N ps (defScope st))
    (len : ∀ vs H Q E, sp vs H Q E → vs.length = ps.length)
    (body : ∀ (cdv : Value) (A : Around) (outer : List PySem.Env) (s : Shared) (H : Hp) (vs : List V) (Q : VK),
      Room k (A.deeper (envOfC qual (defScope st) s.heap.objs.size f cdv)) → A.guards = some [] → sp vs H Q E0 →
      ∃ t, PSs (cxOf CX0 P w K mg base N qual (defScope st) f cdv A outer s H E0).nox (defBody st) t ∧
        t { nx := fun _ H' => Q .non H', rt := Q } (start N vs) H) : FnG P w K mg base (k + 1) f fd ps sp := by
  obtain ⟨oc, od, kV, doc, pm, an, cdv, ct, osl, rfl, lk, hcd⟩ := F.ex
  refine ⟨len, fun A outer s H args us vs Q hr hg e0 hb r hsp => ?_⟩
  have KX : K.In s.heap := e0.mod.kin.keeps fun b o e => (e0.bs b o e).1
  have lim : s.heap.NoLimit := e0.mod.nolimit.keeps fun b o e => (e0.bs b o e).1
  refine codeAny_call_function hr.depth (KX _ _ lk) rfl S.co S.gen rfl
    (PySem.W.codeRec_of KX hcd) (hb _ _ _ _ ?_)
  refine wpAny_newFunctionEnv_cells S.kind (fun y hy => ?_) fun env he s1 x => ?_
  · obtain ⟨n, v⟩ := y
    cases S.par n (List.of_mem_zip hy).1 with
    | inl q => exact .inl q
    | inr q => exact .inr ⟨q, PySem.W.cellsFrom_some _ _ _ (.inl q)⟩
  subst he
  refine ⟨lim.keeps x.toInCall.keep, codeAny_func ?_⟩
  obtain ⟨t, ht, hq⟩ := body cdv A outer s H vs Q (hr.deeper _) hg hsp
  have I := inv_start (CX := CX0) (E := E0) S hr.hd e0 (len _ _ _ _ hsp) r x
  refine wpAny_mono (ht.nox.run [] s1 (start N vs) H _ I hq) (fun fl s' hs => ?_) fun e s' hs => hs
  cases fl with
  | ret u =>
    obtain ⟨v, σ', H', J, rv, q⟩ := hs
    exact ⟨v, H', J.os, J.bare, J.base, J.hok, rv, q⟩
  | next =>
    obtain ⟨σ', H', J, q⟩ := hs
    exact ⟨.non, H', J.os, J.bare, J.base, J.hok, rfl, q⟩
  | brk =>
    obtain ⟨_, _, _, q⟩ := hs
    exact q.elim
  | cont =>
    obtain ⟨_, _, _, q⟩ := hs
    exact q.elim
end

section
variable {X : Cx} {k : Nat} {f : Addr} {fd : FuncData} {ps : List Str} {sp : Sp} {x : Str} {p pos : Pos} {e : Expr} {es : List Expr} {t : TA}
def tCallD (sp : Sp) (t : TA) : TE := fun σ H Q => t σ H fun vs H1 => sp vs H1 Q E0
theorem runG {pins : List (Addr × Obj)} {σ : L2.St} {H : Hp} {s : Shared} {Q : VK} {us : List Value} {vs : List V}
    (F : FnG X.prog X.w X.K X.mg X.base k f fd ps sp) (hr : Room k X.A) (hG : X.A.guards = some []) (hb : Binds X.K fd ps [])
    (I : Inv X pins σ H s) (r : Vals vs us) (h : sp vs H Q E0) : wpAny (model X.prog X.w) X.A (call (.ref f) us) (EP X pins σ Q) X.xe s := by
  have hl : (us ++ []).length = ps.length := by rw [List.append_nil, ← r.length]; exact F.len _ _ _ _ h
  have hB := hb s us I.kIn hl
  rw [List.append_nil] at hB
  refine wpAny_call (codeAny_mono (F.run X.A X.stack s H ⟨us, []⟩ us vs Q hr hG I.env0 hB r h) fun r s' hq => ?_)
  cases r with
  | error e => exact hq.elim
  | ok fl =>
    cases fl with
    | ret u => exact I.after hq
    | next => exact hq.elim
    | brk => exact hq.elim
    | cont => exact hq.elim
theorem pe_callG (F : FnG X.prog X.w X.K X.mg X.base k f fd ps sp) (hr : Room k X.A) (hG : X.A.guards = some []) (hg : Gl X x) (hm : X.mg x = some (.ref f))
    (hk : PySem.W.keepIn X.K (.ref f) = true) (hb : Binds X.K fd ps []) (ha : PA X (e :: es) t)
    (hdb : (x == ("__debug__" : Str)) = false := by decide) (he : starEach (e :: es) X.env = (false, eval e X.env) :: starEach es X.env := by rfl)
    (hpl : (backTo pos (starEach es X.env)).any (·.1) = false := by rfl) : PE X (.Call (.Name x p) (e :: es) [] pos) (tCallD sp t) := by
  refine ⟨fun pins s σ H Q I h => wpAny_Call_Name_kw (ld_glob I hg hm ?_ hdb)⟩
  refine PySem.W.callWith_K (h₀ := X.base) I.ok.mod.kin hk
    (thn (ha.run pos pins s σ H _ I h) fun us s1 ⟨vs, H1, I1, r, q⟩ => ⟨I1.kIn, runG F hr hG hb I1 r q⟩) he hpl
theorem pe_callG0 (F : FnG X.prog X.w X.K X.mg X.base k f fd ps sp) (hr : Room k X.A) (hG : X.A.guards = some []) (hg : Gl X x) (hm : X.mg x = some (.ref f))
    (hk : PySem.W.keepIn X.K (.ref f) = true) (hb : Binds X.K fd ps []) (hdb : (x == ("__debug__" : Str)) = false := by decide) :
    PE X (.Call (.Name x p) [] [] pos) (tCallD sp tNil) :=
  ⟨fun pins s σ H Q I h => wpAny_Call_Name_kw (ld_glob I hg hm (PySem.W.callWith_K0 I.kIn hk (runG (us := []) F hr hG hb I .nil h)) hdb)⟩
end

/-! ### the end: the law's call -/
section
/-- as FnOk at the one place where the law is called -/
theorem FnG.top {P : Program} {w : World} {K : PySem.W.Frag} {mg : Str → Option Value} {base : Heap} {k : Nat} {f : Addr} {fd : FuncData} {ps : List Str} {sp : Sp}
    (F : FnG P w K mg base k f fd ps sp) : ∀ (s : Shared) (H : Hp) (args : Args) (us : List Value) (vs : List V) (Q : VK), Room k callerA → Env0 P w K mg base callerA [] s H →
      BindsTo s fd args (ps.zip us) → Vals vs us → sp vs H Q E0 → codeAny (model P w) callerA (.call (.ref f) args) (CR CX0 [] P w H s Q E0) s :=
  fun s H args us vs Q hr he => F.run callerA [] s H args us vs Q hr rfl he
end
end F3
set_option maxRecDepth 100000
namespace F3
open PySem PySem.Spec PyProof.Rows L2

/-- the call of the law's def, from an abstract heap in which at most the script is tracked -/
theorem callG {P : Program} {w : World} {K : PySem.W.Frag} {mg mb : Str → Option Value} {k : Nat} {fa a : Addr} {fd : FuncData} {x : Str} {sp : Sp} {s₁ : Shared} {H : Hp}
    (KX : K.In s₁.heap) (hns : s₁.heap.Ns mainGlobals mg) (hb : s₁.heap.Ns builtinsNs mb) (hbb : ∀ x : Str, x ≠ "__name__" → mb x = bootBuiltins x)
    (hlim : s₁.heap.NoLimit) (hg : s₁.gens = #[]) (hr : Room k callerA)
    (F : ∀ base : Heap, K.In base → base.Ns mainGlobals mg → FnG P w K mg base k fa fd [x] sp)
    (hbind : ∀ (s : Shared) (u : Value), BindsTo s fd ⟨[u], []⟩ [(x, u)])
    (hsp : sp [.ref a] H (fun v _ => v = .bl true) E0)
    (hO : Only H) (hok : HOk P w H s₁.heap) (nd : ∀ b o es ep, s₁.heap.get? b = some o → o.data = .dict es ep → H b = none)
    (nk : ∀ b o, K.lookup b = some o → H b = none) :
    codeAny (model P w) callerA (.call (.ref fa) ⟨[.ref a], []⟩)
      (fun r s' => r = .ok (.ret (.bool true)) ∧ OldK s₁.heap s'.heap ∧ s'.os = s₁.os ∧ AllBare s'.gens) s₁ := by
  have ns : ∀ {b : Addr} {m : Str → Option Value}, s₁.heap.Ns b m → (hidT s₁.heap H).Ns b m := fun {b m} h => by
    obtain ⟨o, es, ep, e, d, r⟩ := h
    exact ⟨o, es, ep, hidT_get e (nd b o es ep e d), d, r⟩
  have hK : K.In (hidT s₁.heap H) := fun b o e => hidT_get (KX b o e) (nk b o e)
  obtain ⟨mc, l1, l2⟩ := hlim
  have e0 : Env0 P w K mg (hidT s₁.heap H) callerA [] s₁ H :=
    { frames := rfl, mod := ⟨hK, ns hns, ⟨mb, ns hb, hbb⟩, ⟨mc, ns l1, l2⟩⟩, bs := fun b o e => of_hidT e, bsz := Nat.le_of_eq (hidT_size _ _),
      funs := trivial, frf := (fun b hb => nomatch hb), hok := hok, bare := .of_eq hg }
  have G := (F _ hK (ns hns)).top s₁ H ⟨[.ref a], []⟩ [.ref a] [.ref a] _ hr e0 (hbind s₁ (.ref a)) (.cons rfl .nil) hsp
  refine codeAny_mono G fun r s' h => ?_
  match r, h with
  | .error e, h => exact h.elim
  | .ok .next, h => exact h.elim
  | .ok .brk, h => exact h.elim
  | .ok .cont, h => exact h.elim
  | .ok (.ret u), h =>
    obtain ⟨v, H', os, bare, un, hok', r', q⟩ := h
    cases (show v = .bl true from q)
    cases (show u = Value.bool true from r')
    refine ⟨rfl, OldK.of_keep fun b o e => ?_, os, bare⟩
    rcases hO b with z | ⟨ob, xs, z⟩
    · exact un.keep b o e z (fun y => nomatch y) (fun y => nomatch y)
    · have e1 := (hok b _ z).1
      rw [e] at e1
      cases e1
      exact (hok' b _ (un.frzs b _ _ z)).1

/-- what k_head leaves, from the law's def's promise -/
theorem walkG {l : PySem.W.OpenLaw} {n k : Nat} {q : Program} {loose : List Str} {XP : (Str → Option Value) → Heap → Prop} {YP : World → Heap → Prop} {d : DefRec} {K : Params → PySem.W.Frag} {sp : World → Sp} {x : Str}
    (hn : l.most = some n) (hn2 : n ≤ sizeLine) (hdf : d.params.defaults = []) (hr : Room k callerA)
    (hY : ∀ (w : World) (h : Heap), YP w h → (K w.params).In h)
    (F : ∀ (w : World) (mg : Str → Option Value) (fa : Addr) (h : Heap), (K w.params).In h → h.Ns mainGlobals mg → mg d.name = some (.ref fa) →
      ∃ fd : FuncData, (∀ (s : Shared) (u : Value), BindsTo s fd ⟨[u], []⟩ [(x, u)]) ∧
        ∀ base : Heap, (K w.params).In base → base.Ns mainGlobals mg → FnG l.prog w (K w.params) mg base k fa fd [x] (sp w))
    (hsp : ∀ (w : World) (H : Hp) (a : Addr) (ns : List Int), ns.length ≤ n → Only H → SqL (K w.params) H a (ns.map V.int) → sp w [.ref a] H (fun v _ => v = .bl true) E0) :
    PySem.W.WalkO q loose XP YP l.row.toRowW d [] (fun f vs => PySem.call f vs) := by
  refine Att.attach_call hn hdf fun w s₀ s₁ mg mb fa o pm cd doc a vs ns G Y ho hd hcd hmg ha hi hlen hg => ?_
  have KX := hY w _ Y
  obtain ⟨fd, hb, hF⟩ := F w mg fa _ KX G.T.g hmg
  have rv := vals_ints hi
  have hl : ns.length ≤ sizeLine := Nat.le_trans hlen hn2
  cases hk : (K w.params).lookup a with
  | some o =>
    have e := KX a o hk
    rw [ha] at e
    cases e
    have hO : Only (fun _ => none) := fun _ => .inl rfl
    refine callG (H := fun _ => none) KX G.T.g G.T.b G.T.builtins G.T.nolimit hg hr hF hb
      (hsp w _ a ns hlen hO (.inr ⟨_, vs.toArray, _, hk, rfl, rfl, rfl, ?_, by simpa using rv⟩)) hO (fun b u z => (nomatch (show (none : Option HO) = some u from z))) (fun _ _ _ _ _ _ => rfl) fun _ _ _ => rfl
    rw [List.size_toArray, hi.length]
    exact hl
  | none =>
    let H : Hp := fun b => if b = a then some (.frz { cls := .type "list", data := .seq vs.toArray } (.lst (ns.map V.int))) else none
    have H1 : H a = some (.frz { cls := .type "list", data := .seq vs.toArray } (.lst (ns.map V.int))) := if_pos rfl
    have H2 : ∀ b, b ≠ a → H b = none := fun b hb => if_neg hb
    have hO : Only H := fun b => by
      by_cases hb : b = a
      · rw [hb]; exact .inr ⟨_, _, H1⟩
      · exact .inl (H2 b hb)
    refine callG (H := H) KX G.T.g G.T.b G.T.builtins G.T.nolimit hg hr hF hb (hsp w H a ns hlen hO (.inl (.inr ⟨_, H1⟩))) hO (fun b u z => ?_) (fun b o es ep e d => ?_) fun b o e => ?_
    · by_cases hb : b = a
      · subst hb
        rw [H1] at z
        cases z
        exact ⟨ha, by rw [List.length_map]; exact hl, vs, _, rv, ha⟩
      · rw [H2 b hb] at z; cases z
    · refine H2 b fun z => ?_
      subst z
      rw [ha] at e
      cases e
      exact nomatch (show Data.seq vs.toArray _ = Data.dict es ep from d)
    · refine H2 b fun z => ?_
      subst z
      rw [hk] at e
      cases e
end F3
set_option maxRecDepth 100000
namespace F3
open PySem PySem.Spec PyProof.Rows L2

/-- the longest list that is made -/
@[simp] abbrev LIM : Nat := 1000000
theorem lim_line {n : Nat} (h : n ≤ LIM) : n ≤ sizeLine := Nat.le_trans h (by decide)
theorem lim_lt {n : Nat} (h : n ≤ LIM) : n < sizeLine := Nat.lt_of_le_of_lt h (by decide)

def EOk (K : PySem.W.Frag) (t : TE) (f : Rh → Option Res) : Prop := ∀ (H0 : Hp) (Z O : List Addr) (ρ : Rh) (r : Res) (σ : L2.St) (H : Hp) (Q : VK),
  f ρ = some r → Cor K H0 Z O ρ σ H → (∀ v H', Same H H' → Vl K H0 H O H' r v → Q v H') → t σ H Q
def AOk (K : PySem.W.Frag) (t : TA) (f : Rh → Option (List Res)) : Prop := ∀ (H0 : Hp) (Z O : List Addr) (ρ : Rh) (r : List Res) (σ : L2.St) (H : Hp) (Q : List V → Hp → Prop),
  f ρ = some r → Cor K H0 Z O ρ σ H → (∀ v H', Same H H' → Paired (Vl K H0 H O H') r v → Q v H') → t σ H Q
def TOk (K : PySem.W.Frag) (t : TT) (f : Rh → Option Bool) : Prop := ∀ (H0 : Hp) (Z O : List Addr) (ρ : Rh) (b : Bool) (σ : L2.St) (H : Hp) (Q : Bool → Hp → Prop),
  f ρ = some b → Cor K H0 Z O ρ σ H → (∀ H', Same H H' → Q b H') → t σ H Q
/-- by values -/
def R1ok (K : PySem.W.Frag) (r : V → Hp → VK → Prop) (g : Res → Option Res) : Prop := ∀ (H0 : Hp) (Z O : List Addr) (Hs H : Hp) (x : V) (a c : Res) (Q : VK),
  g a = some c → Bs H0 Z O H → Same Hs H → Vl K H0 Hs O H a x → (∀ v H', Same H H' → Vl K H0 Hs O H' c v → Q v H') → r x H Q
def R2ok (K : PySem.W.Frag) (r : R2) (g : Res → Res → Option Res) : Prop := ∀ (H0 : Hp) (Z O : List Addr) (Hs H : Hp) (x y : V) (a b c : Res) (Q : VK),
  g a b = some c → Bs H0 Z O H → Same Hs H → Vl K H0 Hs O H a x → Vl K H0 Hs O H b y → (∀ v H', Same H H' → Vl K H0 Hs O H' c v → Q v H') → r x y H Q
def CRok (K : PySem.W.Frag) (r : List V → Hp → VK → Prop) (g : List Res → Option Res) : Prop := ∀ (H0 : Hp) (Z O : List Addr) (Hs H : Hp) (xs : List V) (as : List Res) (c : Res) (Q : VK),
  g as = some c → Bs H0 Z O H → Same Hs H → Paired (Vl K H0 Hs O H) as xs → (∀ v H', Same H H' → Vl K H0 Hs O H' c v → Q v H') → r xs H Q

/-! ### names, constants -/
def eVar (i : Nat) : Rh → Option Res := fun ρ => match ρ[i]? with | some x => x | none => none
@[simp] def eC (d : PyData) : Rh → Option Res := fun _ => some (.sh d)
section
variable {K : PySem.W.Frag}
theorem eok_var (i : Nat) : EOk K (tVar i) (eVar i) := fun H0 Z O ρ r σ H Q e c q => by
  unfold eVar at e
  cases h : ρ[i]? with
  | none => rw [h] at e; cases e
  | some x =>
    rw [h] at e
    obtain ⟨v, e1, e2, e3⟩ := c.sl i r (by rw [h]; exact congrArg some e)
    refine ⟨v, e1, q v H (Same.refl H) ?_⟩
    cases r with
    | sh d => exact e2
    | fr ds => exact absurd rfl (e3 ds)
    | bo ds => exact e2
theorem eok_const {v : V} {d : PyData} (h : ∀ H, Dp K H v d) : EOk K (tC v) (eC d) := fun H0 Z O ρ r σ H Q e c q => by
  cases e
  exact q v H (Same.refl H) (h _)
theorem eok_int (i : Int) : EOk K (tC (.int i)) (eC (.int i)) := eok_const fun _ => .int i
theorem eok_bool (b : Bool) : EOk K (tC (.bl b)) (eC (.bool b)) := eok_const fun _ => .bl b
theorem eok_none : EOk K (tC .non) (eC .none) := eok_const fun _ => .non
theorem eok_str (x : Str) : EOk K (tC (.str x)) (eC (.str x)) := eok_const fun _ => .str x

/-! ### operators -/
@[simp] def eUn (g : Res → Option Res) (a : Rh → Option Res) : Rh → Option Res := fun ρ => (a ρ).bind g
@[simp] def eBin (g : Res → Res → Option Res) (a b : Rh → Option Res) : Rh → Option Res := fun ρ => (a ρ).bind fun x => (b ρ).bind fun y => g x y
theorem bind_some {α β : Type} {x : Option α} {f : α → Option β} {b : β} (h : x.bind f = some b) : ∃ a, x = some a ∧ f a = some b := by
  cases x with
  | none => cases h
  | some a => exact ⟨a, rfl, h⟩
theorem eok_un {r : V → Hp → VK → Prop} {g : Res → Option Res} {ta : TE} {a : Rh → Option Res} (ho : R1ok K r g) (ha : EOk K ta a) : EOk K (tUn r ta) (eUn g a) :=
  fun H0 Z O ρ z σ H Q e c q => by
    obtain ⟨x, e1, e⟩ := bind_some e
    exact ha H0 Z O ρ x σ H _ e1 c fun v H1 s1 v1 => ho H0 Z O H H1 v x z Q e (c.bs.mono s1) s1 v1 fun u H2 s2 v2 => q u H2 (s1.trans s2) v2
theorem eok_op {r : R2} {g : Res → Res → Option Res} {ta tb : TE} {a b : Rh → Option Res} (ho : R2ok K r g) (ha : EOk K ta a) (hb : EOk K tb b) : EOk K (tOp r ta tb) (eBin g a b) :=
  fun H0 Z O ρ z σ H Q e c q => by
    obtain ⟨x, e1, e⟩ := bind_some e
    obtain ⟨y, e2, e⟩ := bind_some e
    exact ha H0 Z O ρ x σ H _ e1 c fun v H1 s1 v1 => hb H0 Z O ρ y σ H1 _ e2 (c.mono s1) fun u H2 s2 v2 =>
      ho H0 Z O H H2 v u x y z Q e (c.bs.mono (s1.trans s2)) (s1.trans s2) (v1.mono s2) (v2.anti s1) fun w H3 s3 v3 => q w H3 ((s1.trans s2).trans s3) v3

/-! ### arguments, displays, calls -/
@[simp] def aNil : Rh → Option (List Res) := fun _ => some []
@[simp] def aCons (a : Rh → Option Res) (as : Rh → Option (List Res)) : Rh → Option (List Res) := fun ρ => (a ρ).bind fun x => (as ρ).bind fun xs => some (x :: xs)
theorem aok_nil : AOk K tNil aNil := fun H0 Z O ρ z σ H Q e c q => by
  cases e
  exact q [] H (Same.refl H) .nil
theorem aok_cons {ta : TE} {t : TA} {a : Rh → Option Res} {as : Rh → Option (List Res)} (ha : EOk K ta a) (hr : AOk K t as) : AOk K (tCons ta t) (aCons a as) :=
  fun H0 Z O ρ z σ H Q e c q => by
    obtain ⟨x, e1, e⟩ := bind_some e
    obtain ⟨xs, e2, e⟩ := bind_some e
    cases e
    exact ha H0 Z O ρ x σ H _ e1 c fun v H1 s1 v1 => hr H0 Z O ρ xs σ H1 _ e2 (c.mono s1) fun vs H2 s2 v2 =>
      q (v :: vs) H2 (s1.trans s2) (.cons (v1.mono s2) (Paired.mapP v2 fun _ _ z => z.anti s1))
def shrs : List Res → Option (List PyData)
  | [] => some []
  | r :: rs => match r.shr, shrs rs with
    | some d, some ds => some (d :: ds)
    | _, _ => none
theorem shrs_ok {H0 Hs H : Hp} {O : List Addr} : ∀ {rs : List Res} {vs : List V} {ds : List PyData}, Paired (Vl K H0 Hs O H) rs vs → shrs rs = some ds → DpAll K (off H O) vs ds ∧ ds.length = rs.length
  | [], _, _, .nil, e => by cases e; exact ⟨.nil, rfl⟩
  | r :: rs, _, ds, .cons h t, e => by
    unfold shrs at e
    cases e1 : r.shr with
    | none => rw [e1] at e; cases e
    | some d =>
      cases e2 : shrs rs with
      | none => rw [e1, e2] at e; cases e
      | some es =>
        rw [e1, e2] at e
        cases e
        obtain ⟨h1, h2⟩ := shrs_ok t e2
        exact ⟨.cons (h.shr e1) h1, by rw [List.length_cons, List.length_cons, h2]⟩
@[simp] def eTup (as : Rh → Option (List Res)) : Rh → Option Res := fun ρ => (as ρ).bind fun rs => (shrs rs).bind fun ds => if ds.length ≤ LIM then some (.sh (.tuple ds)) else none
@[simp] def eLst (as : Rh → Option (List Res)) : Rh → Option Res := fun ρ => (as ρ).bind fun rs => (shrs rs).bind fun ds => if ds.length ≤ LIM then some (.fr ds) else none
theorem ite_some {c : Prop} [Decidable c] {α : Type} {a b : α} (h : (if c then some a else none) = some b) : c ∧ a = b := by
  by_cases hc : c
  · rw [if_pos hc] at h; exact ⟨hc, Option.some.inj h⟩
  · rw [if_neg hc] at h; cases h
theorem eok_tup {t : TA} {as : Rh → Option (List Res)} (ha : AOk K t as) : EOk K (tTup t) (eTup as) := fun H0 Z O ρ z σ H Q e c q => by
  obtain ⟨rs, e1, e⟩ := bind_some e
  obtain ⟨ds, e2, e⟩ := bind_some e
  obtain ⟨hl, rfl⟩ := ite_some e
  refine ha H0 Z O ρ rs σ H _ e1 c fun vs H1 s1 v1 => ?_
  obtain ⟨h1, h2⟩ := shrs_ok v1 e2
  exact ⟨by rw [dpa_len h1]; exact lim_line hl, fun p hp => q _ _ (s1.trans (same_new hp)) (Vl.newT (c.bs.mono s1) hp h1)⟩
theorem eok_lst {t : TA} {as : Rh → Option (List Res)} (ha : AOk K t as) : EOk K (tLst t) (eLst as) := fun H0 Z O ρ z σ H Q e c q => by
  obtain ⟨rs, e1, e⟩ := bind_some e
  obtain ⟨ds, e2, e⟩ := bind_some e
  obtain ⟨hl, rfl⟩ := ite_some e
  refine ha H0 Z O ρ rs σ H _ e1 c fun vs H1 s1 v1 => ?_
  obtain ⟨h1, h2⟩ := shrs_ok v1 e2
  exact ⟨by rw [dpa_len h1]; exact lim_line hl, fun p hp => q _ _ (s1.trans (same_new hp)) (Vl.newL (c.bs.mono s1) s1 hp h1)⟩
/-- a built-in -/
@[simp] def eCall (g : List Res → Option Res) (as : Rh → Option (List Res)) : Rh → Option Res := fun ρ => (as ρ).bind g
theorem eok_callB {r : List V → Hp → VK → Prop} {g : List Res → Option Res} {t : TA} {as : Rh → Option (List Res)} (ho : CRok K r g) (ha : AOk K t as) : EOk K (tCB r t) (eCall g as) :=
  fun H0 Z O ρ z σ H Q e c q => by
    obtain ⟨rs, e1, e⟩ := bind_some e
    exact ha H0 Z O ρ rs σ H _ e1 c fun vs H1 s1 v1 => ho H0 Z O H H1 vs rs z Q e (c.bs.mono s1) s1 v1 fun u H2 s2 v2 => q u H2 (s1.trans s2) v2
/-- a def of the text -/
@[simp] def eFn (g : List PyData → Option Res) (as : Rh → Option (List Res)) : Rh → Option Res := fun ρ => (as ρ).bind fun rs => (shrs rs).bind g
theorem eok_fn {n : Nat} {g : List PyData → Option Res} {t : TA} {as : Rh → Option (List Res)} (ha : AOk K t as) (hn : ∀ ρ rs, as ρ = some rs → rs.length = n) : EOk K (tCallD (spD K n g) t) (eFn g as) :=
  fun H0 Z O ρ z σ H Q e c q => by
    obtain ⟨rs, e1, e⟩ := bind_some e
    obtain ⟨ds, e2, e⟩ := bind_some e
    refine ha H0 Z O ρ rs σ H _ e1 c fun vs H1 s1 v1 => ?_
    obtain ⟨h1, h2⟩ := shrs_ok v1 e2
    refine ⟨by rw [dpa_len h1, h2]; exact hn ρ rs e1, ds, z, O, (c.bs.mono s1).live, h1, e, fun v H2 s2 v2 => q v H2 (s1.trans s2) ?_⟩
    cases z with
    | sh d => exact v2
    | fr es => exact v2.anti s1
    | bo es =>
      obtain ⟨p, ws, g1, g2, g3, g4⟩ := v2
      exact ⟨p, ws, g1, (c.bs.mono s1).same.free g2, g3, g4⟩
theorem an_nil : ∀ (ρ : Rh) rs, aNil ρ = some rs → rs.length = 0 := fun _ _ e => by cases e; rfl
theorem an_cons {n : Nat} {a : Rh → Option Res} {as : Rh → Option (List Res)} (h : ∀ ρ rs, as ρ = some rs → rs.length = n) : ∀ (ρ : Rh) rs, aCons a as ρ = some rs → rs.length = n + 1 := fun ρ rs e => by
  obtain ⟨x, e1, e⟩ := bind_some e
  obtain ⟨xs, e2, e⟩ := bind_some e
  cases e
  rw [List.length_cons, h ρ xs e2]

/-! ### tests -/
def Res.tob : Res → Option Bool
  | .sh (.bool b) => some b
  | _ => none
theorem Vl.tob {H0 Hs H : Hp} {O : List Addr} {r : Res} {b : Bool} {v : V} (h : Vl K H0 Hs O H r v) (e : r.tob = some b) : v = .bl b := by
  cases r with
  | sh d => cases d <;> cases e; exact h.to_bool
  | fr ds => cases e
  | bo ds => cases e
@[simp] def tOf (a : Rh → Option Res) : Rh → Option Bool := fun ρ => (a ρ).bind Res.tob
theorem tok_test {t : TE} {a : Rh → Option Res} (ha : EOk K t a) : TOk K (tTest t) (tOf a) := fun H0 Z O ρ b σ H Q e c q => by
  obtain ⟨r, e1, e⟩ := bind_some e
  exact ha H0 Z O ρ r σ H _ e1 c fun v H1 s1 v1 => ⟨b, v1.tob e, q H1 s1⟩
theorem tok_val {t : TE} {a : Rh → Option Res} (ha : EOk K t a) : TOk K (tB t) (tOf a) := fun H0 Z O ρ b σ H Q e c q => by
  obtain ⟨r, e1, e⟩ := bind_some e
  exact ha H0 Z O ρ r σ H _ e1 c fun v H1 s1 v1 => ⟨b, v1.tob e, q H1 s1⟩
@[simp] def tAndD (a b : Rh → Option Bool) : Rh → Option Bool := fun ρ => (a ρ).bind fun x => if x = true then b ρ else some false
@[simp] def tOrD (a b : Rh → Option Bool) : Rh → Option Bool := fun ρ => (a ρ).bind fun x => if x = true then some true else b ρ
@[simp] def tNotD (a : Rh → Option Bool) : Rh → Option Bool := fun ρ => (a ρ).bind fun x => some (!x)
theorem tok_and {t u : TT} {a b : Rh → Option Bool} (ha : TOk K t a) (hb : TOk K u b) : TOk K (tAnd t u) (tAndD a b) := fun H0 Z O ρ z σ H Q e c q => by
  obtain ⟨x, e1, e⟩ := bind_some e
  refine ha H0 Z O ρ x σ H _ e1 c fun H1 s1 => ?_
  by_cases hx : x = true
  · rw [if_pos hx] at e ⊢
    exact hb H0 Z O ρ z σ H1 _ e (c.mono s1) fun H2 s2 => q H2 (s1.trans s2)
  · rw [if_neg hx] at e ⊢
    cases e
    exact q H1 s1
theorem tok_or {t u : TT} {a b : Rh → Option Bool} (ha : TOk K t a) (hb : TOk K u b) : TOk K (tOr t u) (tOrD a b) := fun H0 Z O ρ z σ H Q e c q => by
  obtain ⟨x, e1, e⟩ := bind_some e
  refine ha H0 Z O ρ x σ H _ e1 c fun H1 s1 => ?_
  by_cases hx : x = true
  · rw [if_pos hx] at e ⊢
    cases e
    exact q H1 s1
  · rw [if_neg hx] at e ⊢
    exact hb H0 Z O ρ z σ H1 _ e (c.mono s1) fun H2 s2 => q H2 (s1.trans s2)
theorem tok_not {t : TT} {a : Rh → Option Bool} (ha : TOk K t a) : TOk K (tNot t) (tNotD a) := fun H0 Z O ρ z σ H Q e c q => by
  obtain ⟨x, e1, e⟩ := bind_some e
  cases e
  exact ha H0 Z O ρ x σ H _ e1 c fun H1 s1 => q H1 s1
/-- .. as values -/
@[simp] def eAndD (a b : Rh → Option Res) : Rh → Option Res := fun ρ => (a ρ).bind fun x => x.tob.bind fun k => if k = true then b ρ else some (.sh (.bool false))
@[simp] def eOrD (a b : Rh → Option Res) : Rh → Option Res := fun ρ => (a ρ).bind fun x => x.tob.bind fun k => if k = true then some (.sh (.bool true)) else b ρ
@[simp] def eNotD (a : Rh → Option Res) : Rh → Option Res := fun ρ => (a ρ).bind fun x => x.tob.bind fun k => some (.sh (.bool (!k)))
theorem vl_anti {H0 H H1 H2 : Hp} {O : List Addr} {r : Res} {v : V} (s : Same H H1) (h : Vl K H0 H1 O H2 r v) : Vl K H0 H O H2 r v := h.anti s
theorem eok_and {t u : TE} {a b : Rh → Option Res} (ha : EOk K t a) (hb : EOk K u b) : EOk K (tAndV t u) (eAndD a b) := fun H0 Z O ρ z σ H Q e c q => by
  obtain ⟨x, e1, e⟩ := bind_some e
  obtain ⟨k, e2, e⟩ := bind_some e
  refine ha H0 Z O ρ x σ H _ e1 c fun v H1 s1 v1 => ⟨k, v1.tob e2, ?_⟩
  by_cases hx : k = true
  · rw [if_pos hx] at e ⊢
    exact hb H0 Z O ρ z σ H1 _ e (c.mono s1) fun u H2 s2 v2 => q u H2 (s1.trans s2) (v2.anti s1)
  · rw [if_neg hx] at e ⊢
    cases e
    exact q _ H1 s1 .bool
theorem eok_or {t u : TE} {a b : Rh → Option Res} (ha : EOk K t a) (hb : EOk K u b) : EOk K (tOrV t u) (eOrD a b) := fun H0 Z O ρ z σ H Q e c q => by
  obtain ⟨x, e1, e⟩ := bind_some e
  obtain ⟨k, e2, e⟩ := bind_some e
  refine ha H0 Z O ρ x σ H _ e1 c fun v H1 s1 v1 => ⟨k, v1.tob e2, ?_⟩
  by_cases hx : k = true
  · rw [if_pos hx] at e ⊢
    cases e
    exact q _ H1 s1 .bool
  · rw [if_neg hx] at e ⊢
    exact hb H0 Z O ρ z σ H1 _ e (c.mono s1) fun u H2 s2 v2 => q u H2 (s1.trans s2) (v2.anti s1)
theorem eok_not {t : TE} {a : Rh → Option Res} (ha : EOk K t a) : EOk K (tNotV t) (eNotD a) := fun H0 Z O ρ z σ H Q e c q => by
  obtain ⟨x, e1, e⟩ := bind_some e
  obtain ⟨k, e2, e⟩ := bind_some e
  cases e
  exact ha H0 Z O ρ x σ H _ e1 c fun v H1 s1 v1 => ⟨k, v1.tob e2, q _ H1 s1 .bool⟩
@[simp] def eIfD (t : Rh → Option Bool) (a b : Rh → Option Res) : Rh → Option Res := fun ρ => (t ρ).bind fun k => if k = true then a ρ else b ρ
theorem eok_if {t : TT} {u w : TE} {k : Rh → Option Bool} {a b : Rh → Option Res} (ht : TOk K t k) (ha : EOk K u a) (hb : EOk K w b) : EOk K (tIf t u w) (eIfD k a b) := fun H0 Z O ρ z σ H Q e c q => by
  obtain ⟨x, e1, e⟩ := bind_some e
  refine ht H0 Z O ρ x σ H _ e1 c fun H1 s1 => ?_
  by_cases hx : x = true
  · rw [if_pos hx] at e ⊢
    exact ha H0 Z O ρ z σ H1 _ e (c.mono s1) fun u H2 s2 v2 => q u H2 (s1.trans s2) (v2.anti s1)
  · rw [if_neg hx] at e ⊢
    exact hb H0 Z O ρ z σ H1 _ e (c.mono s1) fun u H2 s2 v2 => q u H2 (s1.trans s2) (v2.anti s1)
end
end F3
set_option maxRecDepth 100000
namespace F3
open PySem PySem.Spec PyProof.Rows L2
section
variable {K : PySem.W.Frag}
def Res.toi : Res → Option Int
  | .sh (.int i) => some i
  | _ => none
def Res.tos : Res → Option Str
  | .sh (.str x) => some x
  | _ => none
section
variable {H0 Hs H : Hp} {O : List Addr} {r : Res} {v : V}
theorem Vl.toi {i : Int} (h : Vl K H0 Hs O H r v) (e : r.toi = some i) : v = .int i := by
  cases r with
  | sh d => cases d <;> cases e; exact h.to_int
  | fr ds => cases e
  | bo ds => cases e
theorem Vl.tos {i : Str} (h : Vl K H0 Hs O H r v) (e : r.tos = some i) : v = .str i := by
  cases r with
  | sh d => cases d <;> cases e; exact h.to_str
  | fr ds => cases e
  | bo ds => cases e
end
theorem r2_or {r r' : R2} {g g' h : Res → Res → Option Res} (a : R2ok K r g) (b : R2ok K r' g') (e : ∀ x y z, h x y = some z → g x y = some z ∨ g' x y = some z) :
    R2ok K (fun x y H Q => r x y H Q ∨ r' x y H Q) h := fun H0 Z O Hs H x y p q z Q e1 bs sm vx vy k => by
  rcases e p q z e1 with e2 | e2
  · exact .inl (a H0 Z O Hs H x y p q z Q e2 bs sm vx vy k)
  · exact .inr (b H0 Z O Hs H x y p q z Q e2 bs sm vx vy k)

/-! ### ints -/
def iiR (f : Int → Int → Option PyData) (a b : Res) : Option Res := match a.toi, b.toi with
  | some i, some j => match f i j with
    | some d => some (.sh d)
    | none => none
  | _, _ => none
theorem iiR_some {f : Int → Int → Option PyData} {a b c : Res} (h : iiR f a b = some c) : ∃ i j d, a.toi = some i ∧ b.toi = some j ∧ f i j = some d ∧ c = .sh d := by
  unfold iiR at h
  cases h1 : a.toi with
  | none => rw [h1] at h; cases h
  | some i =>
    cases h2 : b.toi with
    | none => rw [h1, h2] at h; cases h
    | some j =>
      rw [h1, h2] at h
      cases h3 : f i j with
      | none => simp only [h3] at h; cases h
      | some d => simp only [h3] at h; cases h; exact ⟨i, j, d, rfl, rfl, h3, rfl⟩
/-- the value of simple data -/
def vOf : PyData → Option V
  | .none => some .non
  | .bool b => some (.bl b)
  | .int i => some (.int i)
  | .str x => some (.str x)
  | _ => none
theorem vOf_dp {d : PyData} {v : V} (h : vOf d = some v) (H : Hp) : Dp K H v d := by
  cases d <;> cases h
  · exact .non
  · exact .bl _
  · exact .int _
  · exact .str _
theorem r2_ii {C : Int → Int → Prop} {g : Int → Int → V} {f : Int → Int → Option PyData} (h : ∀ i j d, f i j = some d → C i j ∧ vOf d = some (g i j)) : R2ok K (rI C g) (iiR f) :=
  fun H0 Z O Hs H x y p q z Q e0 bs sm vx vy k => by
    obtain ⟨i, j, d, e1, e2, e3, rfl⟩ := iiR_some e0
    obtain ⟨hc, hv⟩ := h i j d e3
    exact ⟨i, j, vx.toi e1, vy.toi e2, hc, k _ H (Same.refl H) (vOf_dp hv _)⟩
theorem r2_ii0 {g : Int → Int → V} {f : Int → Int → Option PyData} (h : ∀ i j d, f i j = some d → vOf d = some (g i j)) : R2ok K (rI0 g) (iiR f) :=
  fun H0 Z O Hs H x y p q z Q e0 bs sm vx vy k => by
    obtain ⟨i, j, d, e1, e2, e3, rfl⟩ := iiR_some e0
    exact ⟨i, j, vx.toi e1, vy.toi e2, k _ H (Same.refl H) (vOf_dp (h i j d e3) _)⟩
abbrev addI : Res → Res → Option Res := iiR fun i j => some (.int (i + j))
abbrev subR : Res → Res → Option Res := iiR fun i j => some (.int (i - j))
theorem r2_addI : R2ok K (rI0 fun i j => .int (i + j)) addI := r2_ii0 fun i j d e => by cases e; rfl
theorem r2_sub : R2ok K (rI0 fun i j => .int (i - j)) subR := r2_ii0 fun i j d e => by cases e; rfl
/-- the sizes of two factors -/
def mulOk (i j : Int) : Prop := i.natAbs.log2 + j.natAbs.log2 < 1000000
instance (i j : Int) : Decidable (mulOk i j) := inferInstanceAs (Decidable (_ < _))
abbrev mulI : Res → Res → Option Res := iiR fun i j => if mulOk i j then some (.int (i * j)) else none
theorem r2_mulI : R2ok K (rI CMulW fun i j => .int (i * j)) mulI := r2_ii fun i j d e => by
  obtain ⟨h, rfl⟩ := ite_some e
  exact ⟨h, rfl⟩
def divOk (j : Int) : Prop := 0 < j ∧ j.natAbs.log2 < 9000
instance (j : Int) : Decidable (divOk j) := inferInstanceAs (Decidable (_ ∧ _))
def fdivR : Res → Res → Option Res := iiR fun i j => if divOk j then some (.int (i / j)) else if j < 0 ∧ j.natAbs < 1073741824 then some (.int (i.fdiv j)) else none
def rFdiv : R2 := fun x y H Q => rI CDivW (fun i j => .int (i / j)) x y H Q ∨ rI CDivN (fun i j => .int (i.fdiv j)) x y H Q
theorem op_fdivA {X : Cx} : OpR X (binaryOp .FloorDiv) rFdiv := op_fdivW.or op_fdivN
theorem r2_fdiv : R2ok K rFdiv fdivR := by
  refine r2_or (g := iiR fun i j => if divOk j then some (.int (i / j)) else none) (g' := iiR fun i j => if j < 0 ∧ j.natAbs < 1073741824 then some (.int (i.fdiv j)) else none) ?_ ?_ ?_
  · exact r2_ii fun i j d e => by
      obtain ⟨h, rfl⟩ := ite_some e
      exact ⟨h, rfl⟩
  · exact r2_ii fun i j d e => by
      obtain ⟨h, rfl⟩ := ite_some e
      exact ⟨⟨fun z => by omega, h.2⟩, rfl⟩
  · intro x y z e
    obtain ⟨i, j, d, e1, e2, e3, rfl⟩ := iiR_some e
    unfold iiR
    rw [e1, e2]
    by_cases hd : divOk j
    · rw [if_pos hd] at e3
      left
      simp only [if_pos hd, e3]
    · rw [if_neg hd] at e3
      right
      simp only [e3]
def modR : Res → Res → Option Res := iiR fun i j => if 0 < j then some (.int (i % j)) else if j < 0 then some (.int (i.fmod j)) else none
theorem r2_mod : R2ok K (rI (fun _ j => j ≠ 0) fun i j => .int (i.fmod j)) modR := r2_ii fun i j d e => by
  by_cases h : 0 < j
  · rw [if_pos h] at e
    cases e
    refine ⟨fun z => by omega, ?_⟩
    show some (V.int (i % j)) = some (V.int (i.fmod j))
    rw [Int.fmod_eq_emod_of_nonneg _ (by omega)]
  · rw [if_neg h] at e
    obtain ⟨h2, rfl⟩ := ite_some e
    exact ⟨fun z => by omega, rfl⟩
def powR : Res → Res → Option Res := iiR fun i j => if 0 ≤ j ∧ j ≤ 1000000 ∧ i.natAbs < 2 ^ 64 then some (.int (i ^ j.toNat)) else none
theorem r2_pow : R2ok K (rI CPow fun i j => .int (i ^ j.toNat)) powR := r2_ii fun i j d e => by
  obtain ⟨h, rfl⟩ := ite_some e
  exact ⟨h, rfl⟩
abbrev ltR : Res → Res → Option Res := iiR fun i j => some (.bool (decide (i < j)))
abbrev leR : Res → Res → Option Res := iiR fun i j => some (.bool (decide (i ≤ j)))
abbrev gtR : Res → Res → Option Res := iiR fun i j => some (.bool (decide (j < i)))
abbrev geR : Res → Res → Option Res := iiR fun i j => some (.bool (decide (j ≤ i)))
theorem r2_lt : R2ok K (rI0 fun i j => .bl (decide (i < j))) ltR := r2_ii0 fun i j d e => by cases e; rfl
theorem r2_le : R2ok K (rI0 fun i j => .bl (decide (i ≤ j))) leR := r2_ii0 fun i j d e => by cases e; rfl
theorem r2_gt : R2ok K (rI0 fun i j => .bl (decide (j < i))) gtR := r2_ii0 fun i j d e => by cases e; rfl
theorem r2_ge : R2ok K (rI0 fun i j => .bl (decide (j ≤ i))) geR := r2_ii0 fun i j d e => by cases e; rfl
def negR (a : Res) : Option Res := match a.toi with
  | some i => some (.sh (.int (-i)))
  | none => none
theorem r1_neg : R1ok K (rU fun i => .int (-i)) negR := fun H0 Z O Hs H x a c Q e bs sm vx k => by
  unfold negR at e
  cases h : a.toi with
  | none => rw [h] at e; cases e
  | some i =>
    rw [h] at e
    cases e
    exact ⟨i, vx.toi h, k _ H (Same.refl H) .int⟩

/-! ### == and != of data, in, is -/
/-- == of data, where the model has an answer -/
def eqD (d e : PyData) : Option Bool := match d, e with
  | .str x, .str y => some (decide (x = y))
  | d, e => if SeqAt.shaped d = true ∧ SeqAt.shaped e = true then some (PyData.eqv d e) else none
def eqR (a b : Res) : Option Res := match eqD a.dat b.dat with
  | some k => some (.sh (.bool k))
  | none => none
def neR (a b : Res) : Option Res := match eqD a.dat b.dat with
  | some k => some (.sh (.bool (!k)))
  | none => none
def rEqA (K : PySem.W.Frag) : R2 := fun x y H Q => rEqD K x y H Q ∨ rEq x y H Q
def rNeA (K : PySem.W.Frag) : R2 := fun x y H Q => rNeD K x y H Q ∨ rNe x y H Q
theorem op_eqA {X : Cx} (hu : X.A.units + 64 < cLine) : OpR X (compareOp .Eq) (rEqA X.K) := (op_eqD hu).or op_eq
theorem op_neA {X : Cx} (hu : X.A.units + 64 < cLine) : OpR X (compareOp .NotEq) (rNeA X.K) := (op_neD hu).or op_ne
theorem eqD_ok {H : Hp} {x y : V} {d e : PyData} {k : Bool} (hx : Dp K H x d) (hy : Dp K H y e) (h : eqD d e = some k) :
    (SeqAt.shaped d = true ∧ SeqAt.shaped e = true ∧ k = PyData.eqv d e) ∨ (scal x y = true ∧ k = decide (x = y)) := by
  unfold eqD at h
  split at h
  · cases h
    cases hx
    cases hy
    refine .inr ⟨rfl, ?_⟩
    rename_i a b
    by_cases hab : a = b
    · subst hab; simp
    · rw [decide_eq_false hab, decide_eq_false fun z => hab (V.str.inj z)]
  · obtain ⟨hs, rfl⟩ := ite_some h
    exact .inl ⟨hs.1, hs.2, rfl⟩
theorem r2_eq : R2ok K (rEqA K) eqR := fun H0 Z O Hs H x y p q z Q e bs sm vx vy k => by
  unfold eqR at e
  cases h : eqD p.dat q.dat with
  | none => rw [h] at e; cases e
  | some b =>
    rw [h] at e
    cases e
    rcases eqD_ok vx.full vy.full h with ⟨h1, h2, rfl⟩ | ⟨h1, rfl⟩
    · exact .inl ⟨_, _, vx.full, vy.full, h1, h2, k _ H (Same.refl H) .bool⟩
    · exact .inr ⟨h1, k _ H (Same.refl H) .bool⟩
theorem r2_ne : R2ok K (rNeA K) neR := fun H0 Z O Hs H x y p q z Q e bs sm vx vy k => by
  unfold neR at e
  cases h : eqD p.dat q.dat with
  | none => rw [h] at e; cases e
  | some b =>
    rw [h] at e
    cases e
    rcases eqD_ok vx.full vy.full h with ⟨h1, h2, rfl⟩ | ⟨h1, rfl⟩
    · exact .inl ⟨_, _, vx.full, vy.full, h1, h2, k _ H (Same.refl H) .bool⟩
    · exact .inr ⟨h1, k _ H (Same.refl H) .bool⟩
/-- x in a list or a tuple -/
def rInA (K : PySem.W.Frag) (neg : Bool) : R2 := fun x y H Q => ∃ d ds, Dp K H x d ∧ (Dp K H y (.list ds) ∨ Dp K H y (.tuple ds)) ∧ SeqAt.shaped d = true ∧ SeqAt.shaped (.list ds) = true ∧
  Q (.bl (if neg then !ds.any (fun z => PyData.eqv z d) else ds.any (fun z => PyData.eqv z d))) H
section
variable {X : Cx}
theorem room_in {d : PyData} {n : Nat} {A : Around} (sd : SeqAt.shaped d = true) (hu : A.units + 65 < cLine) : A.units + 1 + min n d.depth < cLine := by
  have h1 := SeqAt.depth_of_shaped sd
  have h2 := Nat.min_le_right n d.depth
  omega
theorem op_inA (hu : X.A.units + 65 < cLine) : OpR X (compareOp .In) (rInA X.K false) := fun pins s σ H x y v u Q I rx ry h => by
  obtain ⟨d, ds, hd, he, sd, se, q⟩ := h
  obtain ⟨as, r1⟩ := Dp.reads I d x v hd rx
  have q' : EP X pins σ Q (.bool (ds.any fun z => PyData.eqv z d)) s := ⟨.bl _, H, I, rfl, q⟩
  rcases he with he | he
  · obtain ⟨bs, r2⟩ := Dp.reads I _ y u he ry
    exact SeqAt.in_list_reads r2 r1 (SeqAt.canLay_of_shaped se) (SeqAt.canLay_of_shaped sd) (room_in sd hu) q'
  · obtain ⟨bs, r2⟩ := Dp.reads I _ y u he ry
    exact SeqAt.in_tuple_reads r2 r1 (SeqAt.canLay_of_shaped se) (SeqAt.canLay_of_shaped sd) (room_in sd hu) q'
theorem op_notInA (hu : X.A.units + 65 < cLine) : OpR X (compareOp .NotIn) (rInA X.K true) := fun pins s σ H x y v u Q I rx ry h => by
  obtain ⟨d, ds, hd, he, sd, se, q⟩ := h
  obtain ⟨as, r1⟩ := Dp.reads I d x v hd rx
  have q' : EP X pins σ Q (.bool (!ds.any fun z => PyData.eqv z d)) s := ⟨.bl _, H, I, rfl, q⟩
  rcases he with he | he
  · obtain ⟨bs, r2⟩ := Dp.reads I _ y u he ry
    exact SeqAt.notIn_list_reads r2 r1 (SeqAt.canLay_of_shaped se) (SeqAt.canLay_of_shaped sd) (room_in sd hu) q'
  · obtain ⟨bs, r2⟩ := Dp.reads I _ y u he ry
    exact SeqAt.notIn_tuple_reads r2 r1 (SeqAt.canLay_of_shaped se) (SeqAt.canLay_of_shaped sd) (room_in sd hu) q'
/-- a is b, both bools; a is None -/
theorem op_isB : OpR X (compareOp .Is) (fun x y H Q => ∃ a b, x = .bl a ∧ y = .bl b ∧ Q (.bl (a == b)) H) := fun pins s σ H x y v u Q I rx ry h => by
  obtain ⟨a, b, rfl, rfl, q⟩ := h
  cases rx
  cases ry
  exact is_bool ⟨.bl _, H, I, rfl, q⟩
theorem op_isnotB : OpR X (compareOp .IsNot) (fun x y H Q => ∃ a b, x = .bl a ∧ y = .bl b ∧ Q (.bl (a != b)) H) := fun pins s σ H x y v u Q I rx ry h => by
  obtain ⟨a, b, rfl, rfl, q⟩ := h
  cases rx
  cases ry
  exact isnot_bool ⟨.bl _, H, I, rfl, q⟩
end
def Res.seq : Res → Option (List PyData)
  | .sh (.tuple ds) => some ds
  | r => r.lst
def inR (neg : Bool) (a b : Res) : Option Res := match b.seq with
  | some ds => if SeqAt.shaped a.dat = true ∧ SeqAt.shaped (.list ds) = true then some (.sh (.bool (if neg then !ds.any (fun z => PyData.eqv z a.dat) else ds.any (fun z => PyData.eqv z a.dat)))) else none
  | none => none
theorem seq_dat {r : Res} {ds : List PyData} (h : r.seq = some ds) : r.dat = .list ds ∨ r.dat = .tuple ds := by
  cases r with
  | sh d => cases d <;> simp only [Res.seq, Res.lst] at h <;> cases h <;> first | exact .inl rfl | exact .inr rfl
  | fr xs => cases h; exact .inl rfl
  | bo xs => cases h; exact .inl rfl
theorem r2_in (neg : Bool) : R2ok K (rInA K neg) (inR neg) := fun H0 Z O Hs H x y p q z Q e bs sm vx vy k => by
  unfold inR at e
  cases h : q.seq with
  | none => rw [h] at e; cases e
  | some ds =>
    rw [h] at e
    obtain ⟨h1, rfl⟩ := ite_some e
    refine ⟨p.dat, ds, vx.full, ?_, h1.1, h1.2, k _ H (Same.refl H) .bool⟩
    have f := vy.full
    rcases seq_dat h with z | z
    · rw [z] at f; exact .inl f
    · rw [z] at f; exact .inr f
def rIs : R2 := fun x y H Q => (y = .non ∧ Q (.bl (decide (x = .non))) H) ∨ ∃ a b, x = .bl a ∧ y = .bl b ∧ Q (.bl (a == b)) H
def rIsNot : R2 := fun x y H Q => (y = .non ∧ Q (.bl (!decide (x = .non))) H) ∨ ∃ a b, x = .bl a ∧ y = .bl b ∧ Q (.bl (a != b)) H
theorem op_isA {X : Cx} : OpR X (compareOp .Is) rIs := op_isN.or op_isB
theorem op_isnotA {X : Cx} : OpR X (compareOp .IsNot) rIsNot := op_notN.or op_isnotB
def Res.isNone : Res → Bool
  | .sh .none => true
  | _ => false
theorem Vl.isNone {H0 Hs H : Hp} {O : List Addr} {r : Res} {v : V} (h : Vl K H0 Hs O H r v) : decide (v = .non) = r.isNone := by
  cases r with
  | sh d =>
    have h : Dp K (off H O) v d := h
    cases h <;> rfl
  | fr ds =>
    obtain ⟨p, vs, rfl, _⟩ := h
    rfl
  | bo ds =>
    obtain ⟨p, vs, rfl, _⟩ := h
    rfl
def isR (neg : Bool) (a b : Res) : Option Res := match b with
  | .sh .none => some (.sh (.bool (neg != a.isNone)))
  | .sh (.bool y) => match a with
    | .sh (.bool x) => some (.sh (.bool (neg != (x == y))))
    | _ => none
  | _ => none
theorem r2_is : R2ok K rIs (isR false) := fun H0 Z O Hs H x y p q z Q e bs sm vx vy k => by
  unfold isR at e
  split at e
  · cases e
    refine .inl ⟨vy.to_none, ?_⟩
    rw [vx.isNone]
    exact k _ H (Same.refl H) (by cases p.isNone <;> exact .bool)
  · split at e
    · cases e
      exact .inr ⟨_, _, vx.to_bool, vy.to_bool, k _ H (Same.refl H) (by simp only [Bool.false_bne]; exact .bool)⟩
    · cases e
  · cases e
theorem r2_isnot : R2ok K rIsNot (isR true) := fun H0 Z O Hs H x y p q z Q e bs sm vx vy k => by
  unfold isR at e
  split at e
  · cases e
    refine .inl ⟨vy.to_none, ?_⟩
    rw [vx.isNone]
    exact k _ H (Same.refl H) (by cases p.isNone <;> exact .bool)
  · split at e
    · cases e
      refine .inr ⟨_, _, vx.to_bool, vy.to_bool, k _ H (Same.refl H) ?_⟩
      simp only [Bool.true_bne]
      exact .bool
    · cases e
  · cases e
end
end F3
set_option maxRecDepth 100000
namespace F3
open PySem PySem.Spec PyProof.Rows L2

/-! ### + -/
def rCatLL (K : PySem.W.Frag) : R2 := fun x y H Q => ∃ l b xs zs, x = .ref l ∧ y = .ref b ∧ SqL K H l xs ∧ SqL K H b zs ∧ xs.length + zs.length ≤ sizeLine ∧ ∀ p, H p = none → Q (.ref p) (upd H p (.lst (xs ++ zs)))
theorem op_catLL {X : Cx} : OpR X (binaryOp .Add) (rCatLL X.K) := fun pins s σ H x y v u Q I rx ry h => by
  obtain ⟨l, b, xs, zs, rfl, rfl, hl, hb, hz, q⟩ := h
  cases rx
  cases ry
  obtain ⟨its, r, pl, z1⟩ := I.list hl
  obtain ⟨its2, r2, pl2, z2⟩ := I.list hb
  obtain ⟨⟨cls, dd, dat, sl⟩, n, ho, hc, hdd, hd⟩ := pl
  obtain ⟨⟨cls2, dd2, dat2, sl2⟩, n2, ho2, hc2, hdd2, hd2⟩ := pl2
  simp only at hc hd hc2 hd2
  subst hc hd hc2 hd2
  have l1 := r.length
  have l2 := r2.length
  refine concat_meets ⟨_, ho, rfl⟩ ⟨_, ho2, rfl⟩ noFill_list_add seq_list_add PySem.F.slot_list_add PySem.F.entry_list_add
    (PySem.F.args_list_add_2 _ _) (list_addW l b its.toArray its2.toArray n n2 dd dd2 sl sl2 ?_) ⟨ho, ho2, ?_⟩
  · rw [List.size_toArray, List.size_toArray, ← l1, ← l2]
    exact hz
  · have ea : its.toArray ++ its2.toArray = (its ++ its2).toArray := by simp
    rw [ea]
    exact ⟨.ref _, _, I.lnew (t' := s.toks) (r.append r2) (by rw [List.length_append]; exact hz), rfl, q _ I.fresh⟩
def rAdd4 (K : PySem.W.Frag) : R2 := fun x y H Q => rI0 (fun i j => .int (i + j)) x y H Q ∨ rCatA K x y H Q ∨ rCatLL K x y H Q ∨
  ∃ i j, x = .str i ∧ y = .str j ∧ i.length + j.length ≤ sizeLine ∧ Q (.str (i ++ j)) H
theorem op_add4 {X : Cx} : OpR X (binaryOp .Add) (rAdd4 X.K) := op_add.or (op_catA.or (op_catLL.or op_add_str))
def addR (a b : Res) : Option Res := match a, b with
  | .sh (.int i), .sh (.int j) => some (.sh (.int (i + j)))
  | .sh (.str x), .sh (.str y) => if x.length + y.length ≤ LIM then some (.sh (.str (x ++ y))) else none
  | .sh (.tuple x), .sh (.tuple y) => if x.length + y.length ≤ LIM then some (.sh (.tuple (x ++ y))) else none
  | a, b => match a.lst, b.lst with
    | some x, some y => if x.length + y.length ≤ LIM then some (.fr (x ++ y)) else none
    | _, _ => none
section
variable {K : PySem.W.Frag}
theorem addR_lst {a b c : Res} (h : (match a.lst, b.lst with
    | some x, some y => if x.length + y.length ≤ LIM then some (Res.fr (x ++ y)) else none
    | _, _ => none) = some c) : ∃ x y, a.lst = some x ∧ b.lst = some y ∧ x.length + y.length ≤ LIM ∧ c = .fr (x ++ y) := by
  cases h1 : a.lst with
  | none => rw [h1] at h; cases h
  | some x =>
    cases h2 : b.lst with
    | none => rw [h1, h2] at h; cases h
    | some y =>
      rw [h1, h2] at h
      obtain ⟨hl, rfl⟩ := ite_some h
      exact ⟨x, y, rfl, rfl, hl, rfl⟩
theorem r2_add : R2ok K (rAdd4 K) addR := fun H0 Z O Hs H x y p q z Q e bs sm vx vy k => by
  unfold addR at e
  split at e
  · cases e
    exact .inl ⟨_, _, vx.to_int, vy.to_int, k _ H (Same.refl H) .int⟩
  · obtain ⟨hl, rfl⟩ := ite_some e
    exact .inr (.inr (.inr ⟨_, _, vx.to_str, vy.to_str, lim_line hl, k _ H (Same.refl H) .str⟩))
  · rename_i xs ys
    obtain ⟨hl, rfl⟩ := ite_some e
    obtain ⟨a, us, rfl, ha, da⟩ := vx.tup rfl
    obtain ⟨b, ws, rfl, hb, db⟩ := vy.tup rfl
    have l1 := dpa_len da
    have l2 := dpa_len db
    refine .inr (.inl ⟨a, b, us, ws, rfl, rfl, Same.tup off_le ha, Same.tup off_le hb, by rw [l1, l2]; exact lim_line hl, fun z => ?_, fun z z2 => ?_, fun _ _ p hp => ?_⟩)
    · subst z
      cases da
      exact k _ H (Same.refl H) vy
    · subst z2
      cases db
      rw [List.append_nil] at k
      exact k _ H (Same.refl H) vx
    · exact k _ _ (same_new hp) (Vl.newT bs hp (dpa_append da db))
  · obtain ⟨xs, ys, e1, e2, hl, rfl⟩ := addR_lst e
    obtain ⟨a, us, rfl, ha, da⟩ := vx.lst e1
    obtain ⟨b, ws, rfl, hb, db⟩ := vy.lst e2
    refine .inr (.inr (.inl ⟨a, b, us, ws, rfl, rfl, ha, hb, by rw [dpa_len da, dpa_len db]; exact lim_line hl, fun p hp => ?_⟩))
    exact k _ _ (same_new hp) (Vl.newL bs sm hp (dpa_append da db))

/-! ### subscripts -/
def ixR (a b : Res) : Option Res := match b.toi with
  | some i => match a with
    | .sh (.str x) => if x.length ≤ LIM then match atI x.cps.toList i with
      | some c => some (.sh (.str ⟨#[c]⟩))
      | none => none
      else none
    | a => match a.seq with
      | some ds => match atI ds i with
        | some d => some (.sh d)
        | none => none
      | none => none
  | none => none
theorem atI_dpa {H : Hp} {ds : List PyData} {vs : List V} {i : Int} {d : PyData} (h : DpAll K H vs ds) (e : atI ds i = some d) : ∃ v, atI vs i = some v ∧ Dp K H v d := by
  unfold atI at e ⊢
  rw [dpa_len h]
  cases e1 : ixN ds.length i with
  | none => rw [e1] at e; cases e
  | some j =>
    rw [e1] at e
    exact dpa_get h e
/-- the value of a sequence -/
theorem Vl.seq {H0 Hs H : Hp} {O : List Addr} {r : Res} {v : V} {ds : List PyData} (h : Vl K H0 Hs O H r v) (e : r.seq = some ds) :
    ∃ p vs, v = .ref p ∧ (SqL K H p vs ∨ SqT K H p vs) ∧ DpAll K (off H O) vs ds := by
  cases r with
  | sh d =>
    cases d <;> simp only [Res.seq, Res.lst] at e <;> cases e
    · obtain ⟨p, vs, h1, h2, h3⟩ := h.lst rfl
      exact ⟨p, vs, h1, .inl h2, h3⟩
    · obtain ⟨p, vs, h1, h2, h3⟩ := h.tup rfl
      exact ⟨p, vs, h1, .inr (Same.tup off_le h2), h3⟩
  | fr xs =>
    cases e
    obtain ⟨p, vs, h1, h2, h3⟩ := h.lst rfl
    exact ⟨p, vs, h1, .inl h2, h3⟩
  | bo xs =>
    cases e
    obtain ⟨p, vs, h1, h2, h3⟩ := h.lst rfl
    exact ⟨p, vs, h1, .inl h2, h3⟩
theorem ixSeq_ok {H0 Hs H : Hp} {O : List Addr} {a : Res} {x y : V} {i : Int} {c : Res} {Q : VK} (hy : y = .int i) (vx : Vl K H0 Hs O H a x)
    (e : (match a.seq with
      | some ds => match atI ds i with
        | some d => some (Res.sh d)
        | none => none
      | none => none) = some c) (k : ∀ v H', Same H H' → Vl K H0 Hs O H' c v → Q v H') : rIx K x y H Q := by
  cases h1 : a.seq with
  | none => rw [h1] at e; cases e
  | some ds =>
    cases h2 : atI ds i with
    | none => rw [h1] at e; simp only [h2] at e; cases e
    | some d =>
      rw [h1] at e
      simp only [h2] at e
      cases e
      obtain ⟨p, vs, rfl, hs, hd⟩ := vx.seq h1
      obtain ⟨v, e1, e2⟩ := atI_dpa hd h2
      have kk := k v H (Same.refl H) e2
      rcases hs with hs | hs
      · exact .inl ⟨p, vs, i, v, rfl, hy, hs, e1, kk⟩
      · exact .inr (.inl ⟨p, vs, i, v, rfl, hy, hs, e1, kk⟩)
theorem r2_ix : R2ok K (rIx K) ixR := fun H0 Z O Hs H x y p q z Q e bs sm vx vy k => by
  unfold ixR at e
  cases h : q.toi with
  | none => rw [h] at e; cases e
  | some i =>
    rw [h] at e
    have hy := vy.toi h
    simp only at e
    split at e
    · by_cases hl : (‹Str›).length ≤ LIM
      · rw [if_pos hl] at e
        split at e
        · rename_i h3
          cases e
          exact .inr (.inr ⟨_, _, _, vx.to_str, hy, lim_line hl, h3, k _ H (Same.refl H) .str⟩)
        · cases e
      · rw [if_neg hl] at e; cases e
    · exact ixSeq_ok hy vx e k

/-! ### slices -/
abbrev Po := Rh → Option (Option Int)
def OOk (K : PySem.W.Frag) (t : TO) (f : Po) : Prop := ∀ (H0 : Hp) (Z O : List Addr) (ρ : Rh) (r : Option Int) (σ : L2.St) (H : Hp) (Q : Option Int → Hp → Prop),
  f ρ = some r → Cor K H0 Z O ρ σ H → (∀ H', Same H H' → Q r H') → t σ H Q
@[simp] def oNo : Po := fun _ => some none
@[simp] def oIs (a : Rh → Option Res) : Po := fun ρ => (a ρ).bind fun r => match r.toi with
  | some i => some (some i)
  | none => none
theorem ook_no : OOk K tNoPart oNo := fun H0 Z O ρ r σ H Q e c q => by cases e; exact q H (Same.refl H)
theorem ook_is {t : TE} {a : Rh → Option Res} (ha : EOk K t a) : OOk K (tPart t) (oIs a) := fun H0 Z O ρ r σ H Q e c q => by
  obtain ⟨x, e1, e⟩ := bind_some e
  cases h : x.toi with
  | none => rw [h] at e; cases e
  | some i =>
    rw [h] at e
    cases e
    exact ha H0 Z O ρ x σ H _ e1 c fun v H1 s1 v1 => ⟨i, v1.toi h, q H1 s1⟩
/-- the items of xs[lo:hi] -/
def cutD (xs : List PyData) (lo hi : Option Int) : List PyData := (xs.drop (HT.sIx xs.length 0 lo)).take (HT.sIx xs.length xs.length hi - HT.sIx xs.length 0 lo)
theorem cut_dpa {H : Hp} {ds : List PyData} {vs : List V} (lo hi : Option Int) (h : DpAll K H vs ds) : DpAll K H (cutV vs lo hi) (cutD ds lo hi) := by
  unfold cutV cutD
  rw [dpa_len h]
  exact dpa_take _ (dpa_drop _ h)
def slR (a : Res) (lo hi : Option Int) : Option Res := match a.tup with
  | some ds => some (.sh (.tuple (cutD ds lo hi)))
  | none => match a.lst with
    | some ds => some (.fr (cutD ds lo hi))
    | none => none
def rSl2 (K : PySem.W.Frag) : V → Option Int → Option Int → Hp → VK → Prop := fun x lo hi H Q => rSlA K x lo hi H Q ∨ rSlL K x lo hi H Q
theorem sl_2 {X : Cx} : SlR X (rSl2 X.K) := sl_tupA.or sl_list
theorem sIx_full {n : Nat} {lo hi : Option Int} {xs : List PyData} (hn : n = xs.length) (h : HT.sIx n 0 lo = 0 ∧ HT.sIx n n hi = n) : cutD xs lo hi = xs := by
  subst hn
  unfold cutD
  rw [h.1, h.2, List.drop_zero, Nat.sub_zero, List.take_length]
@[simp] def eSl (a : Rh → Option Res) (lo hi : Po) : Rh → Option Res := fun ρ => (a ρ).bind fun x => (lo ρ).bind fun l => (hi ρ).bind fun h => slR x l h
theorem eok_sl {ta : TE} {tl th : TO} {a : Rh → Option Res} {lo hi : Po} (ha : EOk K ta a) (hl : OOk K tl lo) (hh : OOk K th hi) : EOk K (tSl (rSl2 K) ta tl th) (eSl a lo hi) :=
  fun H0 Z O ρ z σ H Q e c q => by
    obtain ⟨x, e1, e⟩ := bind_some e
    obtain ⟨l, e2, e⟩ := bind_some e
    obtain ⟨h, e3, e⟩ := bind_some e
    refine ha H0 Z O ρ x σ H _ e1 c fun v H1 s1 v1 => hl H0 Z O ρ l σ H1 _ e2 (c.mono s1) fun H2 s2 => hh H0 Z O ρ h σ H2 _ e3 (c.mono (s1.trans s2)) fun H3 s3 => ?_
    have s13 := s2.trans s3
    have s03 := s1.trans s13
    have v3 := v1.mono s13
    have b3 := c.bs.mono s03
    unfold slR at e
    cases ht : x.tup with
    | some ds =>
      rw [ht] at e
      cases e
      obtain ⟨p, vs, rfl, hs, hd⟩ := v3.tup ht
      refine .inl ⟨p, vs, rfl, Same.tup off_le hs, fun w => ?_, fun _ u hu => ?_⟩
      · rw [sIx_full (dpa_len hd) w] at q
        exact q _ H3 s03 (Dp.tup hs hd)
      · exact q _ _ (s03.trans (same_new hu)) (Vl.newT b3 hu (cut_dpa l h hd))
    | none =>
      rw [ht] at e
      cases hx : x.lst with
      | none => simp only [hx] at e; cases e
      | some ds =>
        simp only [hx] at e
        cases e
        obtain ⟨p, vs, rfl, hs, hd⟩ := v3.lst hx
        exact .inr ⟨p, vs, rfl, hs, fun u hu => q _ _ (s03.trans (same_new hu)) (Vl.newL b3 s03 hu (cut_dpa l h hd))⟩
/-- with a step: lists -/
def pickD {α : Type} (xs : List α) (lo hi st : Option Int) : List α :=
  (sliceRange (sliceBounds lo hi st xs.length).1 (sliceBounds lo hi st xs.length).2.1 (sliceBounds lo hi st xs.length).2.2).filterMap (xs[·]?)
theorem pick_vals {its : List Value} {vs : List V} (r : Vals vs its) (lo hi st : Option Int) : Vals (pickD vs lo hi st) (slicePick its.toArray lo hi st).toList := by
  unfold slicePick pickD
  rw [List.size_toArray, r.length]
  generalize sliceRange _ _ _ = ks
  simp only []
  induction ks with
  | nil => exact .nil
  | cons k ks ih =>
    rw [List.filterMap_cons, List.filterMap_cons]
    have e : its.toArray[k]? = its[k]? := by simp
    cases h : vs[k]? with
    | none =>
      have h2 := r.none_of h
      rw [e, h2]
      exact ih
    | some x =>
      obtain ⟨u, h2, h3⟩ := r.get h
      rw [e, h2]
      exact .cons h3 ih
theorem pick_dpa {H : Hp} {ds : List PyData} {vs : List V} (lo hi st : Option Int) (h : DpAll K H vs ds) : DpAll K H (pickD vs lo hi st) (pickD ds lo hi st) := by
  unfold pickD
  rw [dpa_len h]
  generalize sliceRange _ _ _ = ks
  induction ks with
  | nil => exact .nil
  | cons k ks ih =>
    rw [List.filterMap_cons, List.filterMap_cons]
    cases e : ds[k]? with
    | none =>
      have h2 : vs[k]? = none := by
        rw [List.getElem?_eq_none_iff] at e ⊢
        rw [dpa_len h]
        exact e
      rw [h2]
      exact ih
    | some d =>
      obtain ⟨v, h2, h3⟩ := dpa_get h e
      rw [h2]
      exact .cons h3 ih
theorem pick_len {α : Type} (xs : List α) (lo hi st : Option Int) (h : st ≠ some 0) : (pickD xs lo hi st).length ≤ xs.length := by
  unfold pickD
  refine Nat.le_trans (List.length_filterMap_le _ _) ?_
  have hp : (sliceBounds lo hi st xs.length).2.2 > 0 → 0 ≤ (sliceBounds lo hi st xs.length).1 ∧ (sliceBounds lo hi st xs.length).2.1 ≤ xs.length := fun hs => by
    have hs' : st.getD 1 > 0 := hs
    unfold sliceBounds
    simp only [hs', if_true]
    cases lo <;> cases hi <;> simp only [] <;> (try split) <;> (try split) <;> omega
  have hm : ¬ (sliceBounds lo hi st xs.length).2.2 > 0 → (sliceBounds lo hi st xs.length).1 ≤ (xs.length : Int) - 1 ∧ -1 ≤ (sliceBounds lo hi st xs.length).2.1 := fun hs => by
    have hs' : ¬ st.getD 1 > 0 := hs
    unfold sliceBounds
    simp only [hs', if_false]
    cases lo <;> cases hi <;> simp only [] <;> (try split) <;> (try split) <;> omega
  refine Nat.le_trans (sliceRange_len_le _ _ _ ?_) ?_
  · show st.getD 1 ≠ 0
    cases st with
    | none => decide
    | some k => exact fun z => h (congrArg some z)
  · split
    · rename_i hs
      have := hp hs
      omega
    · rename_i hs
      have := hm hs
      omega
def rSl3 (K : PySem.W.Frag) (x : V) (lo hi st : Option Int) (H : Hp) (Q : VK) : Prop := ∃ a xs, x = .ref a ∧ SqL K H a xs ∧ st ≠ some 0 ∧ ∀ p, H p = none → Q (.ref p) (upd H p (.lst (pickD xs lo hi st)))
def tSl3 (K : PySem.W.Frag) (te : TE) (tl th ts : TO) : TE := fun σ H Q => te σ H fun x H1 => tl σ H1 fun l H2 => th σ H2 fun u H3 => ts σ H3 fun k H4 => rSl3 K x l u k H4 Q
theorem pe_slice3 {X : Cx} {e st : Expr} {te : TE} {lo hi : Option Expr} {tl th ts : TO} {pos p2 : Pos} (he : PE X e te) (hl : PO X lo tl) (hu : PO X hi th) (hs : PO X (some st) ts) :
    PE X (.Subscript e (.Slice lo hi (some st) p2) pos) (tSl3 X.K te tl th ts) := by
  refine ⟨fun pins s σ H Q I h => Subscript_ (thn (he.run pins s σ H _ I h) fun v s1 ⟨x, H1, I1, r1, q1⟩ => ?_)⟩
  refine wpAny_Slice (thn (hl.run pins s1 σ H1 _ I1 q1) fun vl s2 ⟨l, H2, I2, pl, q2⟩ => thn (hu.run pins s2 σ H2 _ I2 q2) fun vu s3 ⟨u, H3, I3, pu, q3⟩ =>
    thn (hs.run pins s3 σ H3 _ I3 q3) fun vk s4 ⟨k, H4, I4, pk, q4⟩ => ?_)
  have I5 : Inv X pins σ H4 { s4 with heap := s4.heap.push { cls := .type "slice", data := .fields #[vl, vu, vk] } } := I4.kept (t' := s4.toks) fun b ob q => Heap.get?_push_of_some _ q
  obtain ⟨a, xs, rfl, hx, h0, q⟩ := q4
  cases r1
  obtain ⟨its, r, ht, hz⟩ := I5.list hx
  show wpAny (model X.prog X.w) X.A (subscriptTail e (.Slice lo hi (some st) p2) (.ref a) (.ref s4.heap.objs.size)) (EP X pins σ Q) X.xe _
  refine tail_any (ops := [.ref a, .ref s4.heap.objs.size]) ht.isList.typeIs slot_list_getitem.lookup ?_ (by with_unfolding_all rfl)
  refine wpAny_getItem_list_slice ht.isList (Heap.IsSliceOf.new ..) pl pu pk h0 ?_ (by rw [List.size_toArray, ← r.length]; exact hz)
  have hv := pick_vals r l u k
  refine ⟨.ref _, _, I5.laid (t' := s4.toks) (o := .lst (pickD xs l u k)) (fun b ob q => Heap.get?_push_of_some _ q) (Nat.le_refl _) ?_, rfl, q _ (I5.hok.fresh (Nat.le_refl _))⟩
  exact ⟨Nat.le_trans (pick_len xs l u k h0) hz, _, 0, hv, by rw [Array.toArray_toList]; exact Heap.get?_push_size _ rfl⟩
def eSl3 (a : Rh → Option Res) (lo hi st : Po) : Rh → Option Res := fun ρ => (a ρ).bind fun x => (lo ρ).bind fun l => (hi ρ).bind fun h => (st ρ).bind fun k => match x.lst with
  | some ds => if k ≠ some 0 then some (.fr (pickD ds l h k)) else none
  | none => none
theorem eok_sl3 {ta : TE} {tl th ts : TO} {a : Rh → Option Res} {lo hi st : Po} (ha : EOk K ta a) (hl : OOk K tl lo) (hh : OOk K th hi) (hs : OOk K ts st) : EOk K (tSl3 K ta tl th ts) (eSl3 a lo hi st) :=
  fun H0 Z O ρ z σ H Q e c q => by
    obtain ⟨x, e1, e⟩ := bind_some e
    obtain ⟨l, e2, e⟩ := bind_some e
    obtain ⟨h, e3, e⟩ := bind_some e
    obtain ⟨k, e4, e⟩ := bind_some e
    refine ha H0 Z O ρ x σ H _ e1 c fun v H1 s1 v1 => hl H0 Z O ρ l σ H1 _ e2 (c.mono s1) fun H2 s2 => hh H0 Z O ρ h σ H2 _ e3 (c.mono (s1.trans s2)) fun H3 s3 =>
      hs H0 Z O ρ k σ H3 _ e4 (c.mono ((s1.trans s2).trans s3)) fun H4 s4 => ?_
    have s14 := (s2.trans s3).trans s4
    have s04 := s1.trans s14
    cases hx : x.lst with
    | none => simp only [hx] at e; cases e
    | some ds =>
      simp only [hx] at e
      obtain ⟨h0, rfl⟩ := ite_some e
      obtain ⟨p, vs, rfl, hs, hd⟩ := (v1.mono s14).lst hx
      exact ⟨p, vs, rfl, hs, h0, fun u hu => q _ _ (s04.trans (same_new hu)) (Vl.newL (c.bs.mono s04) s04 hu (pick_dpa l h k hd))⟩
end
end F3
set_option maxRecDepth 100000
namespace F3
open PySem PySem.Spec PyProof.Rows L2
section
variable {K : PySem.W.Frag}
/-! ### built-ins of one value -/
def on1 (g : Res → Option Res) : List Res → Option Res
  | [a] => g a
  | _ => none
theorem cr_1 {r : List V → Hp → VK → Prop} {g : Res → Option Res}
    (h : ∀ (H0 : Hp) (Z O : List Addr) (Hs H : Hp) (x : V) (a c : Res) (Q : VK), g a = some c → Bs H0 Z O H → Same Hs H → Vl K H0 Hs O H a x → (∀ v H', Same H H' → Vl K H0 Hs O H' c v → Q v H') → r [x] H Q) :
    CRok K r (on1 g) := fun H0 Z O Hs H xs as c Q e bs sm v k => by
  unfold on1 at e
  split at e
  · cases v with
    | cons v1 vr =>
      cases vr
      exact h H0 Z O Hs H _ _ c Q e bs sm v1 k
  · cases e
theorem seq_len {H : Hp} {O : List Addr} {ds : List PyData} {vs : List V} (h : DpAll K (off H O) vs ds) : vs.length = ds.length := dpa_len h
def lenR (a : Res) : Option Res := match a.tos with
  | some x => if x.length ≤ LIM then some (.sh (.int x.length)) else none
  | none => match a.seq with
    | some ds => some (.sh (.int ds.length))
    | none => none
def rLen (K : PySem.W.Frag) : List V → Hp → VK → Prop := fun xs H Q => (∃ p ys, xs = [.ref p] ∧ (SqL K H p ys ∨ SqT K H p ys) ∧ Q (.int ys.length) H) ∨ ∃ z, xs = [.str z] ∧ z.length ≤ sizeLine ∧ Q (.int z.length) H
theorem call_lenA {X : Cx} : CallR X (.builtin "len") (rLen X.K) := call_len_seq.or call_len_str
theorem cr_len : CRok K (rLen K) (on1 lenR) := cr_1 fun H0 Z O Hs H x a c Q e bs sm v k => by
  unfold lenR at e
  cases h : a.tos with
  | some z =>
    rw [h] at e
    obtain ⟨hl, rfl⟩ := ite_some e
    exact .inr ⟨z, by rw [v.tos h], lim_line hl, k _ H (Same.refl H) .int⟩
  | none =>
    rw [h] at e
    cases h2 : a.seq with
    | none => simp only [h2] at e; cases e
    | some ds =>
      simp only [h2] at e
      cases e
      obtain ⟨p, vs, rfl, hs, hd⟩ := v.seq h2
      refine .inl ⟨p, vs, rfl, hs, k _ H (Same.refl H) ?_⟩
      rw [dpa_len hd]
      exact .int
def absR (a : Res) : Option Res := match a.toi with
  | some i => some (.sh (.int (if i < 0 then -i else i)))
  | none => none
theorem toi_some {a : Res} {α : Type} {f : Int → Option α} {c : α} (h : (match a.toi with | some i => f i | none => none) = some c) : ∃ i, a.toi = some i ∧ f i = some c := by
  cases e : a.toi with
  | none => rw [e] at h; cases h
  | some i => rw [e] at h; exact ⟨i, rfl, h⟩
theorem cr_abs : CRok K (fun xs H Q => ∃ i, xs = [.int i] ∧ Q (.int (if i < 0 then -i else i)) H) (on1 absR) := cr_1 fun H0 Z O Hs H x a c Q e bs sm v k => by
  obtain ⟨i, h1, h2⟩ := toi_some (f := fun i => some (Res.sh (.int (if i < 0 then -i else i)))) e
  cases h2
  exact ⟨i, by rw [v.toi h1], k _ H (Same.refl H) .int⟩
/-- int(x) of an int, a bool -/
def intR (a : Res) : Option Res := match a with
  | .sh (.int i) => some (.sh (.int i))
  | .sh (.bool b) => some (.sh (.int (if b then 1 else 0)))
  | _ => none
theorem cr_int : CRok K (fun xs H Q => (∃ i, xs = [.int i] ∧ Q (.int i) H) ∨ ∃ k, xs = [.bl k] ∧ Q (.int (if k then 1 else 0)) H) (on1 intR) := cr_1 fun H0 Z O Hs H x a c Q e bs sm v k => by
  unfold intR at e
  split at e
  · cases e
    exact .inl ⟨_, by rw [v.to_int], k _ H (Same.refl H) .int⟩
  · cases e
    exact .inr ⟨_, by rw [v.to_bool], k _ H (Same.refl H) .int⟩
  · cases e
/-- str(x) of an int, a text -/
def strR (a : Res) : Option Res := match a with
  | .sh (.int i) => if i.natAbs.log2 < 1920 then some (.sh (.str (toString i))) else none
  | .sh (.str x) => some (.sh (.str x))
  | _ => none
def rStr : List V → Hp → VK → Prop := fun xs H Q => (∃ i, xs = [.int i] ∧ i.natAbs.log2 < 1920 ∧ Q (.str (toString i)) H) ∨ ∃ a, xs = [.str a] ∧ Q (.str a) H
theorem call_strA {X : Cx} : CallR X (.type "str") rStr := call_str_int.or SkE.call_str_str
theorem cr_str : CRok K rStr (on1 strR) := cr_1 fun H0 Z O Hs H x a c Q e bs sm v k => by
  unfold strR at e
  split at e
  · obtain ⟨hl, rfl⟩ := ite_some e
    exact .inl ⟨_, by rw [v.to_int], hl, k _ H (Same.refl H) .str⟩
  · cases e
    exact .inr ⟨_, by rw [v.to_str], k _ H (Same.refl H) .str⟩
  · cases e
/-- list(x), tuple(x) -/
def listR (a : Res) : Option Res := match a.seq with
  | some ds => some (.fr ds)
  | none => none
def tupR (a : Res) : Option Res := match a.seq with
  | some ds => some (.sh (.tuple ds))
  | none => none
theorem cr_list : CRok K (fun xs H Q => ∃ p ys, xs = [.ref p] ∧ (SqL K H p ys ∨ SqT K H p ys) ∧ ∀ l, H l = none → Q (.ref l) (upd H l (.lst ys))) (on1 listR) := cr_1 fun H0 Z O Hs H x a c Q e bs sm v k => by
  unfold listR at e
  cases h2 : a.seq with
  | none => simp only [h2] at e; cases e
  | some ds =>
    simp only [h2] at e
    cases e
    obtain ⟨p, vs, rfl, hs, hd⟩ := v.seq h2
    exact ⟨p, vs, rfl, hs, fun l hl => k _ _ (same_new hl) (Vl.newL bs sm hl hd)⟩
theorem cr_tuple : CRok K (fun xs H Q => ∃ p ys, xs = [.ref p] ∧ ((SqL K H p ys ∧ ∀ l, H l = none → Q (.ref l) (upd H l (.tup ys))) ∨ (SqT K H p ys ∧ Q (.ref p) H))) (on1 tupR) := cr_1 fun H0 Z O Hs H x a c Q e bs sm v k => by
  unfold tupR at e
  cases h2 : a.seq with
  | none => simp only [h2] at e; cases e
  | some ds =>
    simp only [h2] at e
    cases e
    cases ht : a.tup with
    | some es =>
      obtain ⟨p, vs, rfl, hs, hd⟩ := v.tup ht
      have ee : es = ds := by
        cases a with
        | sh d => cases d <;> simp only [Res.tup, Res.seq, Res.lst] at ht h2 <;> cases ht <;> cases h2; rfl
        | fr xs => cases ht
        | bo xs => cases ht
      subst ee
      exact ⟨p, vs, rfl, .inr ⟨Same.tup off_le hs, k _ H (Same.refl H) (Dp.tup hs hd)⟩⟩
    | none =>
      have hl : a.lst = some ds := by
        cases a with
        | sh d => cases d <;> simp only [Res.tup, Res.seq, Res.lst] at ht h2 ⊢ <;> first | (cases ht; done) | exact h2 | cases h2
        | fr xs => exact h2
        | bo xs => exact h2
      obtain ⟨p, vs, rfl, hs, hd⟩ := v.lst hl
      exact ⟨p, vs, rfl, .inl ⟨hs, fun l hl => k _ _ (same_new hl) (Vl.newT bs hl hd)⟩⟩
/-! ### lists of ints -/
def toInts : List PyData → Option (List Int)
  | [] => some []
  | .int i :: r => match toInts r with
    | some is => some (i :: is)
    | none => none
  | _ => none
theorem toInts_eq : ∀ {ds : List PyData} {ns : List Int}, toInts ds = some ns → ds = ns.map .int
  | [], _, h => by cases h; rfl
  | .int i :: r, _, h => by
    unfold toInts at h
    cases e : toInts r with
    | none => rw [e] at h; cases h
    | some is =>
      rw [e] at h
      cases h
      rw [toInts_eq e]
      rfl
  | .none :: _, _, h => by cases h
  | .bool _ :: _, _, h => by cases h
  | .str _ :: _, _, h => by cases h
  | .list _ :: _, _, h => by cases h
  | .tuple _ :: _, _, h => by cases h
  | .dict _ :: _, _, h => by cases h
theorem toInts_map : ∀ ns : List Int, toInts (ns.map .int) = some ns
  | [] => rfl
  | n :: ns => by
    show (match toInts (ns.map .int) with | some is => some (n :: is) | none => none) = _
    rw [toInts_map ns]
def maxL : List Int → Int
  | [] => 0
  | [x] => x
  | x :: y :: r => max x (maxL (y :: r))
def minL : List Int → Int
  | [] => 0
  | [x] => x
  | x :: y :: r => min x (minL (y :: r))
theorem maxL_le : ∀ (ns : List Int) (y : Int), y ∈ ns → y ≤ maxL ns
  | [x], y, h => by rcases List.mem_cons.mp h with rfl | h; exact Int.le_refl _; cases h
  | x :: z :: r, y, h => by
    unfold maxL
    rcases List.mem_cons.mp h with rfl | h
    · omega
    · have := maxL_le (z :: r) y h
      omega
theorem maxL_mem : ∀ (ns : List Int), ns ≠ [] → maxL ns ∈ ns
  | [], h => absurd rfl h
  | [x], _ => List.mem_cons_self
  | x :: z :: r, _ => by
    have := maxL_mem (z :: r) (by simp)
    unfold maxL
    by_cases h : x ≤ maxL (z :: r)
    · rw [Int.max_eq_right h]; exact List.mem_cons_of_mem _ this
    · rw [Int.max_eq_left (by omega)]; exact List.mem_cons_self
theorem minL_le : ∀ (ns : List Int) (y : Int), y ∈ ns → minL ns ≤ y
  | [x], y, h => by rcases List.mem_cons.mp h with rfl | h; exact Int.le_refl _; cases h
  | x :: z :: r, y, h => by
    unfold minL
    rcases List.mem_cons.mp h with rfl | h
    · omega
    · have := minL_le (z :: r) y h
      omega
theorem minL_mem : ∀ (ns : List Int), ns ≠ [] → minL ns ∈ ns
  | [], h => absurd rfl h
  | [x], _ => List.mem_cons_self
  | x :: z :: r, _ => by
    have := minL_mem (z :: r) (by simp)
    unfold minL
    by_cases h : x ≤ minL (z :: r)
    · rw [Int.min_eq_left h]; exact List.mem_cons_self
    · rw [Int.min_eq_right (by omega)]; exact List.mem_cons_of_mem _ this
/-- max, min of a list of ints, or of two ints -/
def mmR (f : List Int → Int) : List Res → Option Res
  | [a] => match a.lst with
    | some ds => match toInts ds with
      | some ns => if ns ≠ [] then some (.sh (.int (f ns))) else none
      | none => none
    | none => none
  | [a, b] => match a.toi, b.toi with
    | some i, some j => some (.sh (.int (f [i, j])))
    | _, _ => none
  | _ => none
def rMaxA (K : PySem.W.Frag) : List V → Hp → VK → Prop := fun xs H Q => rMax K xs H Q ∨ ∃ i j, xs = [.int i, .int j] ∧ Q (.int (if j > i then j else i)) H
def rMinA (K : PySem.W.Frag) : List V → Hp → VK → Prop := fun xs H Q => rMin K xs H Q ∨ ∃ i j, xs = [.int i, .int j] ∧ Q (.int (if j < i then j else i)) H
theorem call_maxA {X : Cx} (hc : X.calm = true) : CallR X (.builtin "max") (rMaxA X.K) := (L2.cr_max hc).or (call_max2 hc)
theorem call_minA {X : Cx} (hc : X.calm = true) : CallR X (.builtin "min") (rMinA X.K) := (L2.cr_min hc).or (call_min2 hc)
theorem mm_some {f : List Int → Int} {as : List Res} {c : Res} (e : mmR f as = some c) :
    (∃ a ds ns, as = [a] ∧ a.lst = some ds ∧ ds = ns.map PyData.int ∧ ns ≠ [] ∧ c = .sh (.int (f ns))) ∨ ∃ a b i j, as = [a, b] ∧ a.toi = some i ∧ b.toi = some j ∧ c = .sh (.int (f [i, j])) := by
  unfold mmR at e
  split at e
  · rename_i a
    cases h1 : a.lst with
    | none => rw [h1] at e; cases e
    | some ds =>
      cases h2 : toInts ds with
      | none => rw [h1] at e; simp only [h2] at e; cases e
      | some ns =>
        rw [h1] at e
        simp only [h2] at e
        obtain ⟨hn, rfl⟩ := ite_some e
        exact .inl ⟨a, ds, ns, rfl, h1, toInts_eq h2, hn, rfl⟩
  · rename_i a b
    cases h1 : a.toi with
    | none => rw [h1] at e; cases e
    | some i =>
      cases h2 : b.toi with
      | none => rw [h1, h2] at e; cases e
      | some j =>
        rw [h1, h2] at e
        cases e
        exact .inr ⟨a, b, i, j, rfl, h1, h2, rfl⟩
  · cases e
theorem cr_maxA : CRok K (rMaxA K) (mmR maxL) := fun H0 Z O Hs H xs as c Q e bs sm v k => by
  rcases mm_some e with ⟨a, ds, ns, rfl, h1, rfl, hn, rfl⟩ | ⟨a, b, i, j, rfl, h1, h2, rfl⟩
  · cases v with
    | cons v1 vr =>
      cases vr
      obtain ⟨p, vs, rfl, hs, hd⟩ := v1.lst h1
      have ev := dpa_toInts hd
      subst ev
      refine .inl ⟨p, ns, rfl, hs, List.length_pos_iff.mpr hn, fun m hm hle => ?_⟩
      have e1 : m = maxL ns := Int.le_antisymm (maxL_le ns m hm) (hle _ (maxL_mem ns hn))
      rw [e1]
      exact k _ H (Same.refl H) .int
  · cases v with
    | cons v1 vr =>
      cases vr with
      | cons v2 vr =>
        cases vr
        refine .inr ⟨i, j, by rw [v1.toi h1, v2.toi h2], ?_⟩
        have e1 : (if j > i then j else i) = maxL [i, j] := by
          show _ = max i j
          split <;> omega
        rw [e1]
        exact k _ H (Same.refl H) .int
theorem cr_minA : CRok K (rMinA K) (mmR minL) := fun H0 Z O Hs H xs as c Q e bs sm v k => by
  rcases mm_some e with ⟨a, ds, ns, rfl, h1, rfl, hn, rfl⟩ | ⟨a, b, i, j, rfl, h1, h2, rfl⟩
  · cases v with
    | cons v1 vr =>
      cases vr
      obtain ⟨p, vs, rfl, hs, hd⟩ := v1.lst h1
      have ev := dpa_toInts hd
      subst ev
      refine .inl ⟨p, ns, rfl, hs, List.length_pos_iff.mpr hn, fun m hm hle => ?_⟩
      have e1 : m = minL ns := Int.le_antisymm (hle _ (minL_mem ns hn)) (minL_le ns m hm)
      rw [e1]
      exact k _ H (Same.refl H) .int
  · cases v with
    | cons v1 vr =>
      cases vr with
      | cons v2 vr =>
        cases vr
        refine .inr ⟨i, j, by rw [v1.toi h1, v2.toi h2], ?_⟩
        have e1 : (if j < i then j else i) = minL [i, j] := by
          show _ = min i j
          split <;> omega
        rw [e1]
        exact k _ H (Same.refl H) .int
def sumR (a : Res) : Option Res := match a.lst with
  | some ds => match toInts ds with
    | some ns => some (.sh (.int ns.sum))
    | none => none
  | none => none
theorem cr_sumA : CRok K (rSum K) (on1 sumR) := cr_1 fun H0 Z O Hs H x a c Q e bs sm v k => by
  unfold sumR at e
  cases h1 : a.lst with
  | none => rw [h1] at e; cases e
  | some ds =>
    cases h2 : toInts ds with
    | none => rw [h1] at e; simp only [h2] at e; cases e
    | some ns =>
      rw [h1] at e
      simp only [h2] at e
      cases e
      obtain ⟨p, vs, rfl, hs, hd⟩ := v.lst h1
      have e3 := toInts_eq h2
      subst e3
      have ev := dpa_toInts hd
      subst ev
      exact ⟨p, ns, rfl, hs, k _ H (Same.refl H) .int⟩

/-! ### isinstance -/
inductive Kd where
  | int | bool | str | list | tuple
  deriving DecidableEq
def Kd.nm : Kd → String
  | .int => "int" | .bool => "bool" | .str => "str" | .list => "list" | .tuple => "tuple"
def isK : Kd → PyData → Bool
  | .int, .int _ => true
  | .int, .bool _ => true
  | .bool, .bool _ => true
  | .str, .str _ => true
  | .list, .list _ => true
  | .tuple, .tuple _ => true
  | _, _ => false
def tyN : PyData → String
  | .none => "NoneType" | .bool _ => "bool" | .int _ => "int" | .str _ => "str" | .list _ => "list" | .tuple _ => "tuple" | .dict _ => "dict"
theorem kit_tab : ∀ k : Kd, ∀ d : PyData, (∀ kvs, d ≠ .dict kvs) → kitB (tyN d) k.nm = some (isK k d) := by
  have t : ∀ k : Kd, kitB "NoneType" k.nm = some false ∧ kitB "bool" k.nm = some (isK k (.bool true)) ∧ kitB "int" k.nm = some (isK k (.int 0)) ∧
      kitB "str" k.nm = some (isK k (.str "")) ∧ kitB "list" k.nm = some (isK k (.list [])) ∧ kitB "tuple" k.nm = some (isK k (.tuple [])) := by
    intro k
    cases k <;> decide +kernel
  intro k d hd
  obtain ⟨h1, h2, h3, h4, h5, h6⟩ := t k
  cases d with
  | none => rw [show tyN .none = "NoneType" from rfl, h1]; cases k <;> rfl
  | bool b => rw [show tyN (.bool b) = "bool" from rfl, h2]; cases k <;> rfl
  | int b => rw [show tyN (.int b) = "int" from rfl, h3]; cases k <;> rfl
  | str b => rw [show tyN (.str b) = "str" from rfl, h4]; cases k <;> rfl
  | list b => rw [show tyN (.list b) = "list" from rfl, h5]; cases k <;> rfl
  | tuple b => rw [show tyN (.tuple b) = "tuple" from rfl, h6]; cases k <;> rfl
  | dict b => exact absurd rfl (hd b)
theorem dp_ty {H : Hp} {v : V} {d : PyData} (h : Dp K H v d) : TyX K H v (.type (tyN d)) ∧ ∀ kvs, d ≠ .dict kvs := by
  cases h with
  | non => exact ⟨.base .non, fun _ z => by cases z⟩
  | bl b => exact ⟨.base (.bl b), fun _ z => by cases z⟩
  | int b => exact ⟨.base (.int b), fun _ z => by cases z⟩
  | str b => exact ⟨.base (.str b), fun _ z => by cases z⟩
  | lst hs _ =>
    refine ⟨?_, fun _ z => by cases z⟩
    rcases hs with (h | ⟨o, h⟩) | ⟨o, its, n, h1, h2, _⟩
    · exact .base (.lst h)
    · exact .base (.frz h)
    · exact .kList h1 h2
  | tup hs _ =>
    refine ⟨?_, fun _ z => by cases z⟩
    rcases hs with (h | ⟨o, h⟩) | ⟨o, its, n, h1, h2, _⟩
    · exact .base (.tup h)
    · exact .fTuple h
    · exact .kTuple h1 h2
@[simp] def eIsi (k : Kd) (a : Rh → Option Res) : Rh → Option Res := fun ρ => (a ρ).bind fun r => some (.sh (.bool (isK k r.dat)))
theorem eok_isi (k : Kd) {ta : TE} {a : Rh → Option Res} (ha : EOk K ta a) : EOk K (tCB (rIsi K) (tCons ta (tCons (tC (.ty k.nm)) tNil))) (eIsi k a) := fun H0 Z O ρ z σ H Q e c q => by
  obtain ⟨x, e1, e⟩ := bind_some e
  cases e
  refine ha H0 Z O ρ x σ H _ e1 c fun v H1 s1 v1 => ?_
  obtain ⟨ty, nd⟩ := dp_ty v1.full
  exact ⟨v, .ty k.nm, _, _, _, rfl, .ty _, ty, kit_ty (kit_tab k _ nd), q _ H1 s1 .bool⟩

/-! ### repr -/
def reprR (a : Res) : Option Res := if a.dat.showable = true ∧ SeqAt.shaped a.dat = true ∧ a.dat.shown.length ≤ LIM then some (.sh (.str a.dat.shown)) else none
def rRepr (K : PySem.W.Frag) : List V → Hp → VK → Prop := fun xs H Q => ∃ x d, xs = [x] ∧ Dp K H x d ∧ d.showable = true ∧ SeqAt.shaped d = true ∧ d.shown.length ≤ sizeLine ∧ Q (.str d.shown) H
theorem call_repr {X : Cx} (hG : X.A.guards = some []) (hu : X.A.units + 66 < cLine) : CallR X (.builtin "repr") (rRepr X.K) := fun pins s σ H xs us Q I r h => by
  obtain ⟨x, d, rfl, hd, hs, sh, hl, q⟩ := h
  obtain ⟨u, rfl, ru⟩ := vals1 r
  have nd := PyData.hasDict_of_canLay d (SeqAt.canLay_of_shaped sh)
  have dep := SeqAt.depth_of_shaped sh
  obtain ⟨as, rd⟩ := Dp.reads I d x u hd ru
  have ref : ∀ a : Addr, u = .ref a → wpAny (model X.prog X.w) X.A (call (.builtin "repr") [u]) (EP X pins σ Q) X.xe s := fun a e => by
    subst e
    exact repr_of_reads' rd hs (fun z => by rw [nd] at z; cases z) hG (by omega) (fun _ _ e => e) (fun h' w tk k => ⟨.str d.shown, H, I.kept k, ⟨_, rfl⟩, q⟩) hl
  cases hd with
  | non => cases ru; exact PySem.P.repr_of_none ⟨.str _, H, I.tok _, ⟨_, rfl⟩, by simpa only [PyData.shown] using q⟩
  | bl b => cases ru; exact PySem.P.repr_of_bool ⟨.str _, H, I.tok _, ⟨_, rfl⟩, by simpa only [PyData.shown] using q⟩
  | int i =>
    obtain ⟨t, rfl⟩ := ru
    exact PySem.P.repr_of_int (by simpa [PyData.showable] using hs) ⟨.str _, H, I.tok _, ⟨_, rfl⟩, by simpa only [PyData.shown] using q⟩
  | str z =>
    obtain ⟨t, rfl⟩ := ru
    exact PySem.P.repr_of_str ⟨.str _, H, I.tok _, ⟨_, rfl⟩, by simpa only [PyData.shown] using q⟩ (by simpa only [PyData.shown] using hl)
  | lst _ _ => cases ru; exact ref _ rfl
  | tup _ _ => cases ru; exact ref _ rfl
theorem cr_repr : CRok K (rRepr K) (on1 reprR) := cr_1 fun H0 Z O Hs H x a c Q e bs sm v k => by
  obtain ⟨⟨h1, h2, h3⟩, rfl⟩ := ite_some e
  exact ⟨x, a.dat, rfl, v.full, h1, h2, lim_line h3, k _ H (Same.refl H) .str⟩
end
end F3
set_option maxRecDepth 100000
namespace F3
open PySem PySem.Spec PyProof.Rows L2
section
variable {K : PySem.W.Frag}

/-! ### what is walked -/
def ItOk (K : PySem.W.Frag) (H0 : Hp) (Z : List Addr) (J : It) (O : List Addr) (H1 : Hp) (items : List PyData) : Prop := ∀ (O' : List Addr) (H' : Hp), Bs H0 Z O' H' → Same (off H1 O) (off H' O') →
  (∀ i d, items[i]? = some d → J.go i H' ∧ ∀ x H'', J.yld i H' x H'' → Same H' H'' ∧ Dp K (off H'' O') x d) ∧ ∀ i, items.length ≤ i → J.stop i H'
def IOk (K : PySem.W.Frag) (wi : TI) (f : Rh → Option (List PyData)) : Prop := ∀ (H0 : Hp) (Z O : List Addr) (ρ : Rh) (items : List PyData) (σ : L2.St) (H : Hp) (R : It → Hp → Prop),
  f ρ = some items → Cor K H0 Z O ρ σ H → (∀ J H', Same H H' → ItOk K H0 Z J O H' items → R J H') → wi σ H R
theorem pi_or {X : Cx} {tg e : Expr} {w1 w2 : TI} (h1 : PI X tg e w1) (h2 : PI X tg e w2) : PI X tg e (fun σ H R => w1 σ H R ∨ w2 σ H R) :=
  ⟨fun pins s σ H R I h => h.elim (h1.run pins s σ H R I) (h2.run pins s σ H R I)⟩
def iSeq (K : PySem.W.Frag) (t : TE) : TI := fun σ H R => iList K t σ H R ∨ iTup K t σ H R
theorem pi_seq {X : Cx} {tg e : Expr} {t : TE} (h : PE X e t) : PI X tg e (iSeq X.K t) := pi_or (pi_list h) (pi_tup h)
def itSeq (a : Rh → Option Res) : Rh → Option (List PyData) := fun ρ => (a ρ).bind fun r => match r with
  | .sh (.list ds) => some ds
  | .sh (.tuple ds) => some ds
  | .fr ds => some ds
  | _ => none
theorem it_list {H0 H1 : Hp} {Z O : List Addr} {p : Addr} {vs : List V} {ds : List PyData} (hs : SqL K (off H1 O) p vs) (hd : DpAll K (off H1 O) vs ds) : ItOk K H0 Z (Itl K p) O H1 ds := fun O' H' b sm => by
  have hs' : SqL K H' p vs := off_le.seq (sm.seq hs)
  refine ⟨fun i d e => ?_, fun i hi => ⟨vs, hs', by rw [dpa_len hd]; exact hi⟩⟩
  obtain ⟨v, e1, e2⟩ := dpa_get hd e
  refine ⟨⟨vs, v, hs', e1⟩, fun x H'' y => ?_⟩
  obtain ⟨rfl, y⟩ := y
  have := y vs hs'
  rw [e1] at this
  cases this
  exact ⟨Same.refl _, dp_mono sm d v e2⟩
theorem it_tup {H0 H1 : Hp} {Z O : List Addr} {p : Addr} {vs : List V} {ds : List PyData} (hs : SqT K (off H1 O) p vs) (hd : DpAll K (off H1 O) vs ds) : ItOk K H0 Z (Itt K p) O H1 ds := fun O' H' b sm => by
  have hs' : SqT K H' p vs := Same.tup off_le (Same.tup sm hs)
  refine ⟨fun i d e => ?_, fun i hi => ⟨vs, hs', by rw [dpa_len hd]; exact hi⟩⟩
  obtain ⟨v, e1, e2⟩ := dpa_get hd e
  refine ⟨⟨vs, v, hs', e1⟩, fun x H'' y => ?_⟩
  obtain ⟨rfl, y⟩ := y
  have := y vs hs'
  rw [e1] at this
  cases this
  exact ⟨Same.refl _, dp_mono sm d v e2⟩
theorem iok_seq {t : TE} {a : Rh → Option Res} (ha : EOk K t a) : IOk K (iSeq K t) (itSeq a) := fun H0 Z O ρ items σ H R e c q => by
  obtain ⟨r, e1, e⟩ := bind_some e
  split at e
  · cases e
    refine .inl (ha H0 Z O ρ _ σ H _ e1 c fun v H1 s1 v1 => ?_)
    have v1 : Dp K (off H1 O) v (.list _) := v1
    cases v1 with
    | lst hs hd => exact ⟨_, rfl, ⟨_, off_le.seq hs⟩, q _ H1 s1 (it_list hs hd)⟩
  · cases e
    refine .inr (ha H0 Z O ρ _ σ H _ e1 c fun v H1 s1 v1 => ?_)
    have v1 : Dp K (off H1 O) v (.tuple _) := v1
    cases v1 with
    | tup hs hd => exact ⟨_, rfl, ⟨_, Same.tup off_le hs⟩, q _ H1 s1 (it_tup hs hd)⟩
  · cases e
    refine .inl (ha H0 Z O ρ _ σ H _ e1 c fun v H1 s1 v1 => ?_)
    have v2 := v1.shr rfl
    cases v2 with
    | lst hs hd => exact ⟨_, rfl, ⟨_, off_le.seq hs⟩, q _ H1 s1 (it_list hs hd)⟩
  · cases e
/-- ranges -/
def rangeD (lo c : Int) (n : Nat) : List PyData := (List.range n).map fun (k : Nat) => .int (lo + (k : Int) * c)
theorem rangeD_get {lo c : Int} {n i : Nat} {d : PyData} (h : (rangeD lo c n)[i]? = some d) : i < n ∧ d = .int (lo + (i : Int) * c) := by
  unfold rangeD at h
  rw [List.getElem?_map] at h
  by_cases hi : i < n
  · rw [List.getElem?_range hi] at h
    cases h
    exact ⟨hi, rfl⟩
  · rw [List.getElem?_eq_none (by rw [List.length_range]; omega)] at h
    cases h
theorem rangeD_len (lo c : Int) (n : Nat) : (rangeD lo c n).length = n := by unfold rangeD; rw [List.length_map, List.length_range]
theorem it_rng {H0 H1 : Hp} {Z O : List Addr} (lo : Int) (n : Nat) : ItOk K H0 Z (Itr lo n) O H1 (rangeD lo 1 n) := fun O' H' b sm => by
  refine ⟨fun i d e => ?_, fun i hi => by rw [rangeD_len] at hi; exact hi⟩
  obtain ⟨hi, rfl⟩ := rangeD_get e
  refine ⟨hi, fun x H'' y => ?_⟩
  obtain ⟨rfl, rfl⟩ := y
  rw [Int.mul_one]
  exact ⟨Same.refl _, .int _⟩
theorem it_rngC {H0 H1 : Hp} {Z O : List Addr} (lo c : Int) (n : Nat) : ItOk K H0 Z (Itc lo c n) O H1 (rangeD lo c n) := fun O' H' b sm => by
  refine ⟨fun i d e => ?_, fun i hi => by rw [rangeD_len] at hi; exact hi⟩
  obtain ⟨hi, rfl⟩ := rangeD_get e
  refine ⟨hi, fun x H'' y => ?_⟩
  obtain ⟨rfl, rfl⟩ := y
  exact ⟨Same.refl _, .int _⟩
def rOk (j : Int) : Prop := -(2 ^ 62) ≤ j ∧ j < 2 ^ 62
noncomputable instance (j : Int) : Decidable (rOk j) := Classical.propDecidable _
/-- the numbers of arguments -/
def toIs : List Res → Option (List Int)
  | [] => some []
  | r :: rs => match r.toi, toIs rs with
    | some i, some is => some (i :: is)
    | _, _ => none
theorem toIs_ok {H0 Hs H : Hp} {O : List Addr} : ∀ {rs : List Res} {vs : List V} {ns : List Int}, Paired (Vl K H0 Hs O H) rs vs → toIs rs = some ns → vs = ns.map V.int
  | [], _, _, .nil, e => by cases e; rfl
  | r :: rs, _, ns, .cons h t, e => by
    unfold toIs at e
    cases e1 : r.toi with
    | none => rw [e1] at e; cases e
    | some d =>
      cases e2 : toIs rs with
      | none => rw [e1, e2] at e; cases e
      | some es =>
        rw [e1, e2] at e
        cases e
        rw [h.toi e1, toIs_ok t e2]
        rfl
noncomputable def rngD0 : List Int → Option (List PyData)
  | [j] => if rOk j then some (rangeD 0 1 j.toNat) else none
  | [i, j] => if rOk i ∧ rOk j then some (rangeD i 1 (j - i).toNat) else none
  | [i, j, c] => if c ≠ 0 ∧ c.natAbs < 1073741824 ∧ Builtin.Range.small i j c = true ∧ 0 ≤ Builtin.Range.rangeSize i j c then some (rangeD i c (Builtin.Range.rangeSize i j c).toNat) else none
  | _ => none
/-- sealed, so that no check unfolds it -/
noncomputable def rngD : List Int → Option (List PyData) := Classical.choose (⟨rngD0, rfl⟩ : ∃ g, g = rngD0)
theorem rngD_eq : rngD = rngD0 := Classical.choose_spec (⟨rngD0, rfl⟩ : ∃ g, g = rngD0)
@[simp] noncomputable def itRng (as : Rh → Option (List Res)) : Rh → Option (List PyData) := fun ρ => (as ρ).bind fun rs => (toIs rs).bind rngD
theorem iok_rng1 {t : TA} {a : Rh → Option Res} (ha : AOk K t (aCons a aNil)) : IOk K (iRng1 t) (itRng (aCons a aNil)) := fun H0 Z O ρ items σ H R e c q => by
  obtain ⟨rs, e1, e⟩ := bind_some e
  obtain ⟨ns, e2, e⟩ := bind_some e
  rw [rngD_eq] at e
  refine ha H0 Z O ρ rs σ H _ e1 c fun vs H1 s1 v1 => ?_
  have hv := toIs_ok v1 e2
  have hl := an_cons an_nil ρ rs e1
  match ns, hv, e with
  | [j], hv, e =>
    obtain ⟨h, rfl⟩ := ite_some e
    exact ⟨j, hv, h.1, h.2, q _ H1 s1 (it_rng 0 j.toNat)⟩
  | [i, j], hv, e => rw [hv] at v1; cases v1 with | cons _ v => cases v with | cons _ v => cases v; cases hl
  | [i, j, k], hv, e => rw [hv] at v1; cases v1 with | cons _ v => cases v with | cons _ v => cases v with | cons _ v => cases v; cases hl
theorem iok_rng2 {t : TA} {a b : Rh → Option Res} (ha : AOk K t (aCons a (aCons b aNil))) : IOk K (iRng2 t) (itRng (aCons a (aCons b aNil))) := fun H0 Z O ρ items σ H R e c q => by
  obtain ⟨rs, e1, e⟩ := bind_some e
  obtain ⟨ns, e2, e⟩ := bind_some e
  rw [rngD_eq] at e
  refine ha H0 Z O ρ rs σ H _ e1 c fun vs H1 s1 v1 => ?_
  have hv := toIs_ok v1 e2
  have hl := an_cons (an_cons an_nil) ρ rs e1
  match ns, hv, e with
  | [i, j], hv, e =>
    obtain ⟨h, rfl⟩ := ite_some e
    exact ⟨i, j, hv, ⟨h.1.1, h.1.2, h.2.1, h.2.2⟩, q _ H1 s1 (it_rng i (j - i).toNat)⟩
  | [j], hv, e => rw [hv] at v1; cases v1 with | cons _ v => cases v; cases hl
  | [i, j, k], hv, e => rw [hv] at v1; cases v1 with | cons _ v => cases v with | cons _ v => cases v with | cons _ v => cases v; cases hl
theorem iok_rng3 {t : TA} {a b d : Rh → Option Res} (ha : AOk K t (aCons a (aCons b (aCons d aNil)))) : IOk K (iRng3 t) (itRng (aCons a (aCons b (aCons d aNil)))) := fun H0 Z O ρ items σ H R e c q => by
  obtain ⟨rs, e1, e⟩ := bind_some e
  obtain ⟨ns, e2, e⟩ := bind_some e
  rw [rngD_eq] at e
  refine ha H0 Z O ρ rs σ H _ e1 c fun vs H1 s1 v1 => ?_
  have hv := toIs_ok v1 e2
  have hl := an_cons (an_cons (an_cons an_nil)) ρ rs e1
  match ns, hv, e with
  | [i, j, k], hv, e =>
    obtain ⟨⟨h1, h2, h3, h4⟩, rfl⟩ := ite_some e
    exact ⟨i, j, k, (Builtin.Range.rangeSize i j k).toNat, hv, ⟨h1, h2, h3, by omega⟩, q _ H1 s1 (it_rngC i k _)⟩
  | [j], hv, e => rw [hv] at v1; cases v1 with | cons _ v => cases v; cases hl
  | [i, j], hv, e => rw [hv] at v1; cases v1 with | cons _ v => cases v with | cons _ v => cases v; cases hl

/-! ### targets -/
def GOk (K : PySem.W.Frag) (S : List Nat) (g : TG) (f : PyData → Rh → Option Rh) : Prop := ∀ (H0 : Hp) (Z O : List Addr) (ρ ρ' : Rh) (σ : L2.St) (H : Hp) (v : V) (d : PyData) (Q : L2.St → Hp → Prop),
  f d ρ = some ρ' → Cor K H0 Z O ρ σ H → Dp K (off H O) v d → (∀ σ' : L2.St, Cor K H0 Z O ρ' σ' H → σ'.length = σ.length → (∀ j : Nat, j ∉ S → σ'[j]? = σ[j]?) → Q σ' H) → g v σ H Q
def GsOk (K : PySem.W.Frag) (S : List Nat) (g : TGs) (f : List PyData → Rh → Option Rh) : Prop := ∀ (H0 : Hp) (Z O : List Addr) (ρ ρ' : Rh) (σ : L2.St) (H : Hp) (v : List V) (d : List PyData) (Q : L2.St → Hp → Prop),
  f d ρ = some ρ' → Cor K H0 Z O ρ σ H → DpAll K (off H O) v d → (∀ σ' : L2.St, Cor K H0 Z O ρ' σ' H → σ'.length = σ.length → (∀ j : Nat, j ∉ S → σ'[j]? = σ[j]?) → Q σ' H) → g v σ H Q
@[simp] def gNm (i : Nat) : PyData → Rh → Option Rh := fun d ρ => some (ρ.set i (some (.sh d)))
def gsN : List PyData → Rh → Option Rh
  | [], ρ => some ρ
  | _ :: _, _ => none
def gsC (f : PyData → Rh → Option Rh) (fs : List PyData → Rh → Option Rh) : List PyData → Rh → Option Rh
  | d :: ds, ρ => (f d ρ).bind (fs ds)
  | [], _ => none
def gTp (fs : List PyData → Rh → Option Rh) : PyData → Rh → Option Rh
  | .tuple ds, ρ => fs ds ρ
  | _, _ => none
theorem gok_name (i : Nat) : GOk K [i] (gName i) (gNm i) := fun H0 Z O ρ ρ' σ H v d Q e c h q => by
  cases e
  exact q _ (c.setS i h) (List.length_set ..) fun j hj => List.getElem?_set_ne fun z => hj (by rw [z]; exact List.mem_cons_self)
theorem gsok_nil : GsOk K [] gNil gsN := fun H0 Z O ρ ρ' σ H v d Q e c h q => by
  cases d with
  | nil =>
    cases e
    cases h
    exact ⟨rfl, q σ c rfl fun _ _ => rfl⟩
  | cons a r => cases e
theorem gsok_cons {S T : List Nat} {g : TG} {gs : TGs} {f : PyData → Rh → Option Rh} {fs : List PyData → Rh → Option Rh} (h1 : GOk K S g f) (h2 : GsOk K T gs fs) : GsOk K (S ++ T) (gCons g gs) (gsC f fs) :=
  fun H0 Z O ρ ρ' σ H v d Q e c h q => by
    cases d with
    | nil => cases e
    | cons a r =>
      obtain ⟨ρ1, e1, e⟩ := bind_some e
      cases h with
      | cons ha hr =>
        refine ⟨_, _, rfl, h1 H0 Z O ρ ρ1 σ H _ a _ e1 c ha fun σ1 c1 l1 k1 => h2 H0 Z O ρ1 ρ' σ1 H _ r _ e c1 hr fun σ2 c2 l2 k2 => q σ2 c2 (l2.trans l1) fun j hj => ?_⟩
        rw [k2 j fun z => hj (List.mem_append_right _ z), k1 j fun z => hj (List.mem_append_left _ z)]
theorem gs_len {n : Nat} : ∀ {fs : List PyData → Rh → Option Rh}, (∀ ds ρ ρ', fs ds ρ = some ρ' → ds.length = n) → ∀ (f : PyData → Rh → Option Rh) ds ρ ρ', gsC f fs ds ρ = some ρ' → ds.length = n + 1 := fun {fs} h f ds ρ ρ' e => by
  cases ds with
  | nil => cases e
  | cons a r =>
    obtain ⟨ρ1, e1, e⟩ := bind_some e
    rw [List.length_cons, h r ρ1 ρ' e]
theorem gs_len0 : ∀ ds ρ ρ', gsN ds ρ = some ρ' → ds.length = 0 := fun ds ρ ρ' e => by
  cases ds with
  | nil => rfl
  | cons a r => cases e
theorem gok_tup {S : List Nat} {n : Nat} {gs : TGs} {fs : List PyData → Rh → Option Rh} (h : GsOk K S gs fs) (hn : ∀ ds ρ ρ', fs ds ρ = some ρ' → ds.length = n) : GOk K S (gTup K n gs) (gTp fs) :=
  fun H0 Z O ρ ρ' σ H v d Q e c hd q => by
    cases d with
    | tuple ds =>
      cases hd with
      | tup hs ha => exact ⟨_, _, rfl, Same.tup off_le hs, by rw [dpa_len ha]; exact hn ds ρ ρ' e, h H0 Z O ρ ρ' σ H _ ds Q e c ha q⟩
    | _ => cases e

/-! ### comprehensions -/
@[simp] def wipeD (ρ : Rh) : List Nat → Rh
  | [] => ρ
  | v :: vs => (wipeD ρ vs).set v none
theorem wipe_len (σ : L2.St) : ∀ vs : List Nat, (wipe σ vs).length = σ.length := wipe_length σ
theorem Cor.wipeA {H0 H : Hp} {Z O : List Addr} {ρ : Rh} {σ : L2.St} (c : Cor K H0 Z O ρ σ H) : ∀ vs : List Nat, Cor K H0 Z O (wipeD ρ vs) (wipe σ vs) H
  | [] => c
  | v :: vs => by
    have c1 := Cor.wipeA c vs
    refine ⟨c1.bs, fun j r h => ?_, fun a b ds es p hab ha hb sa sb => c1.di a b ds es p hab (set_some ha) (set_some hb) (set_some sa) (set_some sb), ?_⟩
    · obtain ⟨w, e1, e2⟩ := c1.sl j r (set_some h)
      have hj : v ≠ j := fun z => by
        subst z
        rcases set_get h with ⟨_, h, _⟩ | ⟨h, _⟩
        · cases h
        · exact h rfl
      exact ⟨w, by unfold wipe; rw [List.getElem?_set_ne hj]; exact e1, e2⟩
    · unfold wipeD wipe
      rw [List.length_set, List.length_set]
      exact c1.len
theorem wipe_eq {σ σ' : L2.St} {vs S : List Nat} (hl : σ'.length = (wipe σ vs).length) (hS : ∀ i ∈ S, i ∈ vs) (h : ∀ j : Nat, j ∉ S → σ'[j]? = (wipe σ vs)[j]?) : wipe σ' vs = wipe σ vs := by
  have inn : ∀ (σ : L2.St) (vs : List Nat) (j : Nat), j ∈ vs → (wipe σ vs)[j]? = if j < σ.length then some none else none := by
    intro σ vs
    induction vs with
    | nil => intro j hj; cases hj
    | cons v vs ih =>
      intro j hj
      unfold wipe
      by_cases hv : v = j
      · subst hv
        by_cases hlt : v < σ.length
        · rw [if_pos hlt, List.getElem?_set_self (by rw [wipe_length]; exact hlt)]
        · rw [if_neg hlt, List.getElem?_eq_none (by rw [List.length_set, wipe_length]; omega)]
      · rw [List.getElem?_set_ne hv]
        rcases List.mem_cons.mp hj with z | z
        · exact absurd z.symm hv
        · exact ih j z
  apply List.ext_getElem?
  intro j
  rw [wipe_length] at hl
  by_cases hj : j ∈ vs
  · rw [inn _ _ _ hj, inn _ _ _ hj, hl]
  · rw [wipe_out hj]
    exact h j fun z => hj (hS j z)
theorem Cor.own {H0 H H' : Hp} {Z O : List Addr} {ρ : Rh} {σ : L2.St} (c : Cor K H0 Z O ρ σ H) (e : Same H H') {D : Addr} (hD : H D = none) (h' : ∃ o, H' D = some o) : Cor K H0 Z (D :: O) ρ σ H' ∧ Same (off H O) (off H' (D :: O)) := by
  have sm : Same (off H O) (off H' (D :: O)) := (off_new hD).trans (off_same e)
  have b := c.bs.mono e
  refine ⟨⟨⟨b.same, fun q hq => List.mem_cons_of_mem _ (b.zo q hq), b.z0, fun q hq => ?_⟩, fun j r ej => ?_, c.di, c.len⟩, sm⟩
  · rcases List.mem_cons.mp hq with rfl | hq
    · exact h'
    · exact b.live q hq
  · obtain ⟨w, e1, e2, e3⟩ := c.sl j r ej
    refine ⟨w, e1, ?_, e3⟩
    cases r with
    | sh d => exact dp_mono sm d w e2
    | fr xs => exact absurd rfl (e3 xs)
    | bo xs =>
      obtain ⟨q, ws, rfl, g0, gp, gl, gd⟩ := e2
      exact ⟨q, ws, rfl, g0, List.mem_cons_of_mem _ gp, e _ _ gl, dpa_mono sm xs ws gd⟩
/-- an owned list that is no slot's is written -/
theorem Cor.updO {H0 H : Hp} {Z O : List Addr} {ρ : Rh} {σ : L2.St} (c : Cor K H0 Z O ρ σ H) {D : Addr} {o : HO} (hD : D ∈ O) (h0 : H0 D = none) (hn : ∀ (i : Nat) ds, ρ[i]? = some (some (.bo ds)) → σ[i]? ≠ some (some (.ref D))) :
    Cor K H0 Z O ρ σ (upd H D o) := by
  refine ⟨⟨fun b u e => ?_, c.bs.zo, c.bs.z0, fun q hq => ?_⟩, fun j r ej => ?_, c.di, c.len⟩
  · rw [upd_ne (ne_of_none e h0)]; exact c.bs.same b u e
  · by_cases hq' : q = D
    · subst hq'; exact ⟨_, upd_same⟩
    · rw [upd_ne hq']; exact c.bs.live q hq
  · obtain ⟨w, e1, e2, e3⟩ := c.sl j r ej
    refine ⟨w, e1, ?_, e3⟩
    cases r with
    | sh d =>
      have e2 : Dp K (off H O) w d := e2
      show Dp K (off (upd H D o) O) w d
      rw [off_upd hD]
      exact e2
    | fr xs => exact absurd rfl (e3 xs)
    | bo xs =>
      obtain ⟨q, ws, rfl, g0, gp, gl, gd⟩ := e2
      refine ⟨q, ws, rfl, g0, gp, ?_, by rw [off_upd hD]; exact gd⟩
      rw [upd_ne fun z => hn j xs ej (by rw [← z]; exact e1)]
      exact gl
def lcD (g : PyData → Rh → Option Rh) (tt : Rh → Option Bool) (elt : Rh → Option Res) (ρ : Rh) : List PyData → Option (List PyData)
  | [] => some []
  | x :: xs => (g x ρ).bind fun ρ1 => (tt ρ1).bind fun b => if b = true then (elt ρ1).bind fun r => r.shr.bind fun d => (lcD g tt elt ρ xs).bind fun ds => some (d :: ds) else lcD g tt elt ρ xs
@[simp] def eLc (it : Rh → Option (List PyData)) (g : PyData → Rh → Option Rh) (tt : Rh → Option Bool) (elt : Rh → Option Res) (vs : List Nat) : Rh → Option Res := fun ρ =>
  (it ρ).bind fun xs => if xs.length ≤ LIM then (lcD g tt elt (wipeD ρ vs) xs).bind fun ds => some (.fr ds) else none
@[simp] def tYesD : Rh → Option Bool := fun _ => some true
theorem tok_yes : TOk K tYes tYesD := fun H0 Z O ρ b σ H Q e c q => by cases e; exact q H (Same.refl H)
theorem drop_at {α : Type} {l : List α} {i : Nat} {a : α} (h : l[i]? = some a) : l.drop i = a :: l.drop (i + 1) := by
  obtain ⟨hi, e⟩ := List.getElem?_eq_some_iff.mp h
  rw [List.drop_eq_getElem_cons hi, e]
theorem eok_lc {wi : TI} {g : TG} {tt : TT} {te : TE} {vs S : List Nat} {it : Rh → Option (List PyData)} {gd : PyData → Rh → Option Rh} {td : Rh → Option Bool} {ed : Rh → Option Res}
    (hi : IOk K wi it) (hg : GOk K S g gd) (ht : TOk K tt td) (he : EOk K te ed) (hS : ∀ i ∈ S, i ∈ vs) : EOk K (tLc wi g tt te vs) (eLc it gd td ed vs) := fun H0 Z O ρ z σ H Q e c q => by
  obtain ⟨items, e1, e⟩ := bind_some e
  by_cases hlim : items.length ≤ LIM
  case neg => rw [if_neg hlim] at e; cases e
  rw [if_pos hlim] at e
  obtain ⟨total, e2, e⟩ := bind_some e
  cases e
  refine hi H0 Z O ρ items σ H _ e1 c fun J H1 s1 hit => fun D hD => ?_
  have c1 := (c.mono s1).wipeA vs
  obtain ⟨c2, sm2⟩ := c1.own (same_new (o := .lst []) hD) hD ⟨_, upd_same⟩
  have hnD : ∀ (i : Nat) ds, (wipeD ρ vs)[i]? = some (some (.bo ds)) → (wipe σ vs)[i]? ≠ some (some (.ref D)) := fun i ds ei es => by
    obtain ⟨w, g1, ⟨p, ws, rfl, g2, g3, g4, _⟩, _⟩ := c1.sl i _ ei
    rw [es] at g1
    cases g1
    rw [hD] at g4
    cases g4
  have h0D : H0 D = none := c1.bs.same.free hD
  refine ⟨fun i m H' => m = items.length - i ∧ i ≤ items.length ∧ Same H1 H' ∧ Cor K H0 Z (D :: O) (wipeD ρ vs) (wipe σ vs) H' ∧ Same (off H1 O) (off H' (D :: O)) ∧
      ∃ acc accD rest, H' D = some (.lst acc) ∧ DpAll K (off H' (D :: O)) acc accD ∧ lcD gd td ed (wipeD ρ vs) (items.drop i) = some rest ∧ accD ++ rest = total ∧ accD.length ≤ i,
    ⟨items.length, rfl, Nat.zero_le _, same_new hD, c2, sm2, [], [], total, upd_same, .nil, e2, rfl, Nat.le_refl _⟩, fun i m H' hW => ?_⟩
  obtain ⟨rfl, hil, sH, cW, smW, acc, accD, rest, hacc, hdp, hrest, htot, hal⟩ := hW
  obtain ⟨hgo, hstop⟩ := hit (D :: O) H' cW.bs smW
  by_cases hlt : i < items.length
  · right
    obtain ⟨d, hd⟩ : ∃ d, items[i]? = some d := ⟨_, List.getElem?_eq_getElem hlt⟩
    obtain ⟨g1, g2⟩ := hgo i d hd
    refine ⟨g1, fun H'' => (Same H1 H'' ∧ Cor K H0 Z (D :: O) (wipeD ρ vs) (wipe σ vs) H'' ∧ Same (off H1 O) (off H'' (D :: O)) ∧
      ∃ acc accD rest, H'' D = some (.lst acc) ∧ DpAll K (off H'' (D :: O)) acc accD ∧ lcD gd td ed (wipeD ρ vs) (items.drop (i + 1)) = some rest ∧ accD ++ rest = total ∧ accD.length ≤ i + 1),
      fun H'' h => ⟨items.length - (i + 1), by omega, rfl, hlt, h⟩, fun x H2 hy => ?_⟩
    obtain ⟨s2, dx⟩ := g2 x H2 hy
    rw [drop_at hd] at hrest
    obtain ⟨ρ1, r1, hrest⟩ := bind_some hrest
    obtain ⟨b, r2, hrest⟩ := bind_some hrest
    have cW2 := cW.mono s2
    refine hg H0 Z (D :: O) _ ρ1 _ H2 x d _ r1 cW2 dx fun σ2 c3 hl3 k3 => ⟨wipe_eq hl3 hS k3, ht H0 Z (D :: O) ρ1 b σ2 H2 _ r2 c3 fun H3 s3 => ?_⟩
    have s23 := s2.trans s3
    have cW3 := cW2.mono s3
    by_cases hb : b = true
    · rw [if_pos hb] at hrest ⊢
      obtain ⟨r, r3, hrest⟩ := bind_some hrest
      obtain ⟨y, r4, hrest⟩ := bind_some hrest
      obtain ⟨ds, r5, hrest⟩ := bind_some hrest
      cases hrest
      refine he H0 Z (D :: O) ρ1 r σ2 H3 _ r3 (c3.mono s3) fun v H4 s4 v4 => ?_
      have s24 := s23.trans s4
      have cW4 := cW3.mono s4
      refine ⟨acc, s24 _ _ hacc, ?_, fun b u e => ?_, cW4.updO List.mem_cons_self h0D hnD, ?_, acc ++ [v], accD ++ [y], ds, upd_same, ?_, r5, ?_, ?_⟩
      · rw [dpa_len hdp]
        exact lim_lt (by omega)
      · rw [upd_ne (ne_of_none e hD)]
        exact s24 _ _ (sH _ _ e)
      · rw [off_upd List.mem_cons_self]
        exact smW.trans (off_same s24)
      · rw [off_upd List.mem_cons_self]
        exact dpa_append (dpa_mono (off_same s24) _ _ hdp) (.cons (v4.shr r4) .nil)
      · rw [List.append_assoc]
        exact htot
      · rw [List.length_append]
        simp only [List.length_cons, List.length_nil]
        omega
    · rw [if_neg hb] at hrest ⊢
      exact ⟨sH.trans s23, cW3, smW.trans (off_same s23), acc, accD, rest, s23 _ _ hacc, dpa_mono (off_same s23) _ _ hdp, hrest, htot, by omega⟩
  · left
    have ei : i = items.length := by omega
    subst ei
    rw [List.drop_length] at hrest
    cases hrest
    rw [List.append_nil] at htot
    subst htot
    exact ⟨hstop _ (Nat.le_refl _), q _ H' (s1.trans sH) ⟨D, acc, rfl, s1.free hD, (c1.bs.new hD).1, hacc, hdp⟩⟩
end
end F3
set_option maxRecDepth 100000
namespace F3
open PySem PySem.Spec PyProof.Rows L2

/-- how a block ends -/
inductive Out where
  | nx (ρ : Rh)
  | rt (r : Res)
  | ex (t : Str)
  | bk (ρ : Rh)
  | ct (ρ : Rh)
def Post (K : PySem.W.Frag) (W : Str → Hp → Prop) (H0 : Hp) (Z O : List Addr) (H : Hp) (D : Ends) : Out → Prop
  | .nx ρ => ∀ (O' : List Addr) (σ' : L2.St) (H' : Hp), Cor K H0 Z O' ρ σ' H' → Same (off H O) (off H' O') → D.nx σ' H'
  | .bk ρ => ∀ (O' : List Addr) (σ' : L2.St) (H' : Hp), Cor K H0 Z O' ρ σ' H' → Same (off H O) (off H' O') → D.bk σ' H'
  | .ct ρ => ∀ (O' : List Addr) (σ' : L2.St) (H' : Hp), Cor K H0 Z O' ρ σ' H' → Same (off H O) (off H' O') → D.ct σ' H'
  | .rt r => ∀ (v : V) (H' : Hp), Same H0 H' → Vl K H0 H0 Z H' r v → D.rt v H'
  | .ex t => ∀ (H' : Hp), Same H0 H' → W t H'
def SOk (K : PySem.W.Frag) (W : Str → Hp → Prop) (t : TS) (f : Rh → Option Out) : Prop := ∀ (H0 : Hp) (Z O : List Addr) (ρ : Rh) (o : Out) (σ : L2.St) (H : Hp) (D : Ends),
  f ρ = some o → Cor K H0 Z O ρ σ H → Post K W H0 Z O H D o → t D σ H
section
variable {K : PySem.W.Frag} {W : Str → Hp → Prop}
theorem Post.step {H0 H H1 : Hp} {Z O O1 : List Addr} {D : Ends} {o : Out} (h : Post K W H0 Z O H D o) (sm : Same (off H O) (off H1 O1)) : Post K W H0 Z O1 H1 D o := by
  cases o with
  | nx ρ => exact fun O' σ' H' c s => h O' σ' H' c (sm.trans s)
  | bk ρ => exact fun O' σ' H' c s => h O' σ' H' c (sm.trans s)
  | ct ρ => exact fun O' σ' H' c s => h O' σ' H' c (sm.trans s)
  | rt r => exact h
  | ex t => exact h
/-! ### blocks -/
@[simp] def sPass : Rh → Option Out := fun ρ => some (.nx ρ)
def sSeq (a b : Rh → Option Out) : Rh → Option Out := fun ρ => (a ρ).bind fun o => match o with
  | .nx ρ' => b ρ'
  | o => some o
theorem sok_pass : SOk K W tNext sPass := fun H0 Z O ρ o σ H D e c q => by
  cases e
  exact q O σ H c (Same.refl _)
theorem sok_seq {t u : TS} {a b : Rh → Option Out} (ha : SOk K W t a) (hb : SOk K W u b) : SOk K W (tSeq t u) (sSeq a b) := fun H0 Z O ρ o σ H D e c q => by
  obtain ⟨o1, e1, e⟩ := bind_some e
  refine ha H0 Z O ρ o1 σ H _ e1 c ?_
  cases o1 with
  | nx ρ1 => exact fun O1 σ1 H1 c1 s1 => hb H0 Z O1 ρ1 o σ1 H1 D e c1 (q.step s1)
  | bk ρ1 => cases e; exact q
  | ct ρ1 => cases e; exact q
  | rt r => cases e; exact q
  | ex t => cases e; exact q
@[simp] def sIf (k : Rh → Option Bool) (a b : Rh → Option Out) : Rh → Option Out := fun ρ => (k ρ).bind fun x => if x = true then a ρ else b ρ
theorem sok_if {tc : TT} {t u : TS} {k : Rh → Option Bool} {a b : Rh → Option Out} (hk : TOk K tc k) (ha : SOk K W t a) (hb : SOk K W u b) : SOk K W (tIfS tc t u) (sIf k a b) := fun H0 Z O ρ o σ H D e c q => by
  obtain ⟨x, e1, e⟩ := bind_some e
  refine hk H0 Z O ρ x σ H _ e1 c fun H1 s1 => ?_
  by_cases hx : x = true
  · rw [if_pos hx] at e ⊢
    exact ha H0 Z O ρ o σ H1 D e (c.mono s1) (q.step (off_same s1))
  · rw [if_neg hx] at e ⊢
    exact hb H0 Z O ρ o σ H1 D e (c.mono s1) (q.step (off_same s1))
@[simp] def sBreak : Rh → Option Out := fun ρ => some (.bk ρ)
@[simp] def sCont : Rh → Option Out := fun ρ => some (.ct ρ)
theorem sok_break : SOk K W tBreak sBreak := fun H0 Z O ρ o σ H D e c q => by
  cases e
  exact q O σ H c (Same.refl _)
theorem sok_cont : SOk K W tCont sCont := fun H0 Z O ρ o σ H D e c q => by
  cases e
  exact q O σ H c (Same.refl _)
/-- handing back -/
def retR : Res → Res
  | .bo ds => .fr ds
  | r => r
theorem vl_ret {H0 Hs H : Hp} {Z O : List Addr} {r : Res} {v : V} (b : Bs H0 Z O H) (s : Same H0 Hs) (h : Vl K H0 Hs O H r v) : Vl K H0 H0 Z H (retR r) v := by
  cases r with
  | sh d => exact dp_mono (off_sub b.zo) d v h
  | fr ds =>
    obtain ⟨p, vs, h1, h2, h3, h4, h5⟩ := h
    refine ⟨p, vs, h1, s.free h2, fun z => h3 (b.zo p z), h4, dpa_mono (off_sub fun q hq => ?_) ds vs h5⟩
    rcases List.mem_cons.mp hq with rfl | hq
    · exact List.mem_cons_self
    · exact List.mem_cons_of_mem _ (b.zo q hq)
  | bo ds =>
    obtain ⟨p, vs, h1, h2, h3, h4, h5⟩ := h
    refine ⟨p, vs, h1, h2, b.nz h2, h4, dpa_mono (off_sub fun q hq => ?_) ds vs h5⟩
    rcases List.mem_cons.mp hq with rfl | hq
    · exact h3
    · exact b.zo q hq
@[simp] def sRet (a : Rh → Option Res) : Rh → Option Out := fun ρ => (a ρ).bind fun r => some (.rt (retR r))
@[simp] def sRetN : Rh → Option Out := fun _ => some (.rt (.sh .none))
theorem sok_ret {te : TE} {a : Rh → Option Res} (ha : EOk K te a) : SOk K W (tRet te) (sRet a) := fun H0 Z O ρ o σ H D e c q => by
  obtain ⟨r, e1, e⟩ := bind_some e
  cases e
  exact ha H0 Z O ρ r σ H _ e1 c fun v H1 s1 v1 => q v H1 (c.bs.same.trans s1) (vl_ret (c.bs.mono s1) c.bs.same v1)
theorem sok_retN : SOk K W tRetN sRetN := fun H0 Z O ρ o σ H D e c q => by
  cases e
  exact q _ H c.bs.same .none
@[simp] def sDrop (a : Rh → Option Res) : Rh → Option Out := fun ρ => (a ρ).bind fun _ => some (.nx ρ)
theorem sok_drop {te : TE} {a : Rh → Option Res} (ha : EOk K te a) : SOk K W (tDrop te) (sDrop a) := fun H0 Z O ρ o σ H D e c q => by
  obtain ⟨r, e1, e⟩ := bind_some e
  cases e
  exact ha H0 Z O ρ r σ H _ e1 c fun v H1 s1 v1 => q O σ H1 (c.mono s1) (off_same s1)

/-! ### stores -/
def putR (ρ : Rh) (i : Nat) : Res → Option Rh
  | .sh d => some (ρ.set i (some (.sh d)))
  | .fr ds => some (ρ.set i (some (.bo ds)))
  | .bo _ => none
theorem put_ok {H0 H H' : Hp} {Z O : List Addr} {ρ ρ' : Rh} {σ : L2.St} {r : Res} {v : V} {i : Nat} (c : Cor K H0 Z O ρ σ H) (s : Same H H') (h : Vl K H0 H O H' r v) (e : putR ρ i r = some ρ') :
    ∃ O', Cor K H0 Z O' ρ' (σ.set i (some v)) H' ∧ Same (off H O) (off H' O') := by
  cases r with
  | sh d =>
    cases e
    exact ⟨O, (c.mono s).setS i h, off_same s⟩
  | fr ds =>
    cases e
    obtain ⟨p, vs, rfl, h2, h3, h4, h5⟩ := h
    exact ⟨p :: O, c.setF s i h2 h3 h4 h5⟩
  | bo ds => cases e
@[simp] def sSet (i : Nat) (a : Rh → Option Res) : Rh → Option Out := fun ρ => (a ρ).bind fun r => (putR ρ i r).bind fun ρ' => some (.nx ρ')
theorem sok_set {te : TE} {a : Rh → Option Res} (i : Nat) (ha : EOk K te a) : SOk K W (tAsg te (gName i)) (sSet i a) := fun H0 Z O ρ o σ H D e c q => by
  obtain ⟨r, e1, e⟩ := bind_some e
  obtain ⟨ρ', e2, e⟩ := bind_some e
  cases e
  refine ha H0 Z O ρ r σ H _ e1 c fun v H1 s1 v1 => ?_
  obtain ⟨O', c', sm⟩ := put_ok c s1 v1 e2
  exact q O' _ H1 c' sm
/-- (a, b, ..) = a tuple -/
@[simp] def sUnp (g : PyData → Rh → Option Rh) (a : Rh → Option Res) : Rh → Option Out := fun ρ => (a ρ).bind fun r => r.shr.bind fun d => (g d ρ).bind fun ρ' => some (.nx ρ')
theorem sok_unp {S : List Nat} {te : TE} {g : TG} {gd : PyData → Rh → Option Rh} {a : Rh → Option Res} (hg : GOk K S g gd) (ha : EOk K te a) : SOk K W (tAsg te g) (sUnp gd a) := fun H0 Z O ρ o σ H D e c q => by
  obtain ⟨r, e1, e⟩ := bind_some e
  obtain ⟨d, e2, e⟩ := bind_some e
  obtain ⟨ρ', e3, e⟩ := bind_some e
  cases e
  exact ha H0 Z O ρ r σ H _ e1 c fun v H1 s1 v1 => hg H0 Z O ρ ρ' σ H1 v d _ e3 (c.mono s1) (v1.shr e2) fun σ' c' _ _ => q O σ' H1 c' (off_same s1)
/-- a, b = x, y -/
def sPar (i j : Nat) (as : Rh → Option (List Res)) : Rh → Option Out := fun ρ => (as ρ).bind fun rs => (shrs rs).bind fun ds => match ds with
  | [x, y] => some (.nx ((ρ.set i (some (.sh x))).set j (some (.sh y))))
  | _ => none
theorem sok_par {t : TA} {as : Rh → Option (List Res)} (i j : Nat) (ha : AOk K t as) : SOk K W (tPar i j t) (sPar i j as) := fun H0 Z O ρ o σ H D e c q => by
  obtain ⟨rs, e1, e⟩ := bind_some e
  obtain ⟨ds, e2, e⟩ := bind_some e
  refine ha H0 Z O ρ rs σ H _ e1 c fun vs H1 s1 v1 => ?_
  obtain ⟨hd, _⟩ := shrs_ok v1 e2
  match ds, hd, e with
  | [x, y], hd, e =>
    cases e
    cases hd with
    | cons hx hd =>
      cases hd with
      | cons hy hd =>
        cases hd
        exact ⟨_, _, rfl, q O _ H1 (((c.mono s1).setS i hx).setS j hy) (off_same s1)⟩
/-- a slot's own list is written -/
theorem Cor.wr {H0 H : Hp} {Z O : List Addr} {ρ : Rh} {σ : L2.St} (c : Cor K H0 Z O ρ σ H) {i : Nat} {ds es : List PyData} {p : Addr} {ws : List V} (e : ρ[i]? = some (some (.bo ds)))
    (s : σ[i]? = some (some (.ref p))) (hd : DpAll K (off H O) ws es) : Cor K H0 Z O (ρ.set i (some (.bo es))) σ (upd H p (.lst ws)) ∧ off (upd H p (.lst ws)) O = off H O := by
  obtain ⟨v, h1, ⟨p', vs, rfl, h0, hp, hl, _⟩, _⟩ := c.sl i _ e
  rw [s] at h1
  cases h1
  have oe : off (upd H p (.lst ws)) O = off H O := off_upd hp
  refine ⟨⟨⟨fun b u eb => ?_, c.bs.zo, c.bs.z0, fun q hq => ?_⟩, fun j r ej => ?_, fun a b xs ys q hab ha hb sa sb => ?_, by rw [List.length_set]; exact c.len⟩, oe⟩
  · rw [upd_ne (ne_of_none eb h0)]; exact c.bs.same b u eb
  · by_cases hq' : q = p
    · subst hq'; exact ⟨_, upd_same⟩
    · rw [upd_ne hq']; exact c.bs.live q hq
  · rcases set_get ej with ⟨rfl, ej, _⟩ | ⟨hj, ej⟩
    · cases ej
      exact ⟨_, s, ⟨p, ws, rfl, h0, hp, upd_same, by rw [oe]; exact hd⟩, fun _ z => by cases z⟩
    · obtain ⟨w, e1, e2, e3⟩ := c.sl j r ej
      refine ⟨w, e1, ?_, e3⟩
      cases r with
      | sh d =>
        have e2 : Dp K (off H O) w d := e2
        show Dp K (off (upd H p (.lst ws)) O) w d
        rw [oe]
        exact e2
      | fr xs => exact absurd rfl (e3 xs)
      | bo xs =>
        obtain ⟨q, us, rfl, g0, gp, gl, gd⟩ := e2
        refine ⟨q, us, rfl, g0, gp, ?_, by rw [oe]; exact gd⟩
        rw [upd_ne fun z => c.di j i xs ds p hj ej e (by rw [← z]; exact e1) s]
        exact gl
  · have own : ∀ (a : Nat) (xs : List PyData), (ρ.set i (some (.bo es)))[a]? = some (some (.bo xs)) → ∃ ys, ρ[a]? = some (some (.bo ys)) := fun a xs h => by
      rcases set_get h with ⟨rfl, _, _⟩ | ⟨_, h⟩
      · exact ⟨ds, e⟩
      · exact ⟨xs, h⟩
    obtain ⟨_, ha'⟩ := own a xs ha
    obtain ⟨_, hb'⟩ := own b ys hb
    exact c.di a b _ _ q hab ha' hb' sa sb
/-- x.append(e), x a slot with a list of its own -/
def sApp (i : Nat) (a : Rh → Option Res) : Rh → Option Out := fun ρ => match ρ[i]? with
  | some (some (.bo ds)) => (a ρ).bind fun r => r.shr.bind fun d => if ds.length < LIM then some (.nx (ρ.set i (some (.bo (ds ++ [d]))))) else none
  | _ => none
theorem own_slot {H0 H : Hp} {Z O : List Addr} {ρ : Rh} {σ : L2.St} (c : Cor K H0 Z O ρ σ H) {i : Nat} {ds : List PyData} (e : ρ[i]? = some (some (.bo ds))) :
    ∃ p vs, σ[i]? = some (some (.ref p)) ∧ H p = some (.lst vs) ∧ DpAll K (off H O) vs ds := by
  obtain ⟨v, h1, ⟨p, vs, rfl, h0, hp, hl, hd⟩, _⟩ := c.sl i _ e
  exact ⟨p, vs, h1, hl, hd⟩
theorem sok_app {te : TE} {a : Rh → Option Res} (i : Nat) (ha : EOk K te a) : SOk K W (tDrop (tBM K "list" rAppend (tVar i) (tCons te tNil))) (sApp i a) := fun H0 Z O ρ o σ H D e c q => by
  unfold sApp at e
  split at e
  · rename_i ds hi
    obtain ⟨r, e1, e⟩ := bind_some e
    obtain ⟨d, e2, e⟩ := bind_some e
    obtain ⟨hl, rfl⟩ := ite_some e
    obtain ⟨p, vs, h1, h2, h3⟩ := own_slot c hi
    refine ⟨.ref p, h1, .inl ⟨rfl, vs, SqL.of h2⟩, ha H0 Z O ρ r σ H _ e1 c fun v H1 s1 v1 => ?_⟩
    have hd := dpa_append (dpa_mono (off_same s1) _ _ h3) (.cons (v1.shr e2) .nil)
    obtain ⟨c', oe⟩ := (c.mono s1).wr hi h1 hd
    exact ⟨p, vs, v, rfl, rfl, s1 _ _ h2, by rw [dpa_len h3]; exact lim_lt (Nat.le_of_lt hl), q O σ _ c' (by rw [oe]; exact off_same s1)⟩
  · cases e
/-- x.pop() as a statement -/
def sPop (i : Nat) : Rh → Option Out := fun ρ => match ρ[i]? with
  | some (some (.bo ds)) => if ds ≠ [] then some (.nx (ρ.set i (some (.bo ds.dropLast)))) else none
  | _ => none
theorem sok_pop (i : Nat) : SOk K W (tDrop (tBM0 K "list" rPop (tVar i))) (sPop i) := fun H0 Z O ρ o σ H D e c q => by
  unfold sPop at e
  split at e
  · rename_i ds hi
    obtain ⟨hne, rfl⟩ := ite_some e
    obtain ⟨p, vs, h1, h2, h3⟩ := own_slot c hi
    obtain ⟨c', oe⟩ := c.wr hi h1 (dpa_dropLast h3)
    have hl := dpa_len h3
    have hpos : 0 < ds.length := List.length_pos_iff.mpr hne
    refine ⟨.ref p, h1, .inl ⟨rfl, vs, SqL.of h2⟩, p, vs, vs[vs.length - 1]'(by omega), rfl, rfl, h2, List.getElem?_eq_getElem _, q O σ _ c' (by rw [oe]; exact Same.refl _)⟩
  · cases e
/-- x[k] = e, x a slot with a list of its own -/
def sPut (i : Nat) (k a : Rh → Option Res) : Rh → Option Out := fun ρ => (a ρ).bind fun r => r.shr.bind fun d => match ρ[i]? with
  | some (some (.bo ds)) => (k ρ).bind fun x => match x.toi with
    | some n => match ixN ds.length n with
      | some j => some (.nx (ρ.set i (some (.bo (ds.set j d)))))
      | none => none
    | none => none
  | _ => none
theorem sok_put {te tk : TE} {a k : Rh → Option Res} (i : Nat) (hk : EOk K tk k) (ha : EOk K te a) : SOk K W (tAsg te (gSub (tVar i) tk rSetL)) (sPut i k a) := fun H0 Z O ρ o σ H D e c q => by
  obtain ⟨r, e1, e⟩ := bind_some e
  obtain ⟨d, e2, e⟩ := bind_some e
  split at e
  · rename_i ds hi
    obtain ⟨x, e3, e⟩ := bind_some e
    split at e
    · rename_i n hn
      split at e
      · rename_i j hj
        cases e
        obtain ⟨p, vs, h1, h2, h3⟩ := own_slot c hi
        refine ha H0 Z O ρ r σ H _ e1 c fun v H1 s1 v1 => ⟨.ref p, h1, hk H0 Z O ρ x σ H1 _ e3 (c.mono s1) fun y H2 s2 v2 => ?_⟩
        have s02 := s1.trans s2
        have hd := dpa_set j (dpa_mono (off_same s02) _ _ h3) (dp_mono (off_same s2) _ _ (v1.shr e2))
        obtain ⟨c', oe⟩ := (c.mono s02).wr hi h1 hd
        exact ⟨p, vs, n, j, rfl, v2.toi hn, s02 _ _ h2, by rw [dpa_len h3]; exact hj, q O σ _ c' (by rw [oe]; exact off_same s02)⟩
      · cases e
    · cases e
  · cases e

/-! ### forgetting, sharing -/
@[simp] def forg (ρ : Rh) (is : List Nat) : Rh := is.foldl (fun ρ i => ρ.set i none) ρ
theorem Cor.forg {H0 H : Hp} {Z O : List Addr} {σ : L2.St} : ∀ (is : List Nat) {ρ : Rh}, Cor K H0 Z O ρ σ H → Cor K H0 Z O (forg ρ is) σ H
  | [], _, c => c
  | i :: is, _, c => Cor.forg is (c.forget i)
@[simp] def forgO (is : List Nat) : Out → Out
  | .nx ρ => .nx (forg ρ is)
  | .bk ρ => .bk (forg ρ is)
  | .ct ρ => .ct (forg ρ is)
  | .rt r => .rt r
  | .ex t => .ex t
def sFo (is : List Nat) (a : Rh → Option Out) : Rh → Option Out := fun ρ => (a ρ).bind fun o => some (forgO is o)
theorem sok_fo {t : TS} {a : Rh → Option Out} (is : List Nat) (ha : SOk K W t a) : SOk K W t (sFo is a) := fun H0 Z O ρ o σ H D e c q => by
  obtain ⟨o1, e1, e⟩ := bind_some e
  cases e
  refine ha H0 Z O ρ o1 σ H D e1 c ?_
  cases o1 with
  | nx ρ1 => exact fun O' σ' H' c' s => q O' σ' H' (c'.forg is) s
  | bk ρ1 => exact fun O' σ' H' c' s => q O' σ' H' (c'.forg is) s
  | ct ρ1 => exact fun O' σ' H' c' s => q O' σ' H' (c'.forg is) s
  | rt r => exact q
  | ex t => exact q
/-- forget ahead -/
@[simp] def sPre (is : List Nat) (a : Rh → Option Out) : Rh → Option Out := fun ρ => a (forg ρ is)
theorem sok_pre {t : TS} {a : Rh → Option Out} (is : List Nat) (ha : SOk K W t a) : SOk K W t (sPre is a) := fun H0 Z O ρ o σ H D e c q =>
  ha H0 Z O _ o σ H D e (c.forg is) q
def frz1 (ρ : Rh) (i : Nat) : Rh := match ρ[i]? with
  | some (some (.bo ds)) => ρ.set i (some (.sh (.list ds)))
  | _ => ρ
@[simp] def frzD (ρ : Rh) (is : List Nat) : Rh := is.foldl frz1 ρ
theorem Cor.frz {H0 H : Hp} {Z : List Addr} {σ : L2.St} : ∀ (is : List Nat) {O : List Addr} {ρ : Rh}, Cor K H0 Z O ρ σ H → ∃ O', Cor K H0 Z O' (frzD ρ is) σ H ∧ Same (off H O) (off H O')
  | [], O, _, c => ⟨O, c, Same.refl _⟩
  | i :: is, O, ρ, c => by
    have one : ∃ O', Cor K H0 Z O' (frz1 ρ i) σ H ∧ Same (off H O) (off H O') := by
      unfold frz1
      split
      · rename_i ds hi
        exact c.freeze hi
      · exact ⟨O, c, Same.refl _⟩
    obtain ⟨O1, c1, s1⟩ := one
    obtain ⟨O2, c2, s2⟩ := Cor.frz is c1
    exact ⟨O2, c2, s1.trans s2⟩
/-- share ahead -/
@[simp] def sFrz (is : List Nat) (a : Rh → Option Out) : Rh → Option Out := fun ρ => a (frzD ρ is)
theorem sok_frz {t : TS} {a : Rh → Option Out} (is : List Nat) (ha : SOk K W t a) : SOk K W t (sFrz is a) := fun H0 Z O ρ o σ H D e c q => by
  obtain ⟨O', c', s⟩ := c.frz is
  exact ha H0 Z O' _ o σ H D e c' (q.step s)

/-! ### loops -/
def forD (g : PyData → Rh → Option Rh) (b : Rh → Option Out) : List PyData → Rh → Option Out
  | [], ρ => some (.nx ρ)
  | x :: xs, ρ => (g x ρ).bind fun ρ1 => (b ρ1).bind fun o => match o with
    | .nx ρ2 => forD g b xs ρ2
    | .ct ρ2 => forD g b xs ρ2
    | .bk ρ2 => some (.nx ρ2)
    | .rt r => some (.rt r)
    | .ex t => some (.ex t)
@[simp] def sFor (it : Rh → Option (List PyData)) (g : PyData → Rh → Option Rh) (b : Rh → Option Out) : Rh → Option Out := fun ρ => (it ρ).bind fun xs => forD g b xs ρ
theorem sok_for {wi : TI} {g : TG} {tb : TS} {S : List Nat} {it : Rh → Option (List PyData)} {gd : PyData → Rh → Option Rh} {b : Rh → Option Out} (hi : IOk K wi it) (hg : GOk K S g gd) (hb : SOk K W tb b) :
    SOk K W (tFor wi g tb) (sFor it gd b) := fun H0 Z O ρ o σ H D e c q => by
  obtain ⟨items, e1, e⟩ := bind_some e
  refine hi H0 Z O ρ items σ H _ e1 c fun J H1 s1 hit => ?_
  refine ⟨fun i m σ' H' => m = items.length - i ∧ i ≤ items.length ∧ ∃ O' ρ', Cor K H0 Z O' ρ' σ' H' ∧ Same (off H1 O) (off H' O') ∧ forD gd b (items.drop i) ρ' = some o,
    ⟨items.length, rfl, Nat.zero_le _, O, ρ, c.mono s1, Same.refl _, e⟩, fun i m σ' H' hW => ?_⟩
  obtain ⟨rfl, hil, O', ρ', c', sm, hr⟩ := hW
  obtain ⟨hgo, hstop⟩ := hit O' H' c'.bs sm
  have q1 := q.step (off_same s1)
  by_cases hlt : i < items.length
  · right
    obtain ⟨d, hd⟩ : ∃ d, items[i]? = some d := ⟨_, List.getElem?_eq_getElem hlt⟩
    obtain ⟨g1, g2⟩ := hgo i d hd
    rw [drop_at hd] at hr
    obtain ⟨ρ1, r1, hr⟩ := bind_some hr
    obtain ⟨o1, r2, hr⟩ := bind_some hr
    refine ⟨g1, fun σ2 H2 => i + 1 ≤ items.length ∧ ∃ O' ρ', Cor K H0 Z O' ρ' σ2 H2 ∧ Same (off H1 O) (off H2 O') ∧ forD gd b (items.drop (i + 1)) ρ' = some o,
      fun σ2 H2 h => ⟨items.length - (i + 1), by omega, rfl, h⟩, fun x H2 hy => ?_⟩
    obtain ⟨s2, dx⟩ := g2 x H2 hy
    refine hg H0 Z O' ρ' ρ1 σ' H2 x d _ r1 (c'.mono s2) dx fun σ3 c3 _ _ => hb H0 Z O' ρ1 o1 σ3 H2 _ r2 c3 ?_
    have sm2 := sm.trans (off_same s2)
    cases o1 with
    | nx ρ2 => exact fun O4 σ4 H4 c4 s4 => ⟨hlt, O4, ρ2, c4, sm2.trans s4, hr⟩
    | ct ρ2 => exact fun O4 σ4 H4 c4 s4 => ⟨hlt, O4, ρ2, c4, sm2.trans s4, hr⟩
    | bk ρ2 =>
      cases hr
      exact fun O4 σ4 H4 c4 s4 => q1 O4 σ4 H4 c4 (sm2.trans s4)
    | rt r =>
      cases hr
      exact q1
    | ex t =>
      cases hr
      exact q1
  · left
    have ei : i = items.length := by omega
    subst ei
    rw [List.drop_length] at hr
    cases hr
    exact ⟨hstop _ (Nat.le_refl _), q1 O' σ' H' c' sm⟩
def whileN (k : Rh → Option Bool) (b : Rh → Option Out) : Nat → Rh → Option Out
  | 0, _ => none
  | n + 1, ρ => (k ρ).bind fun x => if x = true then (b ρ).bind fun o => match o with
      | .nx ρ2 => whileN k b n ρ2
      | .ct ρ2 => whileN k b n ρ2
      | .bk ρ2 => some (.nx ρ2)
      | .rt r => some (.rt r)
      | .ex t => some (.ex t)
    else some (.nx ρ)
theorem whileN_mono {k : Rh → Option Bool} {b : Rh → Option Out} : ∀ {n m : Nat} {ρ : Rh} {o : Out}, whileN k b n ρ = some o → n ≤ m → whileN k b m ρ = some o
  | 0, _, _, _, h, _ => by cases h
  | n + 1, 0, _, _, _, hm => by omega
  | n + 1, m + 1, ρ, o, h, hm => by
    unfold whileN at h ⊢
    obtain ⟨x, e1, h⟩ := bind_some h
    rw [e1]
    show (if x = true then _ else _) = some o
    by_cases hx : x = true
    · rw [if_pos hx] at h ⊢
      obtain ⟨o1, e2, h⟩ := bind_some h
      rw [e2]
      cases o1 with
      | nx ρ2 => exact whileN_mono (n := n) h (by omega)
      | ct ρ2 => exact whileN_mono (n := n) h (by omega)
      | bk ρ2 => exact h
      | rt r => exact h
      | ex t => exact h
    · rw [if_neg hx] at h ⊢
      exact h
open Classical in
noncomputable def sWhile (k : Rh → Option Bool) (b : Rh → Option Out) : Rh → Option Out := fun ρ => if h : ∃ o n, whileN k b n ρ = some o then some h.choose else none
theorem sWhile_some {k : Rh → Option Bool} {b : Rh → Option Out} {ρ : Rh} {o : Out} (h : sWhile k b ρ = some o) : ∃ n, whileN k b n ρ = some o := by
  unfold sWhile at h
  by_cases hh : ∃ o n, whileN k b n ρ = some o
  · rw [dif_pos hh] at h
    cases h
    exact hh.choose_spec
  · rw [dif_neg hh] at h
    cases h
theorem sWhile_of {k : Rh → Option Bool} {b : Rh → Option Out} {ρ : Rh} {o : Out} {n : Nat} (h : whileN k b n ρ = some o) : sWhile k b ρ = some o := by
  have hh : ∃ o n, whileN k b n ρ = some o := ⟨o, n, h⟩
  unfold sWhile
  rw [dif_pos hh]
  obtain ⟨m, hm⟩ := hh.choose_spec
  have h1 := whileN_mono h (Nat.le_max_left n m)
  have h2 := whileN_mono hm (Nat.le_max_right n m)
  rw [h1] at h2
  exact h2.symm
theorem sok_while {tc : TT} {tb : TS} {k : Rh → Option Bool} {b : Rh → Option Out} (hk : TOk K tc k) (hb : SOk K W tb b) : SOk K W (tWhile tc tb) (sWhile k b) := fun H0 Z O ρ o σ H D e c q => by
  obtain ⟨n, hn⟩ := sWhile_some e
  refine ⟨fun m σ' H' => ∃ O' ρ', Cor K H0 Z O' ρ' σ' H' ∧ Same (off H O) (off H' O') ∧ whileN k b m ρ' = some o, ⟨n, O, ρ, c, Same.refl _, hn⟩, fun m σ' H' hW => ?_⟩
  obtain ⟨O', ρ', c', sm, hr⟩ := hW
  cases m with
  | zero => cases hr
  | succ m =>
    obtain ⟨x, r1, hr⟩ := bind_some hr
    refine hk H0 Z O' ρ' x σ' H' _ r1 c' fun H1 s1 => ?_
    have sm1 := sm.trans (off_same s1)
    by_cases hx : x = true
    · rw [if_pos hx] at hr ⊢
      obtain ⟨o1, r2, hr⟩ := bind_some hr
      refine ⟨fun σ2 H2 => ∃ O' ρ', Cor K H0 Z O' ρ' σ2 H2 ∧ Same (off H O) (off H2 O') ∧ whileN k b m ρ' = some o, fun σ2 H2 h => ⟨m, Nat.lt_succ_self m, h⟩, ?_⟩
      refine hb H0 Z O' ρ' o1 σ' H1 _ r2 (c'.mono s1) ?_
      cases o1 with
      | nx ρ2 => exact fun O4 σ4 H4 c4 s4 => ⟨O4, ρ2, c4, sm1.trans s4, hr⟩
      | ct ρ2 => exact fun O4 σ4 H4 c4 s4 => ⟨O4, ρ2, c4, sm1.trans s4, hr⟩
      | bk ρ2 =>
        cases hr
        exact fun O4 σ4 H4 c4 s4 => q O4 σ4 H4 c4 (sm1.trans s4)
      | rt r =>
        cases hr
        exact q
      | ex t =>
        cases hr
        exact q
    · rw [if_neg hx] at hr ⊢
      cases hr
      exact q O' σ' H1 (c'.mono s1) sm1

/-! ### a def -/
def fnD (n N : Nat) (body : Rh → Option Out) (ds : List PyData) : Option Res := if ds.length = n then match body (ds.map (fun d => some (.sh d)) ++ List.replicate (N - n) none) with
    | some (.rt r) => some r
    | some (.nx _) => some (.sh .none)
    | _ => none
  else none
theorem start_cor {H : Hp} {Z : List Addr} {n N : Nat} {vs : List V} {ds : List PyData} {Nm : List Str} (hz : ∀ p ∈ Z, ∃ o, H p = some o) (hd : DpAll K (off H Z) vs ds) (hn : ds.length = n) (hN : Nm.length = N) :
    Cor K H Z Z (ds.map (fun d => some (.sh d)) ++ List.replicate (N - n) none) (L2.start Nm vs) H := by
  have hl := dpa_len hd
  have fro : ∀ (i : Nat) (r : Res), (ds.map (fun d => some (Res.sh d)) ++ List.replicate (N - n) none)[i]? = some (some r) → ∃ d, ds[i]? = some d ∧ r = .sh d := fun i r h => by
    by_cases hi : i < ds.length
    · rw [List.getElem?_append_left (by rw [List.length_map]; exact hi), List.getElem?_map, List.getElem?_eq_getElem hi] at h
      cases h
      exact ⟨_, List.getElem?_eq_getElem hi, rfl⟩
    · rw [List.getElem?_append_right (by rw [List.length_map]; omega)] at h
      have := List.mem_of_getElem? h
      have := (List.mem_replicate.mp this).2
      cases this
  refine ⟨⟨Same.refl H, fun _ h => h, hz, hz⟩, fun i r h => ?_, fun i j xs ys p _ hi _ _ _ => ?_, ?_⟩
  · obtain ⟨d, e, rfl⟩ := fro i r h
    obtain ⟨v, e1, e2⟩ := dpa_get hd e
    refine ⟨v, ?_, e2, fun _ z => by cases z⟩
    have hi := (List.getElem?_eq_some_iff.mp e1).1
    unfold L2.start
    rw [List.getElem?_append_left (by rw [List.length_map]; exact hi), List.getElem?_map, e1]
    rfl
  · obtain ⟨d, _, z⟩ := fro i _ hi
    cases z
  · unfold L2.start
    rw [List.length_append, List.length_append, List.length_map, List.length_map, List.length_replicate, List.length_replicate, hl, hN, hn]
/-- THE RULE of a def of data -/
theorem fnG_data {P : Program} {w : World} {mg : Str → Option Value} {base : Heap} {x qual : Str} {st : Stmt} {f : Addr} {fd : FuncData} {Nm ps : List Str} {k n N : Nat} {body : Rh → Option Out}
    (F : Fun K x qual st f fd) (S : FnScope Nm ps (defScope st)) (hn : ps.length = n) (hN : Nm.length = N)
    (h : ∀ (cdv : Value) (A : Around) (outer : List PySem.Env) (s : Shared) (H : Hp), Room k (A.deeper (envOfC qual (defScope st) s.heap.objs.size f cdv)) → A.guards = some [] →
      ∃ t, PSs (cxOf CX0 P w K mg base Nm qual (defScope st) f cdv A outer s H E0).nox (defBody st) t ∧ SOk K (fun _ _ => False) t body) : FnG P w K mg base (k + 1) f fd ps (spD K n (fnD n N body)) := by
  refine fnG_of F S (fun vs H Q E hs => hs.1.trans hn.symm) fun cdv A outer s H vs Q hr hg hs => ?_
  obtain ⟨t, ht, hb⟩ := h cdv A outer s H hr hg
  obtain ⟨hv, ds, r, Z, hz, hd, hgd, q⟩ := hs
  refine ⟨t, ht, ?_⟩
  unfold fnD at hgd
  by_cases hl : ds.length = n
  case neg => rw [if_neg hl] at hgd; cases hgd
  rw [if_pos hl] at hgd
  have c := start_cor (Nm := Nm) hz hd hl hN
  split at hgd
  · rename_i r' hb'
    cases hgd
    exact hb H Z Z _ _ _ H _ hb' c fun v H' s' v' => q v H' s' v'
  · rename_i ρ' hb'
    cases hgd
    exact hb H Z Z _ _ _ H _ hb' c fun O' σ' H' c' _ => q _ H' c'.bs.same .none
  · cases hgd
end
end F3
namespace F3
open PySem L2
theorem bt_int : bootBuiltins "int" = some (.type "int") := by decide +kernel
theorem bt_str : bootBuiltins "str" = some (.type "str") := by decide +kernel
theorem bt_bool : bootBuiltins "bool" = some (.type "bool") := by decide +kernel
theorem bt_list : bootBuiltins "list" = some (.type "list") := by decide +kernel
theorem bt_tuple : bootBuiltins "tuple" = some (.type "tuple") := by decide +kernel
theorem bt_len : bootBuiltins "len" = some (.builtin "len") := by decide +kernel
theorem bt_abs : bootBuiltins "abs" = some (.builtin "abs") := by decide +kernel
theorem bt_max : bootBuiltins "max" = some (.builtin "max") := by decide +kernel
theorem bt_min : bootBuiltins "min" = some (.builtin "min") := by decide +kernel
theorem bt_sum : bootBuiltins "sum" = some (.builtin "sum") := by decide +kernel
theorem bt_repr : bootBuiltins "repr" = some (.builtin "repr") := by decide +kernel
theorem bt_isinstance : bootBuiltins "isinstance" = some (.builtin "isinstance") := by decide +kernel
end F3
namespace F3
open PySem L2
abbrev rSubI : R2 := rI0 fun i j => .int (i - j)
abbrev rMulI : R2 := rI CMulW fun i j => .int (i * j)
abbrev rModI : R2 := rI (fun _ j => j ≠ 0) fun i j => .int (i.fmod j)
abbrev rPowI : R2 := rI CPow fun i j => .int (i ^ j.toNat)
abbrev rLtI : R2 := rI0 fun i j => .bl (decide (i < j))
abbrev rLeI : R2 := rI0 fun i j => .bl (decide (i ≤ j))
abbrev rGtI : R2 := rI0 fun i j => .bl (decide (j < i))
abbrev rGeI : R2 := rI0 fun i j => .bl (decide (j ≤ i))
abbrev rNegI : V → Hp → VK → Prop := rU fun i => .int (-i)
abbrev rInt1 : List V → Hp → VK → Prop := fun xs H Q => (∃ i, xs = [.int i] ∧ Q (.int i) H) ∨ ∃ k, xs = [.bl k] ∧ Q (.int (if k then 1 else 0)) H
abbrev rAbsI : List V → Hp → VK → Prop := fun xs H Q => ∃ i, xs = [.int i] ∧ Q (.int (if i < 0 then -i else i)) H
abbrev rListOf (K : PySem.W.Frag) : List V → Hp → VK → Prop := fun xs H Q => ∃ p ys, xs = [.ref p] ∧ (SqL K H p ys ∨ SqT K H p ys) ∧ ∀ l, H l = none → Q (.ref l) (upd H l (.lst ys))
abbrev rTupOf (K : PySem.W.Frag) : List V → Hp → VK → Prop := fun xs H Q => ∃ p ys, xs = [.ref p] ∧ ((SqL K H p ys ∧ ∀ l, H l = none → Q (.ref l) (upd H l (.tup ys))) ∨ (SqT K H p ys ∧ Q (.ref p) H))
end F3
namespace F3
open PySem L2
theorem ru66 {k : Nat} {A : Around} (r : Room k A) : A.units + 66 < cLine := by have := r.un; omega
theorem ru65 {k : Nat} {A : Around} (r : Room k A) : A.units + 65 < cLine := by have := r.un; omega
end F3
namespace F3
open PySem L2
/-! ### data, for simp -/
@[simp] theorem sp_none : SeqAt.shaped .none = true := by simp [SeqAt.shaped, PyData.canLay0, PyData.depth]
@[simp] theorem sp_bool (b : Bool) : SeqAt.shaped (.bool b) = true := by simp [SeqAt.shaped, PyData.canLay0, PyData.depth]
@[simp] theorem sp_int (i : Int) : SeqAt.shaped (.int i) = true := by simp [SeqAt.shaped, PyData.canLay0, PyData.depth]
@[simp] theorem eqD_int (a b : Int) : eqD (.int a) (.int b) = some (a == b) := by simp [eqD, PyData.eqv]
@[simp] theorem eqD_str (a b : Str) : eqD (.str a) (.str b) = some (decide (a = b)) := rfl
@[simp] theorem eqD_boolI (a : Bool) (b : Int) : eqD (.bool a) (.int b) = some ((if a then 1 else 0) == b) := by simp [eqD, PyData.eqv]
/-- ints alone in a list -/
theorem lay_ints : ∀ ns : List Int, PyData.canLayAll0 (ns.map .int) = true
  | [] => by simp [PyData.canLayAll0]
  | n :: ns => by simp [PyData.canLayAll0, PyData.canLay0, lay_ints ns]
theorem dep_ints : ∀ ns : List Int, PyData.depthAll (ns.map .int) = 0
  | [] => by simp [PyData.depthAll]
  | n :: ns => by simp [PyData.depthAll, PyData.depth, dep_ints ns]
theorem eqv_ints : ∀ (ns ms : List Int), PyData.eqvAll (ns.map .int) (ms.map .int) = decide (ns = ms)
  | [], [] => by simp [PyData.eqvAll]
  | [], _ :: _ => by simp [PyData.eqvAll]
  | _ :: _, [] => by simp [PyData.eqvAll]
  | n :: ns, m :: ms => by
    simp only [List.map_cons, PyData.eqvAll, PyData.eqv, eqv_ints ns ms]
    by_cases h : n = m <;> by_cases g : ns = ms <;> simp [h, g]
@[simp] theorem sp_listInts (ns : List Int) : SeqAt.shaped (.list (ns.map .int)) = true := by simp [SeqAt.shaped, PyData.canLay0, PyData.depth, lay_ints, dep_ints]
@[simp] theorem sp_tupInts (ns : List Int) : SeqAt.shaped (.tuple (ns.map .int)) = true := by simp [SeqAt.shaped, PyData.canLay0, PyData.depth, lay_ints, dep_ints]
@[simp] theorem eqD_listInts (ns ms : List Int) : eqD (.list (ns.map .int)) (.list (ms.map .int)) = some (decide (ns = ms)) := by simp [eqD, PyData.eqv, eqv_ints]
@[simp] theorem sp_lst (ds : List PyData) : SeqAt.shaped (.list ds) = (PyData.canLayAll0 ds && decide (PyData.depthAll ds + 1 ≤ 64)) := by simp [SeqAt.shaped, PyData.canLay0, PyData.depth]
@[simp] theorem sp_tup (ds : List PyData) : SeqAt.shaped (.tuple ds) = (PyData.canLayAll0 ds && decide (PyData.depthAll ds + 1 ≤ 64)) := by simp [SeqAt.shaped, PyData.canLay0, PyData.depth]
end F3
set_option maxRecDepth 100000
/-! F3: equations by which simp runs the data level -/
namespace F3
open PySem PySem.Spec PyProof.Rows L2
section
variable {ρ : Rh} {a b : Rh → Option Out} {r : Res} {ds es : List PyData} {i j : Int} {x y : Str} {k n m : Nat}
@[simp] theorem lst_l : Res.lst (.sh (.list ds)) = some ds := rfl
@[simp] theorem lst_f : Res.lst (.fr ds) = some ds := rfl
@[simp] theorem lst_b : Res.lst (.bo ds) = some ds := rfl
@[simp] theorem lst_t : Res.lst (.sh (.tuple ds)) = none := rfl
@[simp] theorem lst_i : Res.lst (.sh (.int i)) = none := rfl
@[simp] theorem lst_s : Res.lst (.sh (.str x)) = none := rfl
@[simp] theorem tup_t : Res.tup (.sh (.tuple ds)) = some ds := rfl
@[simp] theorem tup_l : Res.tup (.sh (.list ds)) = none := rfl
@[simp] theorem tup_f : Res.tup (.fr ds) = none := rfl
@[simp] theorem tup_b : Res.tup (.bo ds) = none := rfl
@[simp] theorem seq_l : Res.seq (.sh (.list ds)) = some ds := rfl
@[simp] theorem seq_t : Res.seq (.sh (.tuple ds)) = some ds := rfl
@[simp] theorem seq_f : Res.seq (.fr ds) = some ds := rfl
@[simp] theorem seq_b : Res.seq (.bo ds) = some ds := rfl
@[simp] theorem seq_i : Res.seq (.sh (.int i)) = none := rfl
@[simp] theorem seq_s : Res.seq (.sh (.str x)) = none := rfl
@[simp] theorem toi_i : Res.toi (.sh (.int i)) = some i := rfl
@[simp] theorem tos_s : Res.tos (.sh (.str x)) = some x := rfl
@[simp] theorem tos_i : Res.tos (.sh (.int i)) = none := rfl
@[simp] theorem tos_l : Res.tos (.sh (.list ds)) = none := rfl
@[simp] theorem tos_t : Res.tos (.sh (.tuple ds)) = none := rfl
@[simp] theorem tos_f : Res.tos (.fr ds) = none := rfl
@[simp] theorem tos_b : Res.tos (.bo ds) = none := rfl
@[simp] theorem tob_b {q : Bool} : Res.tob (.sh (.bool q)) = some q := rfl
@[simp] theorem isn_n : Res.isNone (.sh .none) = true := rfl
@[simp] theorem isn_i : Res.isNone (.sh (.int i)) = false := rfl
@[simp] theorem isn_t : Res.isNone (.sh (.tuple ds)) = false := rfl
@[simp] theorem isn_l : Res.isNone (.sh (.list ds)) = false := rfl
@[simp] theorem isn_b {q : Bool} : Res.isNone (.sh (.bool q)) = false := rfl
@[simp] theorem isn_s : Res.isNone (.sh (.str x)) = false := rfl
@[simp] theorem isn_f : Res.isNone (.fr ds) = false := rfl
@[simp] theorem isn_bo : Res.isNone (.bo ds) = false := rfl
@[simp] theorem shr_s {d : PyData} : Res.shr (.sh d) = some d := rfl
@[simp] theorem shr_f : Res.shr (.fr ds) = some (.list ds) := rfl
@[simp] theorem shrs_n : shrs [] = some [] := rfl
@[simp] theorem shrs_c {d : PyData} {rs : List Res} : shrs (.sh d :: rs) = (shrs rs).bind fun ds => some (d :: ds) := by
  show (match Res.shr (.sh d), shrs rs with | some d, some ds => some (d :: ds) | _, _ => none) = _
  cases shrs rs <;> rfl
@[simp] theorem shrs_f {rs : List Res} : shrs (.fr ds :: rs) = (shrs rs).bind fun es => some (.list ds :: es) := by
  show (match Res.shr (.fr ds), shrs rs with | some d, some ds => some (d :: ds) | _, _ => none) = _
  cases shrs rs <;> rfl
@[simp] theorem toIs_n : toIs [] = some [] := rfl
@[simp] theorem toIs_c {rs : List Res} : toIs (.sh (.int i) :: rs) = (toIs rs).bind fun is => some (i :: is) := by
  show (match Res.toi (.sh (.int i)), toIs rs with | some d, some ds => some (d :: ds) | _, _ => none) = _
  cases toIs rs <;> rfl
@[simp] theorem toInts_m {ns : List Int} : toInts (ns.map .int) = some ns := toInts_map ns
@[simp] theorem toInts_c : toInts (.int i :: ds) = (toInts ds).bind fun is => some (i :: is) := by
  show (match toInts ds with | some is => some (i :: is) | none => none) = _
  cases toInts ds <;> rfl
@[simp] theorem toInts_n : toInts [] = some [] := rfl
/-! variables -/
@[simp] theorem eVar_eq : eVar k ρ = (ρ[k]?).bind id := by
  unfold eVar
  cases ρ[k]? <;> rfl
@[simp] theorem retR_s {d : PyData} : retR (.sh d) = .sh d := rfl
@[simp] theorem retR_f : retR (.fr ds) = .fr ds := rfl
@[simp] theorem retR_b : retR (.bo ds) = .fr ds := rfl
/-! operators -/
@[simp] theorem addR_ii : addR (.sh (.int i)) (.sh (.int j)) = some (.sh (.int (i + j))) := rfl
@[simp] theorem addR_ss : addR (.sh (.str x)) (.sh (.str y)) = if x.length + y.length ≤ LIM then some (.sh (.str (x ++ y))) else none := rfl
@[simp] theorem addR_tt : addR (.sh (.tuple ds)) (.sh (.tuple es)) = if ds.length + es.length ≤ LIM then some (.sh (.tuple (ds ++ es))) else none := rfl
@[simp] theorem addR_ll : addR (.sh (.list ds)) (.sh (.list es)) = if ds.length + es.length ≤ LIM then some (.fr (ds ++ es)) else none := rfl
@[simp] theorem addR_lf : addR (.sh (.list ds)) (.fr es) = if ds.length + es.length ≤ LIM then some (.fr (ds ++ es)) else none := rfl
@[simp] theorem addR_lb : addR (.sh (.list ds)) (.bo es) = if ds.length + es.length ≤ LIM then some (.fr (ds ++ es)) else none := rfl
@[simp] theorem addR_fl : addR (.fr ds) (.sh (.list es)) = if ds.length + es.length ≤ LIM then some (.fr (ds ++ es)) else none := rfl
@[simp] theorem addR_ff : addR (.fr ds) (.fr es) = if ds.length + es.length ≤ LIM then some (.fr (ds ++ es)) else none := rfl
@[simp] theorem addR_fb : addR (.fr ds) (.bo es) = if ds.length + es.length ≤ LIM then some (.fr (ds ++ es)) else none := rfl
@[simp] theorem addR_bl : addR (.bo ds) (.sh (.list es)) = if ds.length + es.length ≤ LIM then some (.fr (ds ++ es)) else none := rfl
@[simp] theorem addR_bf : addR (.bo ds) (.fr es) = if ds.length + es.length ≤ LIM then some (.fr (ds ++ es)) else none := rfl
@[simp] theorem addR_bb : addR (.bo ds) (.bo es) = if ds.length + es.length ≤ LIM then some (.fr (ds ++ es)) else none := rfl
@[simp] theorem subR_ii : subR (.sh (.int i)) (.sh (.int j)) = some (.sh (.int (i - j))) := rfl
@[simp] theorem mulI_ii (h : mulOk i j) : mulI (.sh (.int i)) (.sh (.int j)) = some (.sh (.int (i * j))) := by
  show (match (if mulOk i j then some (PyData.int (i * j)) else none) with | some d => some (Res.sh d) | none => none) = _
  rw [if_pos h]
@[simp] theorem fdivR_ii (h : divOk j) : fdivR (.sh (.int i)) (.sh (.int j)) = some (.sh (.int (i / j))) := by
  show (match (if divOk j then some (PyData.int (i / j)) else _) with | some d => some (Res.sh d) | none => none) = _
  rw [if_pos h]
@[simp] theorem modR_ii (h : 0 < j) : modR (.sh (.int i)) (.sh (.int j)) = some (.sh (.int (i % j))) := by
  show (match (if 0 < j then some (PyData.int (i % j)) else _) with | some d => some (Res.sh d) | none => none) = _
  rw [if_pos h]
@[simp] theorem powR_ii (h0 : 0 ≤ j) (h1 : j ≤ 1000) (h2 : i.natAbs < 1000000000000) : powR (.sh (.int i)) (.sh (.int j)) = some (.sh (.int (i ^ j.toNat))) := by
  show (match (if 0 ≤ j ∧ j ≤ 1000000 ∧ i.natAbs < 2 ^ 64 then some (PyData.int (i ^ j.toNat)) else _) with | some d => some (Res.sh d) | none => none) = _
  rw [if_pos ⟨h0, by omega, by omega⟩]
@[simp] theorem negR_i : negR (.sh (.int i)) = some (.sh (.int (-i))) := rfl
@[simp] theorem ltR_ii : ltR (.sh (.int i)) (.sh (.int j)) = some (.sh (.bool (decide (i < j)))) := rfl
@[simp] theorem leR_ii : leR (.sh (.int i)) (.sh (.int j)) = some (.sh (.bool (decide (i ≤ j)))) := rfl
@[simp] theorem gtR_ii : gtR (.sh (.int i)) (.sh (.int j)) = some (.sh (.bool (decide (j < i)))) := rfl
@[simp] theorem geR_ii : geR (.sh (.int i)) (.sh (.int j)) = some (.sh (.bool (decide (j ≤ i)))) := rfl
@[simp] theorem eqR_eq {p q : Res} : eqR p q = (eqD p.dat q.dat).bind fun k => some (.sh (.bool k)) := by
  unfold eqR
  cases eqD p.dat q.dat <;> rfl
@[simp] theorem neR_eq {p q : Res} : neR p q = (eqD p.dat q.dat).bind fun k => some (.sh (.bool (!k))) := by
  unfold neR
  cases eqD p.dat q.dat <;> rfl
@[simp] theorem isR_none {p : Res} {neg : Bool} : isR neg p (.sh .none) = some (.sh (.bool (neg != p.isNone))) := rfl
@[simp] theorem isR_bool {p q neg : Bool} : isR neg (.sh (.bool p)) (.sh (.bool q)) = some (.sh (.bool (neg != (p == q)))) := rfl
/-! built-ins -/
@[simp] theorem on1_1 {g : Res → Option Res} : on1 g [r] = g r := rfl
@[simp] theorem lenR_l : lenR (.sh (.list ds)) = some (.sh (.int ds.length)) := rfl
@[simp] theorem lenR_t : lenR (.sh (.tuple ds)) = some (.sh (.int ds.length)) := rfl
@[simp] theorem lenR_f : lenR (.fr ds) = some (.sh (.int ds.length)) := rfl
@[simp] theorem lenR_b : lenR (.bo ds) = some (.sh (.int ds.length)) := rfl
@[simp] theorem lenR_s : lenR (.sh (.str x)) = if x.length ≤ LIM then some (.sh (.int x.length)) else none := rfl
@[simp] theorem absR_i : absR (.sh (.int i)) = some (.sh (.int (if i < 0 then -i else i))) := rfl
@[simp] theorem intR_i : intR (.sh (.int i)) = some (.sh (.int i)) := rfl
@[simp] theorem intR_b {q : Bool} : intR (.sh (.bool q)) = some (.sh (.int (if q then 1 else 0))) := rfl
@[simp] theorem strR_i (h : i.natAbs.log2 < 1920) : strR (.sh (.int i)) = some (.sh (.str (toString i))) := if_pos h
@[simp] theorem listR_l : listR (.sh (.list ds)) = some (.fr ds) := rfl
@[simp] theorem listR_t : listR (.sh (.tuple ds)) = some (.fr ds) := rfl
@[simp] theorem listR_f : listR (.fr ds) = some (.fr ds) := rfl
@[simp] theorem listR_b : listR (.bo ds) = some (.fr ds) := rfl
@[simp] theorem tupR_l : tupR (.sh (.list ds)) = some (.sh (.tuple ds)) := rfl
@[simp] theorem tupR_t : tupR (.sh (.tuple ds)) = some (.sh (.tuple ds)) := rfl
@[simp] theorem tupR_f : tupR (.fr ds) = some (.sh (.tuple ds)) := rfl
@[simp] theorem tupR_b : tupR (.bo ds) = some (.sh (.tuple ds)) := rfl
@[simp] theorem slR_t {lo hi : Option Int} : slR (.sh (.tuple ds)) lo hi = some (.sh (.tuple (cutD ds lo hi))) := rfl
@[simp] theorem slR_l {lo hi : Option Int} : slR (.sh (.list ds)) lo hi = some (.fr (cutD ds lo hi)) := rfl
@[simp] theorem slR_f {lo hi : Option Int} : slR (.fr ds) lo hi = some (.fr (cutD ds lo hi)) := rfl
@[simp] theorem slR_b {lo hi : Option Int} : slR (.bo ds) lo hi = some (.fr (cutD ds lo hi)) := rfl
@[simp] theorem eSl3_eq {e : Rh → Option Res} {lo hi st : Po} : eSl3 e lo hi st ρ = (e ρ).bind fun x => (lo ρ).bind fun l => (hi ρ).bind fun h => (st ρ).bind fun k => x.lst.bind fun ds => if k ≠ some 0 then some (.fr (pickD ds l h k)) else none := by
  unfold eSl3
  congr
  funext x
  congr
  funext l
  congr
  funext h
  congr
  funext k
  cases x.lst <;> rfl
@[simp] theorem ixR_t : ixR (.sh (.tuple ds)) (.sh (.int i)) = (atI ds i).bind fun d => some (.sh d) := by
  show (match atI ds i with | some d => some (Res.sh d) | none => none) = _
  cases atI ds i <;> rfl
@[simp] theorem ixR_l : ixR (.sh (.list ds)) (.sh (.int i)) = (atI ds i).bind fun d => some (.sh d) := by
  show (match atI ds i with | some d => some (Res.sh d) | none => none) = _
  cases atI ds i <;> rfl
@[simp] theorem ixR_f : ixR (.fr ds) (.sh (.int i)) = (atI ds i).bind fun d => some (.sh d) := by
  show (match atI ds i with | some d => some (Res.sh d) | none => none) = _
  cases atI ds i <;> rfl
@[simp] theorem ixR_b : ixR (.bo ds) (.sh (.int i)) = (atI ds i).bind fun d => some (.sh d) := by
  show (match atI ds i with | some d => some (Res.sh d) | none => none) = _
  cases atI ds i <;> rfl
theorem atI_nn {α : Type} {xs : List α} (h : 0 ≤ i) : atI xs i = xs[i.toNat]? := by
  unfold atI ixN
  rw [if_pos h]
  by_cases g : i < xs.length
  · rw [if_pos g]; rfl
  · rw [if_neg g, List.getElem?_eq_none (by omega)]; rfl
@[simp] theorem atI_0 {α : Type} {xs : List α} : atI xs 0 = xs[0]? := atI_nn (by decide)
@[simp] theorem atI_1 {α : Type} {xs : List α} : atI xs 1 = xs[1]? := atI_nn (by decide)
@[simp] theorem atI_2 {α : Type} {xs : List α} : atI xs 2 = xs[2]? := atI_nn (by decide)
@[simp] theorem atI_3 {α : Type} {xs : List α} : atI xs 3 = xs[3]? := atI_nn (by decide)
@[simp] theorem atI_4 {α : Type} {xs : List α} : atI xs 4 = xs[4]? := atI_nn (by decide)
@[simp] theorem atI_5 {α : Type} {xs : List α} : atI xs 5 = xs[5]? := atI_nn (by decide)
@[simp] theorem atI_nat' {α : Type} {xs : List α} : atI xs (k : Int) = xs[k]? := by rw [atI_nn (by omega)]; simp
@[simp] theorem atI_m1 {α : Type} {xs : List α} : atI xs (-1) = xs[xs.length - 1]? := by
  unfold atI ixN
  rw [if_neg (by decide)]
  by_cases g : -(xs.length : Int) ≤ -1
  · rw [if_pos g]
    show xs[(-1 + (xs.length : Int)).toNat]? = _
    congr 1
    omega
  · rw [if_neg g]
    have e : xs.length = 0 := by omega
    rw [List.getElem?_eq_none (by omega)]
    rfl
/-! kinds -/
@[simp] theorem isK_i : ∀ {k : Kd}, isK k (.int i) = decide (k = .int) := fun {k} => by cases k <;> rfl
@[simp] theorem isK_l : ∀ {k : Kd}, isK k (.list ds) = decide (k = .list) := fun {k} => by cases k <;> rfl
@[simp] theorem isK_t : ∀ {k : Kd}, isK k (.tuple ds) = decide (k = .tuple) := fun {k} => by cases k <;> rfl
@[simp] theorem isK_s : ∀ {k : Kd}, isK k (.str x) = decide (k = .str) := fun {k} => by cases k <;> rfl
@[simp] theorem isK_n : ∀ {k : Kd}, isK k .none = false := fun {k} => by cases k <;> rfl
@[simp] theorem isK_b : ∀ {k : Kd} {q : Bool}, isK k (.bool q) = (decide (k = .int) || decide (k = .bool)) := fun {k} => by cases k <;> intro q <;> rfl
@[simp] theorem isK_d : ∀ {k : Kd} {kvs : List (PyData × PyData)}, isK k (.dict kvs) = false := fun {k} => by cases k <;> intro kvs <;> rfl
/-! what is walked, targets -/
@[simp] theorem itSeq_eq {e : Rh → Option Res} : itSeq e ρ = (e ρ).bind fun r => match r with
  | .sh (.list ds) => some ds
  | .sh (.tuple ds) => some ds
  | .fr ds => some ds
  | _ => none := rfl
@[simp] theorem rngD_1 (h : rOk j) : rngD [j] = some (rangeD 0 1 j.toNat) := by
  rw [rngD_eq]
  exact if_pos h
@[simp] theorem rngD_2 (h : rOk i) (g : rOk j) : rngD [i, j] = some (rangeD i 1 (j - i).toNat) := by
  rw [rngD_eq]
  exact if_pos ⟨h, g⟩
@[simp] theorem gsN_n : gsN [] ρ = some ρ := rfl
@[simp] theorem gsC_c {f : PyData → Rh → Option Rh} {fs : List PyData → Rh → Option Rh} {d : PyData} : gsC f fs (d :: ds) ρ = (f d ρ).bind (fs ds) := rfl
@[simp] theorem gTp_t {fs : List PyData → Rh → Option Rh} : gTp fs (.tuple ds) ρ = fs ds ρ := rfl
/-! statements -/
def seqK (b : Rh → Option Out) : Out → Option Out
  | .nx ρ' => b ρ'
  | o => some o
@[simp] theorem sSeq_eq : sSeq a b ρ = (a ρ).bind (seqK b) := by
  unfold sSeq
  congr
@[simp] theorem seqK_n : seqK b (.nx ρ) = b ρ := rfl
@[simp] theorem seqK_x {t : Str} : seqK b (.ex t) = some (.ex t) := rfl
@[simp] theorem seqK_r : seqK b (.rt r) = some (.rt r) := rfl
@[simp] theorem seqK_b : seqK b (.bk ρ) = some (.bk ρ) := rfl
@[simp] theorem seqK_c : seqK b (.ct ρ) = some (.ct ρ) := rfl
@[simp] theorem putR_s {d : PyData} : putR ρ k (.sh d) = some (ρ.set k (some (.sh d))) := rfl
@[simp] theorem putR_f : putR ρ k (.fr ds) = some (ρ.set k (some (.bo ds))) := rfl
@[simp] theorem sPar_eq {as : Rh → Option (List Res)} : sPar n m as ρ = (as ρ).bind fun rs => (shrs rs).bind fun ds => match ds with
  | [x, y] => some (.nx ((ρ.set n (some (.sh x))).set m (some (.sh y))))
  | _ => none := rfl
@[simp] theorem sFo_eq {is : List Nat} : sFo is a ρ = (a ρ).bind fun o => some (forgO is o) := rfl
theorem sApp_eq {e : Rh → Option Res} (h : ρ[k]? = some (some (.bo ds))) : sApp k e ρ = (e ρ).bind fun r => r.shr.bind fun d => if ds.length < LIM then some (.nx (ρ.set k (some (.bo (ds ++ [d]))))) else none := by
  unfold sApp
  rw [h]
theorem sPop_eq (h : ρ[k]? = some (some (.bo ds))) : sPop k ρ = if ds ≠ [] then some (.nx (ρ.set k (some (.bo ds.dropLast)))) else none := by
  unfold sPop
  rw [h]
theorem sPut_eq {e f : Rh → Option Res} (h : ρ[k]? = some (some (.bo ds))) : sPut k f e ρ = (e ρ).bind fun r => r.shr.bind fun d => (f ρ).bind fun x => x.toi.bind fun n => (ixN ds.length n).bind fun j => some (.nx (ρ.set k (some (.bo (ds.set j d))))) := by
  unfold sPut
  congr
  funext r
  congr
  funext d
  rw [h]
  simp only
  congr
  funext x
  cases x.toi with
  | none => rfl
  | some n =>
    simp only [Option.bind_some]
    cases ixN ds.length n <;> rfl
@[simp] theorem frz1_b (h : ρ[k]? = some (some (.bo ds))) : frz1 ρ k = ρ.set k (some (.sh (.list ds))) := by
  unfold frz1
  rw [h]
@[simp] theorem frz1_s {d : PyData} (h : ρ[k]? = some (some (.sh d))) : frz1 ρ k = ρ := by
  unfold frz1
  rw [h]
/-- a def's end -/
def finD : Option Out → Option Res
  | some (.rt r) => some r
  | some (.nx _) => some (.sh .none)
  | _ => none
@[simp] theorem finD_r : finD (some (.rt r)) = some r := rfl
@[simp] theorem finD_n : finD (some (.nx ρ)) = some (.sh .none) := rfl
theorem fnD_eq (h : ds.length = n) : fnD n m a ds = finD (a (ds.map (fun d => some (.sh d)) ++ List.replicate (m - n) none)) := by
  unfold fnD
  rw [if_pos h]
  rfl
@[simp] theorem fnD_1 {p : PyData} : fnD 1 m a [p] = finD (a ([some (.sh p)] ++ List.replicate (m - 1) none)) := fnD_eq rfl
@[simp] theorem fnD_2 {p q : PyData} : fnD 2 m a [p, q] = finD (a ([some (.sh p), some (.sh q)] ++ List.replicate (m - 2) none)) := fnD_eq rfl
@[simp] theorem fnD_3 {p q s : PyData} : fnD 3 m a [p, q, s] = finD (a ([some (.sh p), some (.sh q), some (.sh s)] ++ List.replicate (m - 3) none)) := fnD_eq rfl
@[simp] theorem fnD_4 {p q s t : PyData} : fnD 4 m a [p, q, s, t] = finD (a ([some (.sh p), some (.sh q), some (.sh s), some (.sh t)] ++ List.replicate (m - 4) none)) := fnD_eq rfl
@[simp] theorem fnD_0 : fnD 0 m a [] = finD (a (List.replicate m none)) := fnD_eq (ds := []) (n := 0) rfl
end
end F3
set_option maxRecDepth 100000
set_option maxHeartbeats 1000000
/-! two by two matrices of ints, sizes -/
namespace F3
open PySem L2
/-! ### sizes -/
def Bd (n : Nat) (i : Int) : Prop := i.natAbs < 2 ^ n
theorem Bd.mono {n m : Nat} {i : Int} (h : Bd n i) (hm : n ≤ m) : Bd m i := Nat.lt_of_lt_of_le h (Nat.pow_le_pow_right (by decide) hm)
theorem Bd.neg {n : Nat} {i : Int} (h : Bd n i) : Bd n (-i) := by unfold Bd at *; rwa [Int.natAbs_neg]
theorem Bd.mul {n m : Nat} {i j : Int} (h : Bd n i) (g : Bd m j) : Bd (n + m) (i * j) := by
  unfold Bd at *
  rw [Int.natAbs_mul, Nat.pow_add]
  exact Nat.mul_lt_mul'' h g
theorem Bd.add {n : Nat} {i j : Int} (h : Bd n i) (g : Bd n j) : Bd (n + 1) (i + j) := by
  unfold Bd at *
  have := Int.natAbs_add_le i j
  rw [Nat.pow_succ]
  omega
theorem Bd.sub {n : Nat} {i j : Int} (h : Bd n i) (g : Bd n j) : Bd (n + 1) (i - j) := by
  rw [Int.sub_eq_add_neg]
  exact h.add g.neg
theorem Bd.log {n : Nat} {i : Int} (h : Bd n i) (h0 : 0 < n) : i.natAbs.log2 < n := by
  unfold Bd at h
  by_cases z : i.natAbs = 0
  · rw [z]; simpa using h0
  · exact (Nat.log2_lt z).mpr h
theorem Bd.log' {n : Nat} {i : Int} (h : Bd n i) : i.natAbs.log2 ≤ n := by
  have := (h.mono (Nat.le_succ n)).log (by omega)
  omega
theorem mulOk_of {i j : Int} {n m : Nat} (hi : Bd n i) (hj : Bd m j) (h : n + m < 1000000) : mulOk i j := by
  have h1 := hi.log'
  have h2 := hj.log'
  unfold mulOk
  omega
theorem divOk_of {j : Int} {n : Nat} (h0 : 0 < j) (hj : Bd n j) (h : n < 9000) : divOk j := ⟨h0, Nat.lt_of_le_of_lt hj.log' h⟩
theorem bd_of {n : Nat} {i : Int} (h1 : -(2 ^ n : Int) < i) (h2 : i < 2 ^ n) : Bd n i := by
  unfold Bd
  have e : ((2 ^ n : Nat) : Int) = (2 : Int) ^ n := by simp
  omega
theorem Bd.lt {n : Nat} {i : Int} (h : Bd n i) : i < 2 ^ n := by
  unfold Bd at h
  have e : ((2 ^ n : Nat) : Int) = (2 : Int) ^ n := by simp
  omega
theorem Bd.gt {n : Nat} {i : Int} (h : Bd n i) : -(2 ^ n : Int) < i := by
  unfold Bd at h
  have e : ((2 ^ n : Nat) : Int) = (2 : Int) ^ n := by simp
  omega
/-! ### matrices -/
structure M where
  a : Int
  b : Int
  c : Int
  d : Int
  deriving DecidableEq
namespace M
def D (m : M) : PyData := .tuple [.int m.a, .int m.b, .int m.c, .int m.d]
def mul (x y : M) : M := ⟨x.a * y.a + x.b * y.c, x.a * y.b + x.b * y.d, x.c * y.a + x.d * y.c, x.c * y.b + x.d * y.d⟩
instance : Mul M := ⟨mul⟩
def one : M := ⟨1, 0, 0, 1⟩
def inv (m : M) : M := ⟨m.d, -m.b, -m.c, m.a⟩
def det (m : M) : Int := m.a * m.d - m.b * m.c
def tr (m : M) : Int := m.a + m.d
def bd (n : Nat) (m : M) : Prop := Bd n m.a ∧ Bd n m.b ∧ Bd n m.c ∧ Bd n m.d
theorem mul_def (x y : M) : x * y = ⟨x.a * y.a + x.b * y.c, x.a * y.b + x.b * y.d, x.c * y.a + x.d * y.c, x.c * y.b + x.d * y.d⟩ := rfl
@[ext] theorem ext' {x y : M} (h1 : x.a = y.a) (h2 : x.b = y.b) (h3 : x.c = y.c) (h4 : x.d = y.d) : x = y := by
  cases x; cases y; simp_all
theorem mul_assoc (x y z : M) : x * y * z = x * (y * z) := by
  simp only [mul_def]
  ext <;> simp only [] <;> simp only [Int.add_mul, Int.mul_add, Int.mul_assoc] <;> omega
theorem one_mul (x : M) : one * x = x := by
  simp only [mul_def, one]
  ext <;> simp
theorem mul_one (x : M) : x * one = x := by
  simp only [mul_def, one]
  ext <;> simp
theorem mul_inv {x : M} (h : x.det = 1) : x * x.inv = one := by
  unfold det at h
  simp only [mul_def, one, inv]
  have h1 := Int.mul_comm x.a x.d
  have h2 := Int.mul_comm x.b x.c
  have h3 := Int.mul_comm x.a x.b
  have h4 := Int.mul_comm x.c x.d
  ext <;> simp only [Int.mul_neg] <;> omega
theorem inv_mul {x : M} (h : x.det = 1) : x.inv * x = one := by
  unfold det at h
  simp only [mul_def, one, inv]
  have h1 := Int.mul_comm x.a x.d
  have h2 := Int.mul_comm x.b x.c
  have h3 := Int.mul_comm x.b x.d
  have h4 := Int.mul_comm x.c x.a
  ext <;> simp only [Int.neg_mul] <;> omega
theorem det_mul (x y : M) : (x * y).det = x.det * y.det := by
  simp only [det, mul_def]
  have e : ∀ p q r s t u v w : Int, (p * t + q * v) * (r * u + s * w) - (p * u + q * w) * (r * t + s * v) = (p * s - q * r) * (t * w - u * v) := by
    intro p q r s t u v w
    simp only [Int.sub_mul, Int.mul_sub, Int.add_mul, Int.mul_add]
    have c1 : p * t * (r * u) = p * u * (r * t) := by ac_rfl
    have c2 : p * t * (s * w) = p * s * (t * w) := by ac_rfl
    have c3 : q * v * (r * u) = q * r * (u * v) := by ac_rfl
    have c4 : q * v * (s * w) = q * w * (s * v) := by ac_rfl
    have c5 : p * u * (s * v) = p * s * (u * v) := by ac_rfl
    have c6 : q * w * (r * t) = q * r * (t * w) := by ac_rfl
    omega
  exact e _ _ _ _ _ _ _ _
theorem det_inv (x : M) : x.inv.det = x.det := by
  simp only [det, inv, Int.neg_mul, Int.mul_neg, Int.neg_neg]
  rw [Int.mul_comm]
theorem inv_inv (x : M) : x.inv.inv = x := by
  simp only [inv, Int.neg_neg]
theorem inv_mul_rev (x y : M) : (x * y).inv = y.inv * x.inv := by
  simp only [inv, mul_def]
  ext <;> simp only [Int.neg_mul, Int.mul_neg, Int.neg_neg, Int.neg_add] <;> (try simp only [Int.mul_comm]) <;> omega
theorem tr_comm (x y : M) : (x * y).tr = (y * x).tr := by
  simp only [tr, mul_def]
  have h1 := Int.mul_comm x.a y.a
  have h2 := Int.mul_comm x.b y.c
  have h3 := Int.mul_comm x.c y.b
  have h4 := Int.mul_comm x.d y.d
  omega
/-- turned by h -/
def by_ (h x : M) : M := h * x * h.inv
theorem by_lead {h x : M} (hd : h.det = 1) : h * x = by_ h x * h := by
  unfold by_
  rw [mul_assoc, inv_mul hd, mul_one]
theorem by_tr {h : M} (hd : h.det = 1) (x : M) : (by_ h x).tr = x.tr := by
  unfold by_
  rw [tr_comm, ← mul_assoc, inv_mul hd, one_mul]
theorem by_det {h : M} (hd : h.det = 1) (x : M) : (by_ h x).det = x.det := by
  unfold by_
  rw [det_mul, det_mul, det_inv, hd, Int.one_mul, Int.mul_one]
theorem bd.mono {n m : Nat} {x : M} (h : x.bd n) (hm : n ≤ m) : x.bd m := ⟨h.1.mono hm, h.2.1.mono hm, h.2.2.1.mono hm, h.2.2.2.mono hm⟩
theorem bd.mul {n m : Nat} {x y : M} (h : x.bd n) (g : y.bd m) : (x * y).bd (n + m + 1) := by
  obtain ⟨h1, h2, h3, h4⟩ := h
  obtain ⟨g1, g2, g3, g4⟩ := g
  exact ⟨(h1.mul g1).add (h2.mul g3), (h1.mul g2).add (h2.mul g4), (h3.mul g1).add (h4.mul g3), (h3.mul g2).add (h4.mul g4)⟩
theorem bd.inv {n : Nat} {x : M} (h : x.bd n) : x.inv.bd n := ⟨h.2.2.2, h.2.1.neg, h.2.2.1.neg, h.1⟩
theorem bd.by_ {n m : Nat} {x y : M} (h : x.bd n) (g : y.bd m) : (M.by_ x y).bd (n + m + 1 + n + 1) := (h.mul g).mul h.inv
theorem D_inj {x y : M} (h : x.D = y.D) : x = y := by
  unfold D at h
  cases x; cases y
  simp at h
  simp [h]
end M
theorem eqD_M (x y : M) : eqD x.D y.D = some (decide (x = y)) := by
  have e : eqD x.D y.D = some (PyData.eqv x.D y.D) := by
    simp [eqD, M.D, PyData.canLayAll0, PyData.canLay0, PyData.depthAll, PyData.depth]
  rw [e]
  congr 1
  rw [Bool.eq_iff_iff]
  simp only [M.D, PyData.eqv, PyData.eqvAll, decide_eq_true_eq, Bool.and_eq_true, beq_iff_eq, and_true]
  constructor
  · intro ⟨h1, h2, h3, h4⟩
    exact M.ext' h1 h2 h3 h4
  · intro h
    subst h
    exact ⟨rfl, rfl, rfl, rfl⟩
end F3
set_option maxRecDepth 100000
set_option maxHeartbeats 1000000
/-! data that may be shown: sizes -/
namespace F3
open PySem L2
instance (n : Nat) (i : Int) : Decidable (Bd n i) := inferInstanceAs (Decidable (_ < _))
abbrev IB : Nat := 1700
mutual
/-- each int below 2 ^ 1700, each text short -/
def okB : PyData → Bool
  | .none | .bool _ => true
  | .int i => decide (Bd IB i)
  | .str x => decide (x.length ≤ 600) && PyData.strOk x
  | .list xs | .tuple xs => okL xs
  | .dict _ => false
def okL : List PyData → Bool
  | [] => true
  | x :: xs => okB x && okL xs
end
mutual
/-- how many nodes -/
def cn : PyData → Nat
  | .none | .bool _ | .int _ => 1
  | .str x => 1 + x.length
  | .list xs | .tuple xs => cnL xs + 1
  | .dict _ => 1
def cnL : List PyData → Nat
  | [] => 0
  | x :: xs => cn x + cnL xs
end
@[simp] theorem okB_n : okB .none = true := by simp only [okB]
@[simp] theorem okB_b {b : Bool} : okB (.bool b) = true := by simp only [okB]
@[simp] theorem okB_i {i : Int} : okB (.int i) = decide (Bd IB i) := by simp only [okB]
@[simp] theorem okB_s {x : Str} : okB (.str x) = (decide (x.length ≤ 600) && PyData.strOk x) := by simp only [okB]
@[simp] theorem okB_l {ds : List PyData} : okB (.list ds) = okL ds := by simp only [okB]
@[simp] theorem okB_t {ds : List PyData} : okB (.tuple ds) = okL ds := by simp only [okB]
@[simp] theorem okL_n : okL [] = true := by simp only [okL]
@[simp] theorem okL_c {d : PyData} {ds : List PyData} : okL (d :: ds) = (okB d && okL ds) := by simp only [okL]
@[simp] theorem cn_n : cn .none = 1 := by simp only [cn]
@[simp] theorem cn_b {b : Bool} : cn (.bool b) = 1 := by simp only [cn]
@[simp] theorem cn_i {i : Int} : cn (.int i) = 1 := by simp only [cn]
@[simp] theorem cn_s {x : Str} : cn (.str x) = 1 + x.length := by simp only [cn]
@[simp] theorem cn_l {ds : List PyData} : cn (.list ds) = cnL ds + 1 := by simp only [cn]
@[simp] theorem cn_t {ds : List PyData} : cn (.tuple ds) = cnL ds + 1 := by simp only [cn]
@[simp] theorem cnL_n : cnL [] = 0 := by simp only [cnL]
@[simp] theorem cnL_c {d : PyData} {ds : List PyData} : cnL (d :: ds) = cn d + cnL ds := by simp only [cnL]
@[simp] theorem dpA_n : PyData.depthAll [] = 0 := by simp only [PyData.depthAll]
@[simp] theorem dpA_c {d : PyData} {ds : List PyData} : PyData.depthAll (d :: ds) = max d.depth (PyData.depthAll ds) := by simp only [PyData.depthAll]
@[simp] theorem dp_n : PyData.depth .none = 0 := by simp only [PyData.depth]
@[simp] theorem dp_b {b : Bool} : PyData.depth (.bool b) = 0 := by simp only [PyData.depth]
@[simp] theorem dp_i {i : Int} : PyData.depth (.int i) = 0 := by simp only [PyData.depth]
@[simp] theorem dp_s {x : Str} : PyData.depth (.str x) = 0 := by simp only [PyData.depth]
@[simp] theorem dp_l {ds : List PyData} : PyData.depth (.list ds) = PyData.depthAll ds + 1 := by simp only [PyData.depth]
@[simp] theorem dp_t {ds : List PyData} : PyData.depth (.tuple ds) = PyData.depthAll ds + 1 := by simp only [PyData.depth]
@[simp] theorem okL_app : ∀ {xs ys : List PyData}, okL (xs ++ ys) = (okL xs && okL ys)
  | [], ys => by simp
  | x :: xs, ys => by simp [okL_app (xs := xs), Bool.and_assoc]
@[simp] theorem cnL_app : ∀ {xs ys : List PyData}, cnL (xs ++ ys) = cnL xs + cnL ys
  | [], ys => by simp
  | x :: xs, ys => by simp [cnL_app (xs := xs), Nat.add_assoc]
@[simp] theorem dpA_app : ∀ {xs ys : List PyData}, PyData.depthAll (xs ++ ys) = max (PyData.depthAll xs) (PyData.depthAll ys)
  | [], ys => by simp
  | x :: xs, ys => by simp [dpA_app (xs := xs), Nat.max_assoc]
theorem okL_iff : ∀ {ds : List PyData}, okL ds = true ↔ ∀ d ∈ ds, okB d = true
  | [] => by simp
  | d :: ds => by simp [okL_iff (ds := ds)]
theorem cnL_mem : ∀ {ds : List PyData} {d : PyData}, d ∈ ds → cn d ≤ cnL ds
  | d :: ds, e, h => by
    rcases List.mem_cons.mp h with rfl | h
    · simp
    · have := cnL_mem h
      simp
      omega
theorem cn_pos : ∀ d : PyData, 1 ≤ cn d := fun d => by cases d <;> simp [cn]
theorem cnL_len : ∀ ds : List PyData, ds.length ≤ cnL ds
  | [] => by simp
  | d :: ds => by
    have := cnL_len ds
    have := cn_pos d
    simp
    omega
theorem dpA_mem : ∀ {ds : List PyData} {d : PyData}, d ∈ ds → d.depth ≤ PyData.depthAll ds
  | d :: ds, e, h => by
    rcases List.mem_cons.mp h with rfl | h
    · simp; omega
    · have := dpA_mem h
      simp
      omega
theorem dpA_le : ∀ {ds : List PyData} {n : Nat}, (∀ d ∈ ds, d.depth ≤ n) → PyData.depthAll ds ≤ n
  | [], n, _ => by simp
  | d :: ds, n, h => by
    have h1 := h d List.mem_cons_self
    have h2 := dpA_le (ds := ds) (n := n) fun e he => h e (List.mem_cons_of_mem _ he)
    simp
    omega
/-! sublists -/
theorem cnL_take (n : Nat) : ∀ ds : List PyData, cnL (ds.take n) ≤ cnL ds := fun ds => by
  have h : cnL ds = cnL (ds.take n) + cnL (ds.drop n) := by rw [← cnL_app, List.take_append_drop]
  omega
theorem cnL_drop (n : Nat) : ∀ ds : List PyData, cnL (ds.drop n) ≤ cnL ds := fun ds => by
  have h : cnL ds = cnL (ds.take n) + cnL (ds.drop n) := by rw [← cnL_app, List.take_append_drop]
  omega
theorem cut_mem {ds : List PyData} {lo hi : Option Int} {d : PyData} (h : d ∈ cutD ds lo hi) : d ∈ ds := List.mem_of_mem_drop (List.mem_of_mem_take h)
theorem cnL_cut (ds : List PyData) (lo hi : Option Int) : cnL (cutD ds lo hi) ≤ cnL ds := Nat.le_trans (cnL_take _ _) (cnL_drop _ _)
theorem okL_cut {ds : List PyData} (lo hi : Option Int) (h : okL ds = true) : okL (cutD ds lo hi) = true := okL_iff.mpr fun d hd => okL_iff.mp h d (cut_mem hd)
theorem dpA_cut (ds : List PyData) (lo hi : Option Int) : PyData.depthAll (cutD ds lo hi) ≤ PyData.depthAll ds := dpA_le fun d hd => dpA_mem (cut_mem hd)
@[simp] theorem okL_ints {ns : List Int} : okL (ns.map .int) = ns.all (fun i => decide (Bd IB i)) := by
  induction ns with
  | nil => simp
  | cons n ns ih => simp [ih]
@[simp] theorem cnL_ints {ns : List Int} : cnL (ns.map .int) = ns.length := by
  induction ns with
  | nil => simp
  | cons n ns ih => simp [ih]; omega
@[simp] theorem dpA_ints {ns : List Int} : PyData.depthAll (ns.map .int) = 0 := dep_ints ns
/-! what is shown -/
mutual
theorem show_ok : ∀ d : PyData, okB d = true → d.showable = true ∧ d.canLay0 = true ∧ d.shown.length + 4 ≤ 1930 * cn d
  | .none, _ => by
    refine ⟨by simp [PyData.showable], by simp [PyData.canLay0], ?_⟩
    simp only [PyData.shown, cn_n]
    decide
  | .bool b, _ => by
    refine ⟨by simp [PyData.showable], by simp [PyData.canLay0], ?_⟩
    simp only [PyData.shown, cn_b]
    cases b <;> decide
  | .int i, h => by
    have hb : Bd IB i := of_decide_eq_true (by rwa [okB_i] at h)
    have hl : i.natAbs.log2 ≤ 1700 := hb.log'
    have hl2 : i.natAbs.log2 < 1920 := by omega
    have := PyProof.Rows.int_text_len_1921 hl2
    refine ⟨by simp [PyData.showable]; exact hl2, by simp [PyData.canLay0], ?_⟩
    simp only [PyData.shown, cn_i]
    omega
  | .str x, h => by
    rw [okB_s, Bool.and_eq_true] at h
    have h1 : x.length ≤ 600 := of_decide_eq_true h.1
    refine ⟨by simp [PyData.showable], by simp only [PyData.canLay0]; exact h.2, ?_⟩
    have h2 := StrLaws.reprText_len x fun c hc => by
      have := h.2
      unfold PyData.strOk at this
      have h3 := Array.all_eq_true'.mp this c (by simpa using hc)
      have h4 : c < 1114112 := by simpa using h3
      omega
    simp only [PyData.shown, cn_s]
    omega
  | .list ds, h => by
    obtain ⟨h1, h2, h3⟩ := show_okL ds (by rwa [okB_l] at h)
    refine ⟨by simpa [PyData.showable] using h1, by simpa [PyData.canLay0] using h2, ?_⟩
    simp only [PyData.shown, cn_l]
    have : (listText (PyData.shownAll ds)).length ≤ piled (PyData.shownAll ds) + 3 := by
      cases PyData.shownAll ds with
      | nil => decide
      | cons t r =>
        have h := textFrom_length_pos r 1 (("[" : Str) ++ (if (0 : Nat) > 0 then ", " else "" : String) ++ t) (Nat.succ_pos 0)
        have e : ((("[" : Str) ++ (if (0 : Nat) > 0 then ", " else "" : String) ++ t)).length = 1 + t.length := by
          rw [strLen_append, strLen_append]; rfl
        have hX : (listText (t :: r)).length = (textFrom 1 (("[" : Str) ++ (if (0 : Nat) > 0 then ", " else "" : String) ++ t) r).length + 1 := by
          show (textFrom 0 "[" (t :: r) ++ "]").length = _
          rw [strLen_append]; rfl
        rw [hX, h, e, piled_cons]
        omega
    omega
  | .tuple ds, h => by
    obtain ⟨h1, h2, h3⟩ := show_okL ds (by rwa [okB_t] at h)
    refine ⟨by simpa [PyData.showable] using h1, by simpa [PyData.canLay0] using h2, ?_⟩
    simp only [PyData.shown, cn_t]
    have : (tupleText (PyData.shownAll ds)).length ≤ piled (PyData.shownAll ds) + 3 := by
      unfold tupleText
      rw [strLen_append, strLen_append]
      have e1 : ((("(" : String) : Str)).length = 1 := rfl
      have e3 : (((if (PyData.shownAll ds).length == 1 then ",)" else ")" : String) : Str)).length ≤ 2 := by split <;> decide
      rw [e1]
      by_cases h : PyData.shownAll ds = []
      · rw [h] at e3 ⊢
        have e4 : (Str.join ", " ([] : List Str)).length = 0 := rfl
        rw [e4]
        simp only [piled_nil]
        omega
      · have := join_length_add _ h
        omega
    omega
  | .dict _, h => by simp [okB] at h
theorem show_okL : ∀ ds : List PyData, okL ds = true → PyData.showableAll ds = true ∧ PyData.canLayAll0 ds = true ∧ piled (PyData.shownAll ds) ≤ 1930 * cnL ds
  | [], _ => ⟨by simp [PyData.showableAll], by simp [PyData.canLayAll0], by simp [PyData.shownAll, piled]⟩
  | d :: ds, h => by
    rw [okL_c, Bool.and_eq_true] at h
    obtain ⟨h1, h2, h3⟩ := show_ok d h.1
    obtain ⟨g1, g2, g3⟩ := show_okL ds h.2
    refine ⟨by simp [PyData.showableAll, h1, g1], by simp [PyData.canLayAll0, h2, g2], ?_⟩
    simp only [PyData.shownAll, piled_cons, cnL_c]
    omega
end
/-- data as the laws' papers are -/
structure Gd (d : PyData) : Prop where
  ok : okB d = true
  few : cn d ≤ 500
  deep : d.depth ≤ 20
theorem Gd.shaped {d : PyData} (h : Gd d) : SeqAt.shaped d = true := by
  unfold SeqAt.shaped
  rw [Bool.and_eq_true]
  exact ⟨(show_ok d h.ok).2.1, decide_eq_true (Nat.le_trans h.deep (by decide))⟩
theorem Gd.repr {d : PyData} (h : Gd d) : reprR (.sh d) = some (.sh (.str d.shown)) := by
  have h1 := (show_ok d h.ok).2.2
  have h2 := h.few
  unfold reprR
  exact if_pos ⟨(show_ok d h.ok).1, h.shaped, by simp only [Res.dat, LIM]; omega⟩
theorem Gd.item {d : PyData} {ds : List PyData} (h : Gd (.list ds)) (hd : d ∈ ds) : Gd d := by
  obtain ⟨h1, h2, h3⟩ := h
  rw [okB_l] at h1
  rw [cn_l] at h2
  rw [dp_l] at h3
  have := cnL_mem hd
  have := dpA_mem hd
  exact ⟨okL_iff.mp h1 d hd, by omega, by omega⟩
theorem Gd.itemT {d : PyData} {ds : List PyData} (h : Gd (.tuple ds)) (hd : d ∈ ds) : Gd d := by
  obtain ⟨h1, h2, h3⟩ := h
  rw [okB_t] at h1
  rw [cn_t] at h2
  rw [dp_t] at h3
  have := cnL_mem hd
  have := dpA_mem hd
  exact ⟨okL_iff.mp h1 d hd, by omega, by omega⟩
theorem Gd.int {i : Int} (h : Gd (.int i)) : Bd IB i := of_decide_eq_true (by have := h.ok; rwa [okB_i] at this)
end F3
set_option maxRecDepth 100000
set_option maxHeartbeats 2000000
/-! Ex1: an own exception whose __init__ says super().__init__('..'), over the hand layer -/
namespace PySem
namespace Fx
open PySem.W PySem.Calls PyProof.Rows PySem.HandSPX
abbrev iSc (nms : List (Str × NameKind)) : Scope := { kind := .function, names := nms, isGenerator := false, isCoroutine := false, more := [] }
/-- what the written part says of an own exception class at C and its __init__ at fI -/
structure ExTxt (prog : Program) (K : Frag) (C fI : Addr) (qual : Str) (params : Arguments) (body : List Stmt) (nms : List (Str × NameKind)) : Prop where
  cls : ∃ nm q N bs bm sn sub ab col dd k0 k1 k2 k3 k5, K.lookup C = some (excClassObj nm q C N bs bm true sn sub ab col dd k0 k1 k2 k3 k5 "ValueError.__new__") ∧ refsVE bm = true
  iC : findIn K (.ref C) "__init__" = some (some (.ref fI))
  tC : typeIn K (.ref fI) = some (.type "function")
  kC : keepIn K (.ref C) = true
  exC : subIn K (.ref C) (.type "BaseException") = some true
  tyC : typeIn K (.ref C) = some (.type "type")
  sa : findIn K (.ref C) "__setattr__" = some (some (.builtin "object.__setattr__"))
  sup : ks_superIn K C C "__init__" = some (some (.builtin "ValueError.__init__"))
  subV : subIn K (.ref C) (.type "ValueError") = some true
  subC : mroIn K C (.ref C) = some true
  third : nsIn K cStatics "thirdparty.any" = some none
  fn : ∃ (oc : Value) (od : Option Addr) (doc pm : Value) (an : Option Addr) (ct : Value) (osl : Array (Option Value)) (cc cda : Addr) (cl : Value) (cld : Option Addr) (csl : Array (Option Value)) (ccl : Value) (cdd : Option Addr) (vs : Array Value) (ccs : Array (Option Value)) (file : Str) (tf : Tok),
    K.lookup fI = some ⟨oc, od, .func (ksFn "__init__" qual params body (iSc nms) .none .none doc pm an (.ref cda) ct cc), osl⟩ ∧ codeIn K (.ref cda) qual = true ∧
    K.lookup cc = some ⟨cl, cld, .cell (some (.ref C)), csl⟩ ∧ K.lookup cda = some ⟨ccl, cdd, .fields vs, ccs⟩ ∧ vs[2]? = some (.str file tf) ∧ ((prog.main.file : Str) == file) = true
  htop : (prog.main.scope.names.lookup ("super" : Str)).isSome = false
theorem kept_but {K : Frag} {h h' : Heap} {x : Addr} (X : K.In h) (hx : K.lookup x = none) (k : ∀ b o, b ≠ x → h.get? b = some o → h'.get? b = some o) : K.In h' := fun a o e =>
  k a o (fun z => by rw [z, hx] at e; cases e) (X a o e)
section
variable {prog : Program} {w : World} {A : Around} {E : Value → Shared → Prop} {s : Shared} {K : Frag} {C fI : Addr} {qual : Str} {params : Arguments} {body : List Stmt} {nms : List (Str × NameKind)}
variable {p0 p1 p2 p3 p4 p5 : Pos} {tx : Str} {j : Nat}
/-- ValueError.__init__ bound to x, called -/
theorem call_mw {u x t0 : Addr} {rest : List Value} {Q : Value → Shared → Prop} {nm q : Str} {N : Addr} {bs bm : List Value} {hdct : Bool} {sn : List Str} {sub : List Value} {ab : Bool} {col : Option Bool} {dd : Option Addr} {k0 k1 k2 k3 k5 : Option Value}
    (hC : s.heap.get? C = some (excClassObj nm q C N bs bm hdct sn sub ab col dd k0 k1 k2 k3 k5 "ValueError.__new__")) (hx : s.heap.get? x = some (excO C t0)) (hu : s.heap.get? u = some (kxs_mw "ValueError.__init__" x)) (hz : rest.length ≤ sizeLine)
    (hq : ∀ h' t1, (∀ b o, b ≠ x → s.heap.get? b = some o → h'.get? b = some o) → h'.get? x = some (excO C t1) → Q .none { s with heap := h' }) :
    wpAny (model prog w) A (call (.ref u) rest) Q E s := by
  obtain ⟨hh, g, d, tk, os⟩ := s
  refine wpAny_call (codeAny_of_tree ?_)
  show wpAny _ A.in1 (callAny (.ref u) ⟨rest, []⟩) _ _ _
  simp only [callAny]
  refine wpAny_bind (wpAny_load hu ?_)
  simp only [kxs_mw, show (Value.type "method-wrapper" == Value.type "method" || Value.type "method-wrapper" == Value.type "builtin_function_or_method" || Value.type "method-wrapper" == Value.type "method-wrapper") = true by decide, if_true]
  refine KFB.if_so (by decide) ?_
  refine wpAny_bind (check_bound_init PySem.F.excBase_ValueError.toExcCallFacts hC hx rfl ?_)
  refine wpAny_bind (wpAny_pure (wpAny_pure ?_))
  refine ⟨plainId_quiet PySem.F.excBase_ValueError.init.plain _, codeAny_builtin PySem.F.excBase_ValueError.initEntry ?_⟩
  exact exc_init_tree (cls := .ref C) (t0 := t0) (dv := none) (c2 := .none) (c3 := .none) (b4 := .bool false) hx hz fun h' k e' _ => hq h' _ k e'
/-- the statement super().__init__('m') -/
theorem sup_stmt (T : ExTxt prog K C fI qual params body nms) {mg mb : Str → Option Value} {L x t0 : Addr} {m : Str → Option Value} {cc cda : Addr} {oc : Value} {od : Option Addr} {doc pm : Value} {an : Option Addr} {ct : Value} {osl : Array (Option Value)}
    {cl : Value} {cld : Option Addr} {csl : Array (Option Value)} {ccl : Value} {cdd : Option Addr} {vs : Array Value} {ccs : Array (Option Value)} {file : Str} {tf : Tok} {ar : Arg} {pl : Sem Bool} {Q : Flow → Shared → Prop}
    (hfn : K.lookup fI = some ⟨oc, od, .func (ksFn "__init__" qual params body (iSc nms) .none .none doc pm an (.ref cda) ct cc), osl⟩)
    (hcell : K.lookup cc = some ⟨cl, cld, .cell (some (.ref C)), csl⟩) (hcode : K.lookup cda = some ⟨ccl, cdd, .fields vs, ccs⟩) (hvs : vs[2]? = some (.str file tf)) (hfile : ((prog.main.file : Str) == file) = true)
    (X : K.In s.heap) (hG : s.heap.Ns mainGlobals mg) (hgs : mg "super" = none) (hB : s.heap.Ns builtinsNs mb) (hbs : mb "super" = some (.type "super"))
    (hp : (params.posonlyargs ++ params.args).head? = some ar) (hn : s.heap.Ns L m) (hv : m ar.arg = some (.ref x)) (hx : s.heap.get? x = some (excO C t0)) (hnx : K.lookup x = none)
    (hks : nms.lookup ("super" : Str) = some .globalImplicit) (hkc : nms.lookup ("__class__" : Str) = some .free) (hka : nms.lookup ar.arg = some .local)
    (he : eval (.Call (.Attribute (.Call (.Name "super" p0) [] [] p1) "__init__" p2) [.Constant (.str tx) j p3] [] p4) (ksEnv qual (iSc nms) L fI (.ref cda) cc) = (do
      let ov ← attributeBase (.Call (.Name "super" p0) [] [] p1) "__init__" (ksEnv qual (iSc nms) L fI (.ref cda) cc) (eval (.Call (.Name "super" p0) [] [] p1) (ksEnv qual (iSc nms) L fI (.ref cda) cc))
      standAt p2.atName
      let (f, first) ← holding [ov] (getMethod ov "__init__" pl)
      callWith p4 f first (backTo p4 (starEach [.Constant (.str tx) j p3] (ksEnv qual (iSc nms) L fI (.ref cda) cc))) []))
    (hq : ∀ h' tk t1, (∀ b o, b ≠ x → s.heap.get? b = some o → h'.get? b = some o) → h'.get? x = some (excO C t1) → Q .next { s with heap := h', toks := tk }) :
    _root_.PySem.wpAt (model prog w) A (.func body (ksEnv qual (iSc nms) L fI (.ref cda) cc)) (exec (.Expr (.Call (.Attribute (.Call (.Name "super" p0) [] [] p1) "__init__" p2) [.Constant (.str tx) j p3] [] p4) p5) (ksEnv qual (iSc nms) L fI (.ref cda) cc)) Q E s := by
  obtain ⟨nm, q, N, bs, bm, sn, sub, ab, col, dd, k0, k1, k2, k3, k5, hC, hbm⟩ := T.cls
  obtain ⟨hh, g, d, t, os⟩ := s
  have hC' := X _ _ hC
  refine ks_wpAt_Expr_any ?_
  refine ks_wpAt_MethodCall ?_ he
  refine ks_wpAt_super_base (env := ksEnv qual (iSc nms) L fI (.ref cda) cc) hks hkc (by decide) rfl (X _ _ hfn) rfl hp rfl (X _ _ hcode) rfl hvs hfile T.htop ?_
  refine ks_loadName_global rfl hks (loadGlobal_builtin (env := ksEnv qual (iSc nms) L fI (.ref cda) cc) hG hgs hB hbs ⟨rfl, ?_⟩)
  refine wpAny_loadName_free rfl hkc rfl ⟨_, X _ _ hcell, rfl⟩ ?_
  refine wpAny_loadName_local rfl hka hn hv ?_
  refine ks_wpAny_isType_cls hC' rfl ⟨rfl, ?_⟩
  refine ks_wpAny_call_super hC' rfl hx rfl (fun c e => by cases e) (looks_mroIn X T.subC) (fun h1 e1 k1 => ?_)
  -- getMethod
  have X1 : K.In h1 := X.keeps k1
  have hx1 := k1 _ _ hx
  have hxC : x ≠ C := fun z => by rw [z, hC] at hnx; cases hnx
  have I1 : InstAt h1 x (excO C t0) C none := ⟨hx1, rfl, rfl, trivial⟩
  have hI : Looks (model prog w) h1 (isInstance (.ref x) (.type "ValueError")) true := I1.type.andThen (looks_subIn X1 T.subV)
  have hcl : clsIn K C = some { name := nm, bases := bs, mro := .ref C :: bm, ns := N, qualname := q, hasDict := true, slotNames := sn, subclasses := sub, abstract := ab, collection := col, hasDel := false } := by unfold clsIn; rw [hC] <;> rfl
  have hsup := T.sup
  unfold ks_superIn at hsup
  rw [hcl] at hsup
  refine kxs_getMethod kxs_ValueError e1 (looks_opaque X1 T.third) (l₀ := .ref C :: bm) (fun A Q E s k q => wpAny_bind ((looks_clsIn X1 hcl) A _ E s k (wpAny_pure q))) rfl X1 hsup hI hxC (by decide) ?_
  -- callWith
  have hu : (h1.push (kxs_mw "ValueError.__init__" x)).get? h1.objs.size = some (kxs_mw "ValueError.__init__" x) := Heap.get?_push_at rfl rfl
  have k2 : ∀ b o, hh.get? b = some o → (h1.push (kxs_mw "ValueError.__init__" x)).get? b = some o := fun b o e => Heap.get?_push_of_some _ (k1 b o e)
  refine kxs_callWith (i := "ValueError.__init__") (x := x) rfl ?_
  refine evalArgs_plain (spliced_more (wpAny_Constant_str ?_) rfl)
  refine spliced_none ⟨hu, ?_⟩
  show wpAny _ _ (call (.ref h1.objs.size) [.str tx (t + 1)]) _ _ _
  refine call_mw (t0 := t0) (s := ⟨h1.push (kxs_mw "ValueError.__init__" x), g, d, t + 1 + 1, os⟩) (k2 _ _ hC') (k2 _ _ hx) hu (by show 1 ≤ sizeLine; rw [sizeLine_eq]; omega) fun h' t1 k3 e3 => ?_
  exact hq h' _ t1 (fun b o hb e => k3 b o hb (k2 b o e)) e3
abbrev iA0 (q : Pos) : Arguments := { posonlyargs := [], args := [{ arg := "self", annotation := none, pos := q }], vararg := none, kwonlyargs := [], kw_defaults := [], kwarg := none, defaults := [] }
theorem he_of {env : Env} (hpos : p2.endLine = p4.line) : ∃ pl : Sem Bool, eval (.Call (.Attribute (.Call (.Name "super" p0) [] [] p1) "__init__" p2) [.Constant (.str tx) j p3] [] p4) env = (do
      let ov ← attributeBase (.Call (.Name "super" p0) [] [] p1) "__init__" env (eval (.Call (.Name "super" p0) [] [] p1) env)
      standAt p2.atName
      let (f, first) ← holding [ov] (getMethod ov "__init__" pl)
      callWith p4 f first (backTo p4 (starEach [.Constant (.str tx) j p3] env)) []) := by
  refine ⟨(do return (← importBound (.Call (.Name "super" p0) [] [] p1) env).getD true), ?_⟩
  have e1 : methodCallPos true (.Call (.Name "super" p0) [] [] p1) env p2 p4 = pure p4 := by
    unfold methodCallPos
    rw [hpos]
    simp
  show (do
    let ov ← attributeBase (.Call (.Name "super" p0) [] [] p1) "__init__" env (eval (.Call (.Name "super" p0) [] [] p1) env)
    standAt p2.atName
    methodCall (.Call (.Name "super" p0) [] [] p1) "__init__" p2 p4 env ov 1 (backTo p4 (starEach [.Constant (.str tx) j p3] env)) []) = _
  have e2 : ∀ ov, methodCall (.Call (.Name "super" p0) [] [] p1) "__init__" p2 p4 env ov 1 (backTo p4 (starEach [.Constant (.str tx) j p3] env)) [] = (do
      let (f, first) ← holding [ov] (getMethod ov "__init__" (do return (← importBound (.Call (.Name "super" p0) [] [] p1) env).getD true))
      callWith p4 f first (backTo p4 (starEach [.Constant (.str tx) j p3] env)) []) := fun ov => by
    show (do
      let (f, first) ← holding [ov] (getMethod ov "__init__" (do return (← importBound (.Call (.Name "super" p0) [] [] p1) env).getD true))
      let callPos ← methodCallPos true (.Call (.Name "super" p0) [] [] p1) env p2 p4
      callWith callPos f first (backTo p4 (starEach [.Constant (.str tx) j p3] env)) []) = _
    rw [e1]
    rfl
  simp only [e2]
/-- __init__(self): super().__init__('m') -/
theorem init0 {q : Pos} (T : ExTxt prog K C fI qual (iA0 q) [.Expr (.Call (.Attribute (.Call (.Name "super" p0) [] [] p1) "__init__" p2) [.Constant (.str tx) j p3] [] p4) p5] nms)
    {R : Result → Shared → Prop} {mg mb : Str → Option Value} {x t0 : Addr}
    (X : K.In s.heap) (hlim : s.heap.NoLimit) (hG : s.heap.Ns mainGlobals mg) (hgs : mg "super" = none) (hB : s.heap.Ns builtinsNs mb) (hbs : mb "super" = some (.type "super")) (hroom : A.depth < recursionLimit)
    (hx : s.heap.get? x = some (excO C t0)) (hnx : K.lookup x = none)
    (hks : nms.lookup ("super" : Str) = some .globalImplicit) (hkc : nms.lookup ("__class__" : Str) = some .free) (hka : nms.lookup ("self" : Str) = some .local) (hcell : ∀ y ∈ nms, y.2 ≠ .cell)
    (hpos : p2.endLine = p4.line)
    (hq : ∀ h' tk t1, (∀ b o, b ≠ x → s.heap.get? b = some o → h'.get? b = some o) → h'.get? x = some (excO C t1) → R (.ok (.ret .none)) { s with heap := h', toks := tk }) :
    codeAny (model prog w) A (.call (.ref fI) ⟨[.ref x], []⟩) R s := by
  obtain ⟨oc, od, doc, pm, an, ct, osl, cc, cda, cl, cld, csl, ccl, cdd, vs, ccs, file, tf, hfn, hcd, hcc, hco, hvs, hfile⟩ := T.fn
  refine ks_codeAny_call_defAt (binds := [("self", .ref x)]) hroom (X _ _ hfn) rfl hlim (codeRec_of X hcd) rfl (BindsTo.of_eq (by first | rfl | with_unfolding_all rfl)) hcell (fun y hy => ?_) (fun h1 hn k => ?_) rfl rfl rfl
  · rcases List.mem_singleton.mp hy with rfl
    exact hka
  have X1 := X.keeps k
  have ns : ∀ {b : Addr} {m : Str → Option Value}, s.heap.Ns b m → h1.Ns b m := fun h => h.keeps k
  refine ks_wpAt_execs_cons ?_
  obtain ⟨pl, he⟩ := he_of (p0 := p0) (p1 := p1) (p3 := p3) (tx := tx) (j := j) (env := ksEnv qual (iSc nms) s.heap.objs.size fI (.ref cda) cc) hpos
  refine sup_stmt (s := ⟨h1, s.gens, s.drawn, s.toks + 1, s.os⟩) T hfn hcc hco hvs hfile X1 (ns hG) hgs (ns hB) hbs rfl hn (by first | rfl | with_unfolding_all rfl | kernel_rfl) (k _ _ hx) hnx hks hkc hka he fun h2 tk t1 k2 e2 => ?_
  refine wpAt_of_wpAny (wpAny_execs_nil ?_)
  exact hq h2 tk t1 (fun b o hb e => k2 b o hb (k b o e)) e2
/-- a made exception without a dict -/
theorem made0 {q : Pos} (T : ExTxt prog K C fI qual (iA0 q) [.Expr (.Call (.Attribute (.Call (.Name "super" p0) [] [] p1) "__init__" p2) [.Constant (.str tx) j p3] [] p4) p5] nms)
    {R : Result → Shared → Prop} {mg mb : Str → Option Value}
    (X : K.In s.heap) (hlim : s.heap.NoLimit) (hG : s.heap.Ns mainGlobals mg) (hgs : mg "super" = none) (hB : s.heap.Ns builtinsNs mb) (hbs : mb "super" = some (.type "super")) (hroom : A.depth + 1 < recursionLimit)
    (hks : nms.lookup ("super" : Str) = some .globalImplicit) (hkc : nms.lookup ("__class__" : Str) = some .free) (hka : nms.lookup ("self" : Str) = some .local) (hcell : ∀ y ∈ nms, y.2 ≠ .cell)
    (hpos : p2.endLine = p4.line)
    (hq : ∀ h' tk e t1, (∀ b o, s.heap.get? b = some o → h'.get? b = some o) → s.heap.get? e = none → h'.get? e = some (excO C t1) → R (.ok (.ret (.ref e))) { s with heap := h', toks := tk }) :
    codeAny (model prog w) A (.call (.ref C) ⟨[], []⟩) R s := by
  obtain ⟨nm, qn, N, bs, bm, sn, sub, ab, col, dd, k0, k1, k2, k3, k5, hC, hbm⟩ := T.cls
  obtain ⟨hp, g, dr, tk, os⟩ := s
  have k : ∀ b o, hp.get? b = some o → ((hp.push (kdv_tup [])).push (excO C hp.objs.size)).get? b = some o := fun b o e => Heap.get?_push_of_some _ (Heap.get?_push_of_some _ e)
  have hget : ((hp.push (kdv_tup [])).push (excO C hp.objs.size)).get? (hp.objs.size + 1) = some (excO C hp.objs.size) := by heap_get
  have hno : hp.get? (hp.objs.size + 1) = none := by
    cases z : hp.get? (hp.objs.size + 1) with
    | none => rfl
    | some o => exact absurd (Nat.lt_of_succ_lt (Heap.lt_size z)) (Nat.lt_irrefl _)
  have hnx : K.lookup (hp.objs.size + 1) = none := by
    cases e : K.lookup (hp.objs.size + 1) with
    | none => rfl
    | some o =>
      have z : hp.get? (hp.objs.size + 1) = some o := X _ _ e
      rw [hno] at z
      cases z
  have ns : ∀ {b : Addr} {m : Str → Option Value}, hp.Ns b m → ((hp.push (kdv_tup [])).push (excO C hp.objs.size)).Ns b m := fun h => h.keeps k
  refine call_own F.excBase_ValueError (fun X => refsVE_contains X bm hbm) (X _ _ hC) (looks_findIn X T.iC) (fun self => bind_fn X self T.tC) (by rw [sizeLine_eq]; exact Nat.zero_le _) ?_
  refine init0 (s := ⟨(hp.push (kdv_tup [])).push (excO C hp.objs.size), g, dr, tk, os⟩) T (X.keeps k) (hlim.keeps k) (ns hG) hgs (ns hB) hbs ?_ hget hnx hks hkc hka hcell hpos fun h' tk' t1 k' e' => ?_
  · show A.depth + 1 < recursionLimit
    exact hroom
  · have old : ∀ b o, hp.get? b = some o → h'.get? b = some o := fun b o e => k' b o (Nat.ne_of_lt (Nat.lt_succ_of_lt (Heap.lt_size e))) (k b o e)
    exact ⟨rfl, hq h' tk' (hp.objs.size + 1) t1 old hno e'⟩
end
end Fx
end PySem
set_option maxRecDepth 100000
set_option maxHeartbeats 2000000
/-! Ex2: raise X() of such a class; defs of data that may raise; try -/
namespace F3
open PySem PySem.Spec PyProof.Rows L2
/-- the body of __init__(self): super().__init__('m') -/
abbrev eB0 (p0 p1 p2 p3 p4 p5 : Pos) (tx : Str) (j : Nat) : List Stmt := [.Expr (.Call (.Attribute (.Call (.Name "super" p0) [] [] p1) "__init__" p2) [.Constant (.str tx) j p3] [] p4) p5]
/-- what the written part says of a class X(GridError) with such an __init__ -/
structure Ex0 (prog : Program) (K : PySem.W.Frag) (C : Addr) : Prop where
  ex : ∃ (fI : Addr) (qual : Str) (q p0 p1 p2 p3 p4 p5 : Pos) (tx : Str) (j : Nat) (nms : List (Str × NameKind)),
    Fx.ExTxt prog K C fI qual (Fx.iA0 q) (eB0 p0 p1 p2 p3 p4 p5 tx j) nms ∧ nms.lookup ("super" : Str) = some .globalImplicit ∧ nms.lookup ("__class__" : Str) = some .free ∧ nms.lookup ("self" : Str) = some .local ∧ (∀ y ∈ nms, y.2 ≠ .cell) ∧ p2.endLine = p4.line
section
variable {X : Cx} {C : Addr}
theorem pmk0 {x : Str} {k : Nat} {p pos : Pos} (T : Ex0 X.prog X.K C) (hr : Room k X.A) (gC : X.mg x = some (.ref C)) (gs : X.mg "super" = none) (hg : Gl X x) (hdb : (x == ("__debug__" : Str)) = false := by decide) :
    L2N.PMk X (.Call (.Name x p) [] [] pos) (fun _ H Q => Q (.ref C) none H) := by
  intro pins s σ H Q I h
  obtain ⟨fI, qual, q, p0, p1, p2, p3, p4, p5, tx, j, nms, T, hks, hkc, hka, hcell, hpos⟩ := T.ex
  refine wpAny_Call_Name_kw (ld_glob I hg gC (PySem.W.callWith_K0 I.kIn T.kC ?_) hdb)
  obtain ⟨mb, h1, h2⟩ := I.mod.blt
  show wpAny _ _ (call (.ref C) []) _ _ _
  have hb : mb "super" = some (.type "super") := (h2 "super" (by decide)).trans (by decide +kernel)
  refine wpAny_call (Fx.made0 T I.kIn I.nolimit (I.mod.glob.keeps I.bk) gs (h1.keeps I.bk) hb (by have := hr.dp; omega) hks hkc hka hcell hpos fun h' tk e t1 k hn he => ?_)
  have na : H e = none := I.hok.gone hn
  exact ⟨e, _, _, s, H, .ref C, none, rfl, I, k, hn, he, ⟨rfl, rfl, fun vs h => by cases h; rfl⟩, rfl, rfl, na, rfl, I.bare, raises_own T.exC T.tyC, h⟩
/-- raise X() -/
theorem ps_raise0 {x : Str} {k : Nat} {W : WX} {p pos pos2 : Pos} (hc : X.calm = true) (tk : L2N.Takes X W) (T : Ex0 X.prog X.K C) (hr : Room k X.A) (gC : X.mg x = some (.ref C)) (gs : X.mg "super" = none) (hg : Gl X x := by rfl) (hdb : (x == ("__debug__" : Str)) = false := by decide) :
    PS X (.Raise (some (.Call (.Name x p) [] [] pos)) none pos2) (fun _ σ H => W (.ref C) none σ H) := L2N.ps_raise hc tk (pmk0 T hr gC gs hg hdb)
end
/-! ### defs that may raise -/
inductive RX where
  | ok (r : Res)
  | ex (t : Str)
/-- it hands back r, or raises; cl: the class of each name -/
def spX (K : PySem.W.Frag) (cl : Str → Value) (n : Nat) (g : List PyData → Option RX) : Sp := fun vs H Q E =>
  vs.length = n ∧ ∃ ds o Z, (∀ p ∈ Z, ∃ u, H p = some u) ∧ DpAll K (off H Z) vs ds ∧ g ds = some o ∧ (∀ r, o = .ok r → ∀ v H', Same H H' → Vl K H H Z H' r v → Q v H') ∧ (∀ t, o = .ex t → ∀ H', Same H H' → E (cl t) none H')
/-- a def keeps a promise, where no repr runs; it may raise -/
structure FnX (P : Program) (w : World) (K : PySem.W.Frag) (mg : Str → Option Value) (base : Heap) (k : Nat) (f : Addr) (fd : FuncData) (ps : List Str) (sp : Sp) : Prop where
  len : ∀ vs H Q E, sp vs H Q E → vs.length = ps.length
  run : ∀ (A : Around) (outer : List PySem.Env) (s : Shared) (H : Hp) (args : Args) (us : List Value) (vs : List V) (Q : VK) (E : XK),
    Room k A → A.guards = some [] → Env0 P w K mg base A outer s H → BindsTo s fd args (ps.zip us) → Vals vs us → sp vs H Q E →
      codeAny (model P w) A (.call (.ref f) args) (CR (L2N.CX P w) outer P w H s Q E) s
section
variable {P : Program} {w : World} {K : PySem.W.Frag} {mg : Str → Option Value} {base : Heap}
theorem fnX_of {x qual : Str} {st : Stmt} {f : Addr} {fd : FuncData} {N ps : List Str} {k : Nat} {sp : Sp} (F : Fun K x qual st f fd) (S : FnScope N ps (defScope st))
    (len : ∀ vs H Q E, sp vs H Q E → vs.length = ps.length)
    (body : ∀ (cdv : Value) (A : Around) (outer : List PySem.Env) (s : Shared) (H : Hp) (vs : List V) (Q : VK) (E : XK),
      Room k (A.deeper (envOfC qual (defScope st) s.heap.objs.size f cdv)) → A.guards = some [] → sp vs H Q E →
      ∃ t, PSs (cxOf (L2N.CX P w) P w K mg base N qual (defScope st) f cdv A outer s H E) (defBody st) t ∧
        t { nx := fun _ H' => Q .non H', rt := Q } (start N vs) H) : FnX P w K mg base (k + 1) f fd ps sp := by
  obtain ⟨oc, od, kV, doc, pm, an, cdv, ct, osl, rfl, lk, hcd⟩ := F.ex
  refine ⟨len, fun A outer s H args us vs Q E hr hg e0 hb r hsp => ?_⟩
  have KX : K.In s.heap := e0.mod.kin.keeps fun b o e => (e0.bs b o e).1
  have lim : s.heap.NoLimit := e0.mod.nolimit.keeps fun b o e => (e0.bs b o e).1
  refine codeAny_call_function hr.depth (KX _ _ lk) rfl S.co S.gen rfl
    (PySem.W.codeRec_of KX hcd) (hb _ _ _ _ ?_)
  refine wpAny_newFunctionEnv_cells S.kind (fun y hy => ?_) fun env he s1 x => ?_
  · obtain ⟨n, v⟩ := y
    cases S.par n (List.of_mem_zip hy).1 with
    | inl q => exact .inl q
    | inr q => exact .inr ⟨q, PySem.W.cellsFrom_some _ _ _ (.inl q)⟩
  subst he
  refine ⟨lim.keeps x.toInCall.keep, codeAny_func ?_⟩
  obtain ⟨t, ht, hq⟩ := body cdv A outer s H vs Q E (hr.deeper _) hg hsp
  have I := inv_start (CX := L2N.CX P w) (E := E) S hr.hd e0 (len _ _ _ _ hsp) r x
  refine wpAny_mono (ht.run [] s1 (start N vs) H _ I hq) (fun fl s' hs => ?_) fun e s' hs => hs
  cases fl with
  | ret u =>
    obtain ⟨v, σ', H', J, rv, q⟩ := hs
    exact ⟨v, H', J.os, J.bare, J.base, J.hok, rv, q⟩
  | next =>
    obtain ⟨σ', H', J, q⟩ := hs
    exact ⟨.non, H', J.os, J.bare, J.base, J.hok, rfl, q⟩
  | brk =>
    obtain ⟨_, _, _, q⟩ := hs
    exact q.elim
  | cont =>
    obtain ⟨_, _, _, q⟩ := hs
    exact q.elim
def fnDX (n N : Nat) (body : Rh → Option Out) (ds : List PyData) : Option RX := if ds.length = n then match body (ds.map (fun d => some (.sh d)) ++ List.replicate (N - n) none) with
    | some (.rt r) => some (.ok r)
    | some (.nx _) => some (.ok (.sh .none))
    | some (.ex t) => some (.ex t)
    | _ => none
  else none
/-- THE RULE of a def of data that may raise -/
theorem fnX_data {x qual : Str} {st : Stmt} {f : Addr} {fd : FuncData} {Nm ps : List Str} {k n N : Nat} {body : Rh → Option Out} {cl : Str → Value}
    (F : Fun K x qual st f fd) (S : FnScope Nm ps (defScope st)) (hn : ps.length = n) (hN : Nm.length = N)
    (h : ∀ (cdv : Value) (A : Around) (outer : List PySem.Env) (s : Shared) (H : Hp) (E : XK), Room k (A.deeper (envOfC qual (defScope st) s.heap.objs.size f cdv)) → A.guards = some [] →
      ∃ t, PSs (cxOf (L2N.CX P w) P w K mg base Nm qual (defScope st) f cdv A outer s H E) (defBody st) t ∧ SOk K (fun t H' => E (cl t) none H') t body) : FnX P w K mg base (k + 1) f fd ps (spX K cl n (fnDX n N body)) := by
  refine fnX_of F S (fun vs H Q E hs => hs.1.trans hn.symm) fun cdv A outer s H vs Q E hr hg hs => ?_
  obtain ⟨t, ht, hb⟩ := h cdv A outer s H E hr hg
  obtain ⟨hv, ds, o, Z, hz, hd, hgd, q, qx⟩ := hs
  refine ⟨t, ht, ?_⟩
  unfold fnDX at hgd
  by_cases hl : ds.length = n
  case neg => rw [if_neg hl] at hgd; cases hgd
  rw [if_pos hl] at hgd
  have c := start_cor (Nm := Nm) hz hd hl hN
  split at hgd
  · rename_i r' hb'
    cases hgd
    exact hb H Z Z _ _ _ H _ hb' c fun v H' s' v' => q _ rfl v H' s' v'
  · rename_i ρ' hb'
    cases hgd
    exact hb H Z Z _ _ _ H _ hb' c fun O' σ' H' c' _ => q _ rfl _ H' c'.bs.same .none
  · rename_i t' hb'
    cases hgd
    exact hb H Z Z _ _ _ H _ hb' c fun H' s' => qx _ rfl H' s'
  · cases hgd
/-- raise X(), as data -/
@[simp] def sRaise (t : Str) : Rh → Option Out := fun _ => some (.ex t)
theorem sok_raise {W : Str → Hp → Prop} {E : WX} {C : Addr} (t : Str) (h : ∀ σ H, W t H → E (.ref C) none σ H) : SOk K W (fun _ σ H => E (.ref C) none σ H) (sRaise t) := fun H0 Z O ρ o σ H D e c q => by
  cases e
  exact h σ H (q H c.bs.same)
end
end F3
set_option maxRecDepth 100000
set_option maxHeartbeats 2000000
/-! Ex3: try: x = f(..) except X as e: suite, as data -/
namespace F3
open PySem PySem.Spec PyProof.Rows L2
section
variable {X : Cx} {k : Nat} {f : Addr} {fd : FuncData} {ps : List Str} {sp : Sp} {x : Str} {p pos : Pos} {e : Expr} {es : List Expr} {t : TA} {E : L2.St → XK}
theorem runX {pins : List (Addr × Obj)} {σ : L2.St} {H : Hp} {s : Shared} {Q : VK} {us : List Value} {vs : List V} (F : FnX X.prog X.w X.K X.mg X.base k f fd ps sp) (hr : Room k X.A) (hG : X.A.guards = some []) (hb : Binds X.K fd ps [])
    (hx : PassesAt (L2N.CX X.prog X.w) X σ (E σ)) (I : Inv X pins σ H s) (r : Vals vs us) (h : sp vs H Q (E σ)) : wpAny (model X.prog X.w) X.A (call (.ref f) us) (EP X pins σ Q) X.xe s := by
  have hl : (us ++ []).length = ps.length := by rw [List.append_nil, ← r.length]; exact F.len _ _ _ _ h
  have hB := hb s us I.kIn hl
  rw [List.append_nil] at hB
  refine wpAny_call (codeAny_mono (F.run X.A X.stack s H ⟨us, []⟩ us vs Q (E σ) hr hG I.env0 hB r h) fun r s' hq => ?_)
  cases r with
  | error e => exact hx pins H s e s' I hq
  | ok fl =>
    cases fl with
    | ret u => exact I.after hq
    | next => exact hq.elim
    | brk => exact hq.elim
    | cont => exact hq.elim
theorem pe_callX (F : FnX X.prog X.w X.K X.mg X.base k f fd ps sp) (hr : Room k X.A) (hG : X.A.guards = some []) (hg : Gl X x) (hm : X.mg x = some (.ref f))
    (hk : PySem.W.keepIn X.K (.ref f) = true) (hb : Binds X.K fd ps []) (hx : ∀ σ, PassesAt (L2N.CX X.prog X.w) X σ (E σ)) (ha : PA X (e :: es) t)
    (hdb : (x == ("__debug__" : Str)) = false := by decide) (he : starEach (e :: es) X.env = (false, eval e X.env) :: starEach es X.env := by rfl)
    (hpl : (backTo pos (starEach es X.env)).any (·.1) = false := by rfl) : PE X (.Call (.Name x p) (e :: es) [] pos) (tCallS sp E t) := by
  refine ⟨fun pins s σ H Q I h => wpAny_Call_Name_kw (ld_glob I hg hm ?_ hdb)⟩
  refine PySem.W.callWith_K (h₀ := X.base) I.ok.mod.kin hk
    (thn (ha.run pos pins s σ H _ I h) fun us s1 ⟨vs, H1, I1, r, q⟩ => ⟨I1.kIn, runX F hr hG hb (hx σ) I1 r q⟩) he hpl
end
/-! ### the suite -/
section
variable {K : PySem.W.Frag} {W : Str → Hp → Prop}
def EOkS (K : PySem.W.Frag) (n : Nat) (a : Addr) (te : TE) (f : Rh → Option Res) : Prop := ∀ (H0 : Hp) (Z O : List Addr) (ρ : Rh) (r : Res) (σ : L2.St) (H : Hp) (Q : VK),
  f ρ = some r → Cor K H0 Z O ρ σ H → σ[n]? = some (some (.ref a)) → (∀ v H', Same H H' → Vl K H0 H O H' r v → Q v H') → te σ H Q
theorem eoks_of {n : Nat} {a : Addr} {te : TE} {f : Rh → Option Res} (h : EOk K te f) : EOkS K n a te f := fun H0 Z O ρ r σ H Q e c _ q => h H0 Z O ρ r σ H Q e c q
theorem eoks_and {n : Nat} {a : Addr} {t u : TE} {f g : Rh → Option Res} (ha : EOkS K n a t f) (hb : EOkS K n a u g) : EOkS K n a (tAndV t u) (eAndD f g) := fun H0 Z O ρ z σ H Q e c hn q => by
  obtain ⟨x, e1, e⟩ := bind_some e
  obtain ⟨k, e2, e⟩ := bind_some e
  refine ha H0 Z O ρ x σ H _ e1 c hn fun v H1 s1 v1 => ⟨k, v1.tob e2, ?_⟩
  by_cases hx : k = true
  · rw [if_pos hx] at e ⊢
    exact hb H0 Z O ρ z σ H1 _ e (c.mono s1) hn fun u H2 s2 v2 => q u H2 (s1.trans s2) (v2.anti s1)
  · rw [if_neg hx] at e ⊢
    cases e
    exact q _ H1 s1 .bool
theorem eoks_or {n : Nat} {a : Addr} {t u : TE} {f g : Rh → Option Res} (ha : EOkS K n a t f) (hb : EOkS K n a u g) : EOkS K n a (tOrV t u) (eOrD f g) := fun H0 Z O ρ z σ H Q e c hn q => by
  obtain ⟨x, e1, e⟩ := bind_some e
  obtain ⟨k, e2, e⟩ := bind_some e
  refine ha H0 Z O ρ x σ H _ e1 c hn fun v H1 s1 v1 => ⟨k, v1.tob e2, ?_⟩
  by_cases hx : k = true
  · rw [if_pos hx] at e ⊢
    cases e
    exact q _ H1 s1 .bool
  · rw [if_neg hx] at e ⊢
    exact hb H0 Z O ρ z σ H1 _ e (c.mono s1) hn fun u H2 s2 v2 => q u H2 (s1.trans s2) (v2.anti s1)
/-- isinstance(e, Y), e the exception that the suite holds -/
def tIsE (K : PySem.W.Frag) (D a : Addr) (cls : Value) (d : Option Addr) (ta : TA) : TE := fun σ H Q => cls = .ref D ∧ d = none ∧ tCB (rIsE K D a) ta σ H Q
theorem pe_isE {X : Cx} {a D : Addr} {oe : Obj} {cls : Value} {d : Option Addr} {pn : List (Addr × Obj)} {p pos : Pos} {e c : Expr} {ta : TA} (C : ExcC X.K D) (hz : Zc cls d oe) (hf : ∃ vs, oe.data = .fields vs) (hg : Gl X "isinstance") (hm : X.mg "isinstance" = none)
    (ha : PA (X.suite a ((a, oe) :: pn)) [e, c] ta) (he : starEach [e, c] X.env = (false, eval e X.env) :: starEach [c] X.env := by rfl) (hpl : (backTo pos (starEach [c] X.env)).any (·.1) = false := by rfl) :
    PE (X.suite a ((a, oe) :: pn)) (.Call (.Name "isinstance" p) [e, c] [] pos) (tIsE X.K D a cls d ta) := by
  refine ⟨fun pins s σ H Q I h => ?_⟩
  obtain ⟨rfl, rfl, h⟩ := h
  exact (pe_callB (X := X.suite a ((a, oe) :: pn)) (call_isE C hz hf) hg hm bt_isinstance ha (he := he) (hpl := hpl)).run pins s σ H Q I h
theorem eoks_isE {D a : Addr} {n : Nat} {c : V} {cv : Value} {b : Bool} (hc : ∀ u, RelV c u → u = cv) (hk : PySem.W.kitOne K (.ref D) cv = some b) : EOkS K n a (tIsE K D a (.ref D) none (tCons (tVar n) (tCons (tC c) tNil))) (eC (.bool b)) := fun H0 Z O ρ z σ H Q e co hn q => by
  cases e
  exact ⟨rfl, rfl, .ref a, hn, c, cv, b, rfl, hc, hk, q _ H (Same.refl H) .bool⟩
def PostS (K : PySem.W.Frag) (W : Str → Hp → Prop) (n : Nat) (a : Addr) (H0 : Hp) (Z O : List Addr) (H : Hp) (D : Ends) : Out → Prop
  | .nx ρ => ∀ (O' : List Addr) (σ' : L2.St) (H' : Hp), Cor K H0 Z O' ρ σ' H' → σ'[n]? = some (some (.ref a)) → Same (off H O) (off H' O') → D.nx σ' H'
  | .rt r => ∀ (v : V) (H' : Hp), Same H0 H' → Vl K H0 H0 Z H' r v → D.rt v H'
  | _ => False
structure SOkS (K : PySem.W.Frag) (W : Str → Hp → Prop) (n : Nat) (t : Addr → TS) (f : Rh → Option Out) : Prop where
  run : ∀ (a : Addr) (H0 : Hp) (Z O : List Addr) (ρ : Rh) (o : Out) (σ : L2.St) (H : Hp) (D : Ends),
    f ρ = some o → Cor K H0 Z O ρ σ H → ρ[n]? = some none → σ[n]? = some (some (.ref a)) → PostS K W n a H0 Z O H D o → t a D σ H
  keep : ∀ ρ ρ', f ρ = some (.nx ρ') → ρ[n]? = some none → ρ'[n]? = some none
  two : ∀ ρ o, f ρ = some o → (∃ ρ', o = .nx ρ') ∨ ∃ r, o = .rt r
theorem PostS.step {n : Nat} {a : Addr} {H0 H H1 : Hp} {Z O O1 : List Addr} {D : Ends} {o : Out} (h : PostS K W n a H0 Z O H D o) (sm : Same (off H O) (off H1 O1)) : PostS K W n a H0 Z O1 H1 D o := by
  cases o with
  | nx ρ => exact fun O' σ' H' c z s => h O' σ' H' c z (sm.trans s)
  | rt r => exact h
  | bk _ => exact h
  | ct _ => exact h
  | ex _ => exact h
theorem put_get {ρ ρ' : Rh} {j : Nat} {r : Res} (h : putR ρ j r = some ρ') : ∃ r', ρ' = ρ.set j (some r') := by
  cases r <;> cases h <;> exact ⟨_, rfl⟩
theorem soks_set {n j : Nat} {te : Addr → TE} {f : Rh → Option Res} (hj : j ≠ n) (ha : ∀ a, EOkS K n a (te a) f) : SOkS K W n (fun a => tAsg (te a) (gName j)) (sSet j f) where
  run := fun a H0 Z O ρ o σ H D e c hn hs q => by
    obtain ⟨r, e1, e⟩ := bind_some e
    obtain ⟨ρ', e2, e⟩ := bind_some e
    cases e
    refine ha a H0 Z O ρ r σ H _ e1 c hs fun v H1 s1 v1 => ?_
    obtain ⟨O', c', sm⟩ := put_ok c s1 v1 e2
    exact q O' _ H1 c' (by rw [List.getElem?_set_ne hj]; exact hs) sm
  keep := fun ρ ρ' e hn => by
    obtain ⟨r, e1, e⟩ := bind_some e
    obtain ⟨ρ2, e2, e⟩ := bind_some e
    cases e
    obtain ⟨r', rfl⟩ := put_get e2
    rw [List.getElem?_set_ne hj]
    exact hn
  two := fun ρ o e => by
    obtain ⟨r, e1, e⟩ := bind_some e
    obtain ⟨ρ2, e2, e⟩ := bind_some e
    cases e
    exact .inl ⟨_, rfl⟩
theorem soks_ret {n : Nat} {te : Addr → TE} {f : Rh → Option Res} (ha : ∀ a, EOkS K n a (te a) f) : SOkS K W n (fun a => tRet (te a)) (sRet f) where
  run := fun a H0 Z O ρ o σ H D e c hn hs q => by
    obtain ⟨r, e1, e⟩ := bind_some e
    cases e
    exact ha a H0 Z O ρ r σ H _ e1 c hs fun v H1 s1 v1 => q v H1 (c.bs.same.trans s1) (vl_ret (c.bs.mono s1) c.bs.same v1)
  keep := fun ρ ρ' e hn => by
    obtain ⟨r, e1, e⟩ := bind_some e
    cases e
  two := fun ρ o e => by
    obtain ⟨r, e1, e⟩ := bind_some e
    cases e
    exact .inr ⟨_, rfl⟩
theorem soks_seq {n : Nat} {t u : Addr → TS} {f g : Rh → Option Out} (ha : SOkS K W n t f) (hb : SOkS K W n u g) : SOkS K W n (fun a => tSeq (t a) (u a)) (sSeq f g) where
  run := fun a H0 Z O ρ o σ H D e c hn hs q => by
    obtain ⟨o1, e1, e⟩ := bind_some e
    refine ha.run a H0 Z O ρ o1 σ H _ e1 c hn hs ?_
    cases o1 with
    | nx ρ1 => exact fun O1 σ1 H1 c1 z1 s1 => hb.run a H0 Z O1 ρ1 o σ1 H1 D e c1 (ha.keep _ _ e1 hn) z1 (q.step s1)
    | rt r => cases e; exact q
    | bk _ => rcases ha.two _ _ e1 with ⟨_, z⟩ | ⟨_, z⟩ <;> cases z
    | ct _ => rcases ha.two _ _ e1 with ⟨_, z⟩ | ⟨_, z⟩ <;> cases z
    | ex _ => rcases ha.two _ _ e1 with ⟨_, z⟩ | ⟨_, z⟩ <;> cases z
  keep := fun ρ ρ' e hn => by
    obtain ⟨o1, e1, e⟩ := bind_some e
    rcases ha.two _ _ e1 with ⟨_, rfl⟩ | ⟨_, rfl⟩
    · exact hb.keep _ _ e (ha.keep _ _ e1 hn)
    · cases e
  two := fun ρ o e => by
    obtain ⟨o1, e1, e⟩ := bind_some e
    rcases ha.two _ _ e1 with ⟨_, rfl⟩ | ⟨_, rfl⟩
    · exact hb.two _ _ e
    · cases e
      exact .inr ⟨_, rfl⟩
/-- a slot of which nothing is said -/
theorem Cor.junk {H0 H : Hp} {Z O : List Addr} {ρ : Rh} {σ : L2.St} {n : Nat} (c : Cor K H0 Z O ρ σ H) (h : ρ[n]? = some none) (x : Option V) : Cor K H0 Z O ρ (σ.set n x) H := by
  have ne : ∀ {j : Nat} {r : Res}, ρ[j]? = some (some r) → n ≠ j := fun {j r} e z => by
    subst z
    rw [h] at e
    cases e
  refine ⟨c.bs, fun j r e => ?_, fun a b ds es p hab ha hb sa sb => ?_, by rw [List.length_set]; exact c.len⟩
  · rw [List.getElem?_set_ne (ne e)]
    exact c.sl j r e
  · rw [List.getElem?_set_ne (ne ha)] at sa
    rw [List.getElem?_set_ne (ne hb)] at sb
    exact c.di a b ds es p hab ha hb sa sb
/-! ### the statement -/
/-- slot n is there and holds nothing -/
def isFree (ρ : Rh) (n : Nat) : Bool := match ρ[n]? with
  | some none => true
  | _ => false
theorem isFree_of {ρ : Rh} {n : Nat} (h : isFree ρ n = true) : ρ[n]? = some none := by
  unfold isFree at h
  split at h
  · assumption
  · cases h
/-- try: slot i = g(as) except t0 as slot n: su -/
def sTry (t0 : Str) (i n : Nat) (g : List PyData → Option RX) (as : Rh → Option (List Res)) (su : Rh → Option Out) : Rh → Option Out := fun ρ => (as ρ).bind fun rs => (shrs rs).bind fun ds => (g ds).bind fun o => match o with
  | .ok r => (putR ρ i r).bind fun ρ' => some (.nx ρ')
  | .ex t => if t = t0 ∧ isFree ρ n = true then su ρ else none
theorem sok_try {cl : Str → Value} {c : Value} {t0 : Str} {i n m : Nat} {g : List PyData → Option RX} {ta : TA} {as : Rh → Option (List Res)} {ts : Addr → Value → Option Addr → TS} {su : Rh → Option Out} (ha : AOk K ta as)
    (hn : ∀ ρ rs, as ρ = some rs → rs.length = m) (hm : PySem.W.exmOne K (cl t0) c = some true) (hs : SOkS K W n (fun a => ts a (cl t0) none) su) :
    SOk K W (fun D σ H => tAsg (tCallS (spX K cl m g) (WE (wAs K c n ts (fun _ _ _ _ => False) D)) ta) (gName i) D σ H) (sTry t0 i n g as su) := fun H0 Z O ρ o σ H D e co q => by
  obtain ⟨rs, e1, e⟩ := bind_some e
  obtain ⟨ds, e2, e⟩ := bind_some e
  obtain ⟨ox, e3, e⟩ := bind_some e
  refine ha H0 Z O ρ rs σ H _ e1 co fun vs H1 s1 v1 => ?_
  obtain ⟨h1, h2⟩ := shrs_ok v1 e2
  have b1 := co.bs.mono s1
  refine ⟨by rw [dpa_len h1, h2]; exact hn ρ rs e1, ds, ox, O, b1.live, h1, e3, fun r er v H2 s2 v2 => ?_, fun t et H2 s2 => ?_⟩
  · subst er
    obtain ⟨ρ', e4, e⟩ := bind_some e
    cases e
    have v3 : Vl K H0 H O H2 r v := by
      cases r with
      | sh d => exact v2
      | fr es => exact v2.anti s1
      | bo es =>
        obtain ⟨p, ws, g1, g2, g3, g4⟩ := v2
        exact ⟨p, ws, g1, b1.same.free g2, g3, g4⟩
    obtain ⟨O', c', sm⟩ := put_ok co (s1.trans s2) v3 e4
    exact q O' _ H2 c' sm
  · subst et
    by_cases hc : t = t0 ∧ isFree ρ n = true
    case neg =>
      have e' : (if t = t0 ∧ isFree ρ n = true then su ρ else none) = some o := e
      rw [if_neg hc] at e'
      cases e'
    have e' : (if t = t0 ∧ isFree ρ n = true then su ρ else none) = some o := e
    rw [if_pos hc] at e'
    obtain ⟨rfl, hρ⟩ := hc
    have hρ := isFree_of hρ
    refine ⟨true, hm, fun _ a na => ?_, fun z => Bool.noConfusion z⟩
    have c2 := (co.mono (s1.trans s2)).junk hρ (some (.ref a))
    have hl : n < σ.length := by
      have := (List.getElem?_eq_some_iff.mp hρ).1
      rw [← co.len]
      exact this
    have sm := off_same (O := O) (s1.trans s2)
    refine hs.run a H0 Z O ρ o _ H2 _ e' c2 hρ (List.getElem?_set_self hl) ?_
    rcases hs.two _ _ e' with ⟨ρ', rfl⟩ | ⟨r, rfl⟩
    · exact fun O' σ' H' c' _ s' => q O' _ H' (c'.junk (hs.keep _ _ e' hρ) none) (sm.trans s')
    · exact q
/-- .. except t0: su, without a name -/
def sTryO (t0 : Str) (i : Nat) (g : List PyData → Option RX) (as : Rh → Option (List Res)) (su : Rh → Option Out) : Rh → Option Out := fun ρ => (as ρ).bind fun rs => (shrs rs).bind fun ds => (g ds).bind fun o => match o with
  | .ok r => (putR ρ i r).bind fun ρ' => some (.nx ρ')
  | .ex t => if t = t0 then su ρ else none
theorem sok_tryO {cl : Str → Value} {c : Value} {t0 : Str} {i m : Nat} {g : List PyData → Option RX} {ta : TA} {as : Rh → Option (List Res)} {ts : TS} {su : Rh → Option Out} (ha : AOk K ta as)
    (hn : ∀ ρ rs, as ρ = some rs → rs.length = m) (hm : PySem.W.exmOne K (cl t0) c = some true) (hs : SOk K W ts su) :
    SOk K W (fun D σ H => tAsg (tCallS (spX K cl m g) (WE (wOnly K c (fun _ _ _ => ts) (fun _ _ _ _ => False) D)) ta) (gName i) D σ H) (sTryO t0 i g as su) := fun H0 Z O ρ o σ H D e co q => by
  obtain ⟨rs, e1, e⟩ := bind_some e
  obtain ⟨ds, e2, e⟩ := bind_some e
  obtain ⟨ox, e3, e⟩ := bind_some e
  refine ha H0 Z O ρ rs σ H _ e1 co fun vs H1 s1 v1 => ?_
  obtain ⟨h1, h2⟩ := shrs_ok v1 e2
  have b1 := co.bs.mono s1
  refine ⟨by rw [dpa_len h1, h2]; exact hn ρ rs e1, ds, ox, O, b1.live, h1, e3, fun r er v H2 s2 v2 => ?_, fun t et H2 s2 => ?_⟩
  · subst er
    obtain ⟨ρ', e4, e⟩ := bind_some e
    cases e
    have v3 : Vl K H0 H O H2 r v := by
      cases r with
      | sh d => exact v2
      | fr es => exact v2.anti s1
      | bo es =>
        obtain ⟨p, ws, g1, g2, g3, g4⟩ := v2
        exact ⟨p, ws, g1, b1.same.free g2, g3, g4⟩
    obtain ⟨O', c', sm⟩ := put_ok co (s1.trans s2) v3 e4
    exact q O' _ H2 c' sm
  · subst et
    by_cases hc : t = t0
    case neg =>
      have e' : (if t = t0 then su ρ else none) = some o := e
      rw [if_neg hc] at e'
      cases e'
    have e' : (if t = t0 then su ρ else none) = some o := e
    rw [if_pos hc] at e'
    subst hc
    exact ⟨true, hm, fun _ a na => hs H0 Z O ρ o σ H2 D e' (co.mono (s1.trans s2)) (q.step (off_same (s1.trans s2))), fun z => Bool.noConfusion z⟩
end
end F3
set_option maxRecDepth 100000
set_option maxHeartbeats 2000000
/-! Ex4: D.get(n, x), D a written dict of ints -/
namespace F3
open PySem PySem.Spec PyProof.Rows L2
inductive IE : List DictEntry → List (Int × Int) → Prop
  | nil : IE [] []
  | cons {k v h : Int} {t u : Tok} {es : List DictEntry} {kvs : List (Int × Int)} (hh : h = hashInt k) (r : IE es kvs) : IE (⟨h, .int k t, .int v u⟩ :: es) ((k, v) :: kvs)
structure KI (K : PySem.W.Frag) (d : Addr) (kvs : List (Int × Int)) : Prop where
  at_ : ∃ es n, K.lookup d = some ⟨.type "dict", none, .dict es n, #[]⟩ ∧ IE es.toList kvs
  nd : (kvs.map (·.1)).Nodup
  low : (d == sysModules) = false
theorem ie_keys {P : Program} {w : World} {es : List DictEntry} {kvs : List (Int × Int)} (h : IE es kvs) : ∀ e ∈ es, ∃ k, (mixKind P w).is k e.key = true ∧ e.hash = (mixKind P w).hash k := by
  induction h with
  | nil => exact fun e h => nomatch h
  | @cons k v hs t u es kvs hh r ih =>
    intro e h
    rcases List.mem_cons.mp h with rfl | h
    · exact ⟨.inl k, kV_is (k := .inl k) (show RelV (.int k) (.int k t) from ⟨t, rfl⟩), hh⟩
    · exact ih e h
/-- the value at a key -/
def atKey : List (Int × Int) → Int → Option Int
  | [], _ => none
  | (k, v) :: r, i => if k = i then some v else atKey r i
/-- the values as the model's -/
inductive VE : List (Key × Value) → List (Int × Int) → Prop
  | nil : VE [] []
  | cons {k v : Int} {u : Tok} {vs : List (Key × Value)} {kvs : List (Int × Int)} (r : VE vs kvs) : VE ((.inl k, .int v u) :: vs) ((k, v) :: kvs)
theorem ve_keys {vs : List (Key × Value)} {kvs : List (Int × Int)} (h : VE vs kvs) : vs.map (·.1) = kvs.map fun p => (Sum.inl p.1 : Key) := by
  induction h with
  | nil => rfl
  | cons r ih => rw [List.map_cons, List.map_cons, ih]
theorem ve_at {vs : List (Key × Value)} {kvs : List (Int × Int)} (h : VE vs kvs) (i : Int) : match atKey kvs i with | some v => ∃ u, valueAt vs (.inl i) = some (.int v u) | none => valueAt vs (.inl i) = none := by
  induction h with
  | nil => rfl
  | @cons k v u vs kvs r ih =>
    unfold atKey
    by_cases hk : k = i
    · rw [if_pos hk]
      subst hk
      exact ⟨u, by simp [valueAt]⟩
    · rw [if_neg hk]
      have e : valueAt ((Sum.inl k, Value.int v u) :: vs) (.inl i : Key) = valueAt vs (.inl i) := by
        unfold valueAt
        rw [List.find?_cons]
        have : decide ((Sum.inl k : Key) = Sum.inl i) = false := decide_eq_false fun z => hk (Sum.inl.inj z)
        simp [this, hk]
      rw [e]
      exact ih
theorem ie_ve {P : Program} {w : World} {es : List DictEntry} {kvs : List (Int × Int)} (h : IE es kvs) : ∃ vs, VE vs kvs ∧ Pairs (mixKind P w) es vs := by
  induction h with
  | nil => exact ⟨[], .nil, .nil⟩
  | @cons k v hs t u es kvs hh r ih =>
    obtain ⟨vs, h1, h2⟩ := ih
    exact ⟨_, .cons (u := u) h1, .cons (kV_is (k := .inl k) (show RelV (.int k) (.int k t) from ⟨t, rfl⟩)) rfl h2⟩
theorem nodup_inl : ∀ {ks : List Int}, ks.Nodup → (ks.map (Sum.inl : Int → Key)).Nodup
  | [], _ => .nil
  | k :: ks, h => by
    obtain ⟨h1, h2⟩ := List.nodup_cons.mp h
    rw [List.map_cons]
    refine List.nodup_cons.mpr ⟨fun z => ?_, nodup_inl h2⟩
    obtain ⟨j, hj, e⟩ := List.mem_map.mp z
    cases e
    exact h1 hj
theorem ki_dict {P : Program} {w : World} {K : PySem.W.Frag} {h : Heap} {d : Addr} {kvs : List (Int × Int)} (X : K.In h) (D : KI K d kvs) : ∃ vs, VE vs kvs ∧ h.DictOf (mixKind P w) d vs := by
  obtain ⟨es, n, ho, hi⟩ := D.at_
  obtain ⟨vs, h1, h2⟩ := ie_ve (P := P) (w := w) hi
  refine ⟨vs, h1, _, es, n, X _ _ ho, ⟨rfl, rfl, rfl⟩, rfl, fun e he => ?_, h2, ?_⟩
  · exact ie_keys hi e (by simpa using he)
  · rw [ve_keys h1]
    have := nodup_inl D.nd
    rwa [List.map_map] at this
def tKGet (d : Addr) (kvs : List (Int × Int)) (td ty tx : TE) : TE := fun σ H Q => td σ H fun x H1 => x = .ref d ∧ ty σ H1 fun y H2 => tx σ H2 fun z H3 => ∃ i, y = .int i ∧ Q (match atKey kvs i with | some v => .int v | none => z) H3
section
variable {X : Cx} {o e f : Expr} {d : Addr} {kvs : List (Int × Int)} {td ty tx : TE} {apos cpos : Pos}
theorem pe_kget (D : KI X.K d kvs) (ho : PE X o td) (he : PE X e ty) (hf : PE X f tx) (m : M2 X o "get" apos e f cpos) : PE X (.Call (.Attribute o "get" apos) [e, f] [] cpos) (tKGet d kvs td ty tx) := by
  refine ⟨fun pins s σ H Q I h => ?_⟩
  refine wpAny_Call_method m.base m.few m.line PySem.F.plainAttrs_dict PySem.F.slot_dict_get PySem.F.type_dict_get (thn (ho.run pins s σ H _ I h) fun u s1 ⟨x, H1, I1, rx, ex, q1⟩ => ?_)
  subst ex
  obtain rfl : u = Value.ref d := rx
  obtain ⟨vs, _, dd⟩ := ki_dict (P := X.prog) (w := X.w) I1.kIn D
  refine ⟨dd.typeIs, fun b q => ?_, ?_⟩
  · cases q
    obtain ⟨ob, _, _, h1, h2, _⟩ := dd
    exact ⟨ob, h1, h2.2.1⟩
  rw [m.trees]
  refine Calls.callWith_builtin rfl (Calls.evalArgs_plain (Calls.spliced_cons (thn (he.run pins s1 σ H1 _ I1 q1) fun iv s2 ⟨y, H2, I2, ry, q2⟩ =>
    Calls.spliced_cons (thn (hf.run pins s2 σ H2 _ I2 q2) fun fv s3 ⟨z, H3, I3, rz, i, ey, q3⟩ => Calls.spliced_nil ?_))))
  subst ey
  obtain ⟨ws, hw, d3⟩ := ki_dict (P := X.prog) (w := X.w) I3.kIn D
  have k3 : (mixKind X.prog X.w).is (.inl i) iv = true := kV_is (k := .inl i) ry
  refine call_meetsIn PySem.F.slot_dict_get d3.typeIs PySem.F.entry_dict_get (PySem.F.args_dict_get_3 _ _ _) (meets_dict_get_default (mixKind X.prog X.w) d k3 D.low fv) ⟨_, d3.mapOf, ?_⟩
  have := ve_at hw i
  cases ha : atKey kvs i with
  | none =>
    rw [ha] at this q3
    rw [this]
    exact ⟨z, H3, I3.tok _, rz, q3⟩
  | some v =>
    rw [ha] at this q3
    obtain ⟨t, this⟩ := this
    rw [this]
    exact ⟨.int v, H3, I3.tok _, ⟨t, rfl⟩, q3⟩
end
section
variable {K : PySem.W.Frag}
@[simp] def eKGet (kvs : List (Int × Int)) (a b : Rh → Option Res) : Rh → Option Res := fun ρ => (a ρ).bind fun x => (b ρ).bind fun y => match x.toi, y.toi with
  | some i, some j => some (.sh (.int ((atKey kvs i).getD j)))
  | _, _ => none
theorem eok_kget {d : Addr} {kvs : List (Int × Int)} {ty tx : TE} {a b : Rh → Option Res} (ha : EOk K ty a) (hb : EOk K tx b) : EOk K (tKGet d kvs (tC (.ref d)) ty tx) (eKGet kvs a b) := fun H0 Z O ρ z σ H Q e c q => by
  obtain ⟨x, e1, e⟩ := bind_some e
  obtain ⟨y, e2, e⟩ := bind_some e
  refine ⟨rfl, ha H0 Z O ρ x σ H _ e1 c fun v H1 s1 v1 => hb H0 Z O ρ y σ H1 _ e2 (c.mono s1) fun u H2 s2 v2 => ?_⟩
  cases hx : x.toi with
  | none => rw [hx] at e; cases e
  | some i =>
    cases hy : y.toi with
    | none => rw [hx, hy] at e; cases e
    | some j =>
      rw [hx, hy] at e
      cases e
      refine ⟨i, v1.toi hx, ?_⟩
      cases hk : atKey kvs i with
      | none =>
        rw [v2.toi hy]
        rw [hk] at q
        exact q _ H2 (s1.trans s2) .int
      | some w =>
        rw [hk] at q
        exact q _ H2 (s1.trans s2) .int
end
end F3
set_option maxRecDepth 100000
set_option maxHeartbeats 2000000
/-! Ex5: while an exception is handled: a tuple unpacked, defs of data called -/
namespace F3
open PySem PySem.Spec PyProof.Rows L2 HotX
section
variable {prog : Program} {w : World} {A : Around} {E : Value → Shared → Prop} {s : Shared}
/-- a tuple's iterator at its end, an exception being handled -/
theorem tup_end_hot {it t x1 : Addr} {i : Nat} {items : Array Value} {Q : Option Value → Shared → Prop} (hot : HotAt A x1 s.heap) (hne : it ≠ x1)
    (hit : IsTupIter s.heap it t i) (ht : IsTup s.heap t items) (hx : items[i]? = none)
    (hQ : ∀ h', Heap.ExtBut it s.heap h' → Q none { s with heap := h' }) : wpAny (model prog w) A (pyNext (.ref it)) Q E s := by
  obtain ⟨o, ho, hc, hd⟩ := id hit
  obtain ⟨ol, hol, _, nl, hdl⟩ := ht
  obtain ⟨hh, o1, vs1, h1, d1, c1⟩ := hot
  unfold pyNext
  refine wpAny_bind (wpAny_attempt (wpAny_callSpecial?_slot (name := Str.ofString "__next__") hit.typeIs slot_tupleiter_next
    (wpAny_call_entry slot_tupleiter_next hit.typeIs entry_tupleiter_next ?_ (args_tupleiter_next _))))
  show wpAny _ _ (field (.ref it) 0 >>= _) _ _ s
  refine wpAny_bind (wpAny_field ho hd (x := .ref t) rfl ?_)
  show wpAny _ _ (if (Value.ref t == Value.none) = true then _ else _) _ _ s
  rw [if_neg (show ¬ ((Value.ref t == Value.none) = true) from Bool.false_ne_true)]
  show wpAny _ _ (field (.ref it) 1 >>= _) _ _ s
  refine wpAny_bind (wpAny_field ho hd (x := .int i 0) rfl ?_)
  show wpAny _ _ (seqItems? (.ref t) >>= _) _ _ s
  refine wpAny_bind (wpAny_seqItems hol hdl ?_)
  simp only [Int.toNat_natCast, hx]
  refine wpAny_bind (wpAny_rule (wpAny_bind (wpAny_setField ho hd (by simp) ?_)))
  show wpAny _ _ (newExc (.type "StopIteration") [] >>= _) _ _ _
  refine wpAny_bind ?_
  simp only [newExc, newTuple]
  refine wpAny_bind (wpAny_newObj_type ?_ (by size_fits))
  refine wpAny_bind (m := firstArgMember _ _) (wpAny_of_eq (a := Value.none) (by first | rfl | (simp only [firstArgMember]; rfl)) ?_)
  refine wpAny_newObj_type ?_ (by size_fits)
  have e1 := (Heap.get?_update_other s.heap (Obj.mapFields (·.setIfInBounds 0 Value.none)) hne).trans h1
  refine raiseNew_hot ⟨hh, o1, vs1, Heap.get?_push_of_some _ (Heap.get?_push_of_some _ e1), d1, c1⟩ (Nat.ne_of_lt (Heap.lt_size (Heap.get?_push_of_some _ e1))) (Heap.get?_push_size _ rfl) rfl (by first | (simp; done) | (simp; omega) | (simp only [Array.size_append]; simp; omega)) ?_
  refine wpAny_bind (wpAny_isInstance (T := "StopIteration") (b := true) ⟨_, Heap.get?_update_self _ (Heap.get?_push_size _ rfl) rfl, rfl⟩ isSubtype_stop ?_)
  refine wpAny_pure (hQ _ fun b o hb e => ?_)
  have e2 := (Heap.get?_update_other s.heap (Obj.mapFields (·.setIfInBounds 0 Value.none)) (Ne.symm hb)).trans e
  rw [Heap.get?_update_other _ _ (Nat.ne_of_gt (Heap.lt_size (Heap.get?_push_of_some _ e2)))]
  exact Heap.get?_push_of_some _ (Heap.get?_push_of_some _ e2)
theorem unpack_hot {t x1 : Addr} {items : Array Value} {targets : List (Bool × (Value → Sem Unit))} {Q : Unit → Shared → Prop} (hot : HotAt A x1 s.heap) (ht : IsTup s.heap t items)
    (hn : targets.length = items.size) (hstar : targets.findIdx? (·.1) = none)
    (h : ∀ h', Heap.ExtBut s.heap.objs.size s.heap h' → wpAny (model prog w) A (assignInOrder (targets.map (·.2)) items.toList) Q E { s with heap := h' }) :
    wpAny (model prog w) A (unpack (.ref t) targets) Q E s := by
  have hlt : t ≠ s.heap.objs.size := by obtain ⟨o, ho, _⟩ := ht; exact Nat.ne_of_lt (Heap.lt_size ho)
  obtain ⟨hh, o1, vs1, h1, d1, c1⟩ := hot
  have hx1 : s.heap.objs.size ≠ x1 := Nat.ne_of_gt (Heap.lt_size h1)
  unfold unpack
  rw [hn, hstar]
  refine wpAny_bind (wpAny_holding ?_)
  unfold unpackItems
  refine wpAny_bind ?_
  unfold notIterableAtAll
  refine wpAny_bind (wpAny_specialOf ht.typeIs slot_tuple_iter.lookup ?_)
  refine wpAny_pure ?_
  simp only [Bool.false_eq_true, if_false]
  refine wpAny_bind (wpAny_holding (iter_tuple ht ?_))
  refine wpAny_bind (wpAny_holding (draw_tuple hlt items.size 0 _ _ ⟨_, Heap.get?_push_size _ rfl, rfl, rfl⟩ (ht.push _) (by omega) fun h₁ hit₁ hs₁ => ?_))
  have hall : List.take items.size (List.drop 0 items.toList) = items.toList := by
    rw [List.drop_zero]; exact List.take_of_length_le (by simp)
  rw [hall]
  rw [if_neg (by simp)]
  have ht₁ : IsTup h₁ t items := (ht.push _).extBut hs₁.extBut hlt
  have g1 : h₁.get? x1 = some o1 := hs₁.extBut x1 o1 (Ne.symm hx1) (Heap.get?_push_of_some _ h1)
  refine wpAny_bind (wpAny_holding (tup_end_hot (x1 := x1) ⟨hh, o1, vs1, g1, d1, c1⟩ hx1 hit₁ ht₁ (by simp) fun h₂ he₂ => ?_))
  simp only [Option.isSome_none, Bool.false_eq_true, if_false]
  exact wpAny_pure (h h₂ fun b o hb e => he₂ b o hb (hs₁.extBut b o hb (Heap.get?_push_of_some _ e)))
end
section
variable {X : Cx}
/-- (a, b, ..) = a tuple of that length, an exception being handled -/
theorem pg_tupH {es : List Expr} {k : Nat} {pos : Pos} {t : TGs} {n : Nat} (hc : L2H.HotC X) (h : PGs X es t)
    (hn : (assignEach es X.env).length = n := by rfl) (hst : (assignEach es X.env).findIdx? (·.1) = none := by rfl) : PG X (.Tuple es k pos) (gTup X.K n t) := by
  refine ⟨fun pins s σ H v u Q I r hw => ?_⟩
  obtain ⟨a, xs, e1, hq, hl, hw⟩ := hw
  subst e1
  cases r
  obtain ⟨its, rv, ht, hz⟩ := I.tuple hq
  obtain ⟨x1, hot⟩ := hc.at I
  rw [assign_Tuple]
  refine wpAny_bind (wpAny_standAt (unpack_hot hot ht (by simp [hn, ← hl, rv.length]) hst fun h' hx => ?_))
  have I1 : Inv X pins σ H { s with heap := h' } := I.kept (t' := s.toks) fun b o e => hx b o (Nat.ne_of_lt (Heap.lt_size e)) e
  exact h.run pins _ σ H xs _ Q I1 (by simpa using rv) hw
end
/-- a def of data, called while an exception is handled -/
abbrev FnHD (P : Program) (w : World) (K : PySem.W.Frag) (mg : Str → Option Value) (base : Heap) (k : Nat) (f : Addr) (fd : FuncData) (ps : List Str) (sp : Sp) : Prop := L2H.FnH P w K mg base CX0 k f fd ps sp
section
variable {P : Program} {w : World} {K : PySem.W.Frag} {mg : Str → Option Value} {base : Heap}
theorem fnH_data {x qual : Str} {st : Stmt} {f : Addr} {fd : FuncData} {Nm ps : List Str} {k n N : Nat} {body : Rh → Option Out}
    (F : Fun K x qual st f fd) (S : FnScope Nm ps (defScope st)) (hn : ps.length = n) (hN : Nm.length = N)
    (h : ∀ (cdv : Value) (A : Around) (outer : List PySem.Env) (s : Shared) (H : Hp) (E : XK) (p : Addr × Obj), L2H.Hot1 A p → L2H.RoomH k (A.deeper (envOfC qual (defScope st) s.heap.objs.size f cdv)) →
      ∃ t, PSs (L2H.cxH CX0 P w K mg base Nm qual (defScope st) f cdv A outer s H E p).nox (defBody st) t ∧ SOk K (fun _ _ => False) t body) : FnHD P w K mg base (k + 1) f fd ps (spD K n (fnD n N body)) := by
  obtain ⟨oc, od, kV, doc, pm, an, cdv, ct, osl, rfl, lk, hcd⟩ := F.ex
  refine L2H.fn_ofH lk hcd S (fun vs H Q E hs => hs.1.trans hn.symm) fun A outer s H vs Q E p hot hr hs => ?_
  obtain ⟨t, ht, hb⟩ := h cdv A outer s H E p hot hr
  obtain ⟨hv, ds, r, Z, hz, hd, hgd, q⟩ := hs
  refine ⟨t, ht.nox, ?_⟩
  unfold fnD at hgd
  by_cases hl : ds.length = n
  case neg => rw [if_neg hl] at hgd; cases hgd
  rw [if_pos hl] at hgd
  have c := start_cor (Nm := Nm) hz hd hl hN
  split at hgd
  · rename_i r' hb'
    cases hgd
    exact hb H Z Z _ _ _ H _ hb' c fun v H' s' v' => q v H' s' v'
  · rename_i ρ' hb'
    cases hgd
    exact hb H Z Z _ _ _ H _ hb' c fun O' σ' H' c' _ => q _ H' c'.bs.same .none
  · cases hgd
/-- nothing comes out of such a def -/
theorem pass00 {X : Cx} {E : L2.St → XK} (σ : L2.St) : PassesAt CX0 X σ (E σ) := fun _ _ _ _ _ _ h => h.elim
/-- the context bears it -/
theorem hot_h {CX : CXT} {Nm : List Str} {qual : Str} {scope : Scope} {f : Addr} {cd : Value} {A : Around} {outer : List PySem.Env} {s : Shared} {H : Hp} {E : XK} {p : Addr × Obj} (h : L2H.Hot1 A p) :
    L2H.HotC (L2H.cxH CX P w K mg base Nm qual scope f cd A outer s H E p).nox := ⟨p, h, List.mem_cons_self⟩
theorem hot_s {X : Cx} {a : Addr} {oe : Obj} {cls : Value} {d : Option Addr} {pn : List (Addr × Obj)} (hz : L2N.Zn cls d oe) (hf : ∃ vs, oe.data = .fields vs) : L2H.HotC (X.suite a ((a, oe) :: pn)) := by
  obtain ⟨vs, e⟩ := hf
  exact ⟨(a, oe), ⟨rfl, vs, e, hz.2.2 vs e⟩, List.mem_cons_self⟩
theorem eok_fnH {n : Nat} {g : List PyData → Option Res} {t : TA} {as : Rh → Option (List Res)} {E : L2.St → XK} (ha : AOk K t as) (hn : ∀ ρ rs, as ρ = some rs → rs.length = n) : EOk K (tCallS (spD K n g) E t) (eFn g as) := eok_fn ha hn
end
end F3
set_option maxRecDepth 100000
set_option maxHeartbeats 2000000
/-! Ex6: the facts of exception classes, from what k_is tells -/
namespace F3
open PySem PySem.Spec PySem.W PyProof.Rows L2
variable {K : Frag}
theorem kit_ref {C D : Addr} {b : Bool} (hdct : hasDictIn K D = true) (ht : typeIn K (.ref D) = some (.type "type")) (h4 : subIn K (.ref C) (.ref D) = some b) (hs : subIn K (.ref C) (.ref C) = some true) : kitOne K (.ref C) (.ref D) = some b := by
  unfold kitOne
  by_cases he : (Value.ref C == Value.ref D) = true
  · rw [if_pos he]
    have e : C = D := Value.ref.inj (beq_iff_eq.mp he)
    subst e
    rw [hs] at h4
    exact h4
  · rw [if_neg he]
    obtain ⟨cd, hc, _⟩ := any_some hdct
    have e2 : ((clsIn K D).isSome && typeIn K (.ref D) == some (.type "type")) = true := by rw [hc, ht] <;> rfl
    show (if ((clsIn K D).isSome && typeIn K (.ref D) == some (.type "type")) = true then subIn K (.ref C) (.ref D) else none) = some b
    rw [if_pos e2]
    exact h4
theorem kit_ve {C : Addr} {b : Bool} (h : subIn K (.ref C) (.type "ValueError") = some b) : kitOne K (.ref C) (.type "ValueError") = some b := by
  unfold kitOne
  rw [if_neg (show ¬ ((Value.ref C == Value.type "ValueError") = true) from Bool.false_ne_true)]
  exact h
theorem sup_of {C E : Addr} {cd ce : ClassData} {bm : List Value} (h1 : clsIn K C = some cd) (h2 : cd.mro = .ref C :: bm) (h3 : clsIn K E = some ce) (h4 : ce.mro = bm) (h5 : findIn K (.ref E) "__init__" = some (some (.builtin "ValueError.__init__"))) : ks_superIn K C C "__init__" = some (some (.builtin "ValueError.__init__")) := by
  unfold ks_superIn
  rw [h1, Option.bind_some, h2, show ((Value.ref C :: bm).dropWhile (· != .ref C)).drop 1 = bm by simp [List.dropWhile_cons]]
  unfold findIn at h5
  unfold clsIn at h3
  split at h3
  · rename_i ho
    cases h3
    simp only [ho] at h5
    rw [← h4]
    exact h5
  · cases h3
/-- raise X(), in a def that may raise -/
theorem sok_raiseD {K : Frag} {E : XK} {cl : Str → Value} {C : Addr} (t : Str) (h : cl t = .ref C) : SOk K (fun t H' => E (cl t) none H') (fun _ σ H => E (.ref C) none H) (sRaise t) := fun H0 Z O ρ o σ H D e c q => by
  cases e
  have : E (cl t) none H := q H c.bs.same
  rw [h] at this
  exact this
theorem ruH64 {k : Nat} {A : Around} (r : L2H.RoomH k A) : A.units + 64 < cLine := by have := r.un; omega
theorem ruH65 {k : Nat} {A : Around} (r : L2H.RoomH k A) : A.units + 65 < cLine := by have := r.un; omega
theorem room_s {j k : Nat} {A : Around} {x : Option Value} (r : Room k A) (h : j ≤ k) : L2H.RoomH j (A.mark x) := ⟨(r.mono h).dp, (r.mono h).un⟩
theorem takesN0 {X : Cx} : L2N.Takes X (fun _ _ _ _ => False) := fun _ _ x => by
  obtain ⟨_, _, _, _, _, _, _, _, _, _, _, _, _, _, _, _, z⟩ := x
  exact z.elim
theorem bt_ValueError : bootBuiltins "ValueError" = some (.type "ValueError") := by decide +kernel
end F3
set_option maxRecDepth 100000
set_option maxHeartbeats 4000000
namespace Lk76
open PySem L2 F3
/-! the data-level reading of each def -/
def c_STILL : PyData := (PyData.tuple [(PyData.int 1), (PyData.int 0), (PyData.int 0), (PyData.int 1)])
def c_HALF : PyData := (PyData.tuple [(PyData.int (-1)), (PyData.int 0), (PyData.int 0), (PyData.int (-1))])
def c_QUARTER : PyData := (PyData.tuple [(PyData.int 0), (PyData.int (-1)), (PyData.int 1), (PyData.int 0)])
def c_STANDARDS : PyData := (PyData.tuple [(PyData.tuple [(PyData.int 1), (PyData.int 0), (PyData.int 0), (PyData.int 1)]), (PyData.tuple [(PyData.int (-1)), (PyData.int 0), (PyData.int 0), (PyData.int (-1))]), (PyData.tuple [(PyData.int 0), (PyData.int (-1)), (PyData.int 1), (PyData.int 0)]), (PyData.tuple [(PyData.int 0), (PyData.int 1), (PyData.int (-1)), (PyData.int 0)]), (PyData.tuple [(PyData.int 0), (PyData.int (-1)), (PyData.int 1), (PyData.int 1)]), (PyData.tuple [(PyData.int 1), (PyData.int 1), (PyData.int (-1)), (PyData.int 0)]), (PyData.tuple [(PyData.int 0), (PyData.int (-1)), (PyData.int 1), (PyData.int (-1))]), (PyData.tuple [(PyData.int (-1)), (PyData.int 1), (PyData.int (-1)), (PyData.int 0)])])
def c_SHIFTS : PyData := (PyData.tuple [(PyData.tuple [(PyData.int 1), (PyData.int 0), (PyData.int 0), (PyData.int 1)]), (PyData.tuple [(PyData.int 1), (PyData.int (-1)), (PyData.int 0), (PyData.int 1)]), (PyData.tuple [(PyData.int 1), (PyData.int 1), (PyData.int 0), (PyData.int 1)])])
noncomputable def b_nearest : Rh → Option Out := (sSeq (sIf (tOf (eBin ltR (eVar 1) (eC (.int 0))))
  (sSeq (sSet 0 (eUn negR (eVar 0)))
 (sSet 1 (eUn negR (eVar 1))))
  sPass)
 (sRet (eBin fdivR (eBin addR (eBin mulI (eC (.int 2)) (eVar 0)) (eVar 1)) (eBin mulI (eC (.int 2)) (eVar 1)))))
noncomputable def f_nearest : List PyData → Option Res := fnD 2 2 b_nearest
noncomputable def b_is_number : Rh → Option Out := (sRet (eAndD (eIsi .int (eVar 0)) (eNotD (eIsi .bool (eVar 0)))))
noncomputable def f_is_number : List PyData → Option Res := fnD 1 1 b_is_number
noncomputable def b_is_number_tuple : Rh → Option Out := (sSeq (sIf (tOrD (tNotD (tOf (eIsi .tuple (eVar 0)))) (tOf (eBin neR (eCall (on1 lenR) (aCons (eVar 0) aNil)) (eVar 1))))
  (sRet (eC (.bool false)))
  sPass)
 (sSeq (sFo [2] (sPre [2] (sFor (itSeq (eVar 0)) (gNm 2)
  (sFo [2] (sIf (tNotD (tOf (eFn f_is_number (aCons (eVar 2) aNil))))
  (sRet (eC (.bool false)))
  sPass)))))
 (sRet (eC (.bool true)))))
noncomputable def f_is_number_tuple : List PyData → Option Res := fnD 2 3 b_is_number_tuple
noncomputable def b_is_turn : Rh → Option Out := (sRet (eAndD (eFn f_is_number_tuple (aCons (eVar 0) (aCons (eC (.int 4)) aNil))) (eBin eqR (eBin subR (eBin mulI (eBin ixR (eVar 0) (eC (.int 0))) (eBin ixR (eVar 0) (eC (.int 3)))) (eBin mulI (eBin ixR (eVar 0) (eC (.int 1))) (eBin ixR (eVar 0) (eC (.int 2))))) (eC (.int 1)))))
noncomputable def f_is_turn : List PyData → Option Res := fnD 1 1 b_is_turn
noncomputable def b_turn_product : Rh → Option Out := (sSeq (sUnp (gTp (gsC (gNm 2) (gsC (gNm 3) (gsC (gNm 4) (gsC (gNm 5) gsN))))) (eVar 0))
 (sSeq (sUnp (gTp (gsC (gNm 6) (gsC (gNm 7) (gsC (gNm 8) (gsC (gNm 9) gsN))))) (eVar 1))
 (sRet (eTup (aCons (eBin addR (eBin mulI (eVar 2) (eVar 6)) (eBin mulI (eVar 3) (eVar 8))) (aCons (eBin addR (eBin mulI (eVar 2) (eVar 7)) (eBin mulI (eVar 3) (eVar 9))) (aCons (eBin addR (eBin mulI (eVar 4) (eVar 6)) (eBin mulI (eVar 5) (eVar 8))) (aCons (eBin addR (eBin mulI (eVar 4) (eVar 7)) (eBin mulI (eVar 5) (eVar 9))) aNil))))))))
noncomputable def f_turn_product : List PyData → Option Res := fnD 2 10 b_turn_product
noncomputable def b_turn_back : Rh → Option Out := (sSeq (sUnp (gTp (gsC (gNm 1) (gsC (gNm 2) (gsC (gNm 3) (gsC (gNm 4) gsN))))) (eVar 0))
 (sRet (eTup (aCons (eVar 4) (aCons (eUn negR (eVar 2)) (aCons (eUn negR (eVar 3)) (aCons (eVar 1) aNil)))))))
noncomputable def f_turn_back : List PyData → Option Res := fnD 1 5 b_turn_back
noncomputable def b_turned_by : Rh → Option Out := (sRet (eFn f_turn_product (aCons (eFn f_turn_product (aCons (eVar 1) (aCons (eVar 0) aNil))) (aCons (eFn f_turn_back (aCons (eVar 1) aNil)) aNil))))
noncomputable def f_turned_by : List PyData → Option Res := fnD 2 2 b_turned_by
noncomputable def b_turn_order : Rh → Option Out := (sSeq (sIf (tOf (eBin eqR (eVar 0) (eC c_STILL)))
  (sRet (eC (.int 1)))
  sPass)
 (sSeq (sIf (tOf (eBin eqR (eVar 0) (eC c_HALF)))
  (sRet (eC (.int 2)))
  sPass)
 (sRet (eKGet [((-1), 3), (0, 4), (1, 6)] (eBin addR (eBin ixR (eVar 0) (eC (.int 0))) (eBin ixR (eVar 0) (eC (.int 3)))) (eC (.int 0))))))
noncomputable def f_turn_order : List PyData → Option Res := fnD 1 1 b_turn_order
noncomputable def b_centring : Rh → Option Out := (sRet (eTup (aCons (eC (.int 1)) (aCons (eUn negR (eFn f_nearest (aCons (eBin subR (eBin ixR (eVar 0) (eC (.int 0))) (eBin ixR (eVar 0) (eC (.int 3)))) (aCons (eBin mulI (eC (.int 2)) (eBin ixR (eVar 0) (eC (.int 2)))) aNil)))) (aCons (eC (.int 0)) (aCons (eC (.int 1)) aNil))))))
noncomputable def f_centring : List PyData → Option Res := fnD 1 1 b_centring
noncomputable def b_leads : Rh → Option Out := (sRet (eBin eqR (eFn f_turn_product (aCons (eVar 2) (aCons (eVar 0) aNil))) (eFn f_turn_product (aCons (eVar 1) (aCons (eVar 2) aNil)))))
noncomputable def f_leads : List PyData → Option Res := fnD 3 3 b_leads
noncomputable def l_settled_1 : Rh → Option Out := (sFo [3, 4] (sSeq (sSet 3 (eFn f_turned_by (aCons (eVar 2) (aCons (eC c_QUARTER) aNil))))
 (sSeq (sSet 4 (eFn f_turn_product (aCons (eFn f_centring (aCons (eVar 3) aNil)) (aCons (eC c_QUARTER) aNil))))
 (sSeq (sSet 2 (eFn f_turned_by (aCons (eVar 2) (aCons (eVar 4) aNil))))
 (sSet 1 (eFn f_turn_product (aCons (eVar 4) (aCons (eVar 1) aNil))))))))
noncomputable def w_settled_2 : Rh → Option Bool := (tOf (eBin ltR (eCall (on1 absR) (aCons (eBin ixR (eVar 2) (eC (.int 1))) aNil)) (eCall (on1 absR) (aCons (eBin ixR (eVar 2) (eC (.int 2))) aNil))))
noncomputable def b_settled : Rh → Option Out := (sSeq (sSet 1 (eFn f_centring (aCons (eVar 0) aNil)))
 (sSeq (sSet 2 (eFn f_turned_by (aCons (eVar 0) (aCons (eVar 1) aNil))))
 (sSeq (sFo [3, 4] (sPre [3, 4] (sWhile w_settled_2
  l_settled_1)))
 (sRet (eTup (aCons (eVar 2) (aCons (eVar 1) aNil)))))))
noncomputable def f_settled : List PyData → Option Res := fnD 1 5 b_settled
noncomputable def b_finite_paper : Rh → Option Out := (sSeq (sIf (tOf (eBin eqR (eFn f_turn_order (aCons (eVar 0) aNil)) (eC (.int 0))))
  (sRaise "EndlessOrder")
  sPass)
 (sSeq (sIf (tOf (eBin eqR (eBin ixR (eVar 0) (eC (.int 2))) (eC (.int 0))))
  (sRet (eTup (aCons (eVar 0) (aCons (eC c_STILL) aNil))))
  sPass)
 (sSeq (sUnp (gTp (gsC (gNm 1) (gsC (gNm 2) gsN))) (eFn f_settled (aCons (eVar 0) aNil)))
 (sSeq (sSet 3 (eBin ixR (eLc (itSeq (eC c_SHIFTS)) (gNm 4) (tOf (eBin (inR false) (eFn f_turned_by (aCons (eVar 1) (aCons (eVar 4) aNil))) (eC c_STANDARDS))) (eVar 4) [4]) (eC (.int 0))))
 (sRet (eTup (aCons (eFn f_turned_by (aCons (eVar 1) (aCons (eVar 3) aNil))) (aCons (eFn f_turn_product (aCons (eVar 3) (aCons (eVar 2) aNil))) aNil))))))))
noncomputable def f_finite_paper : List PyData → Option RX := fnDX 1 5 b_finite_paper
noncomputable def b_shows_finite : Rh → Option Out := (sSeq (sIf (tOrD (tNotD (tOf (eFn f_is_number_tuple (aCons (eVar 1) (aCons (eC (.int 4)) aNil))))) (tOrD (tOf (eBin (inR true) (eVar 1) (eC c_STANDARDS))) (tNotD (tOf (eFn f_is_turn (aCons (eVar 2) aNil))))))
  (sRet (eC (.bool false)))
  sPass)
 (sRet (eFn f_leads (aCons (eVar 0) (aCons (eVar 1) (aCons (eVar 2) aNil))))))
noncomputable def f_shows_finite : List PyData → Option Res := fnD 3 3 b_shows_finite
noncomputable def b__law_draws : Rh → Option Out := (sSeq (sSet 2 (eLst aNil))
 (sSeq (sFo [3, 4, 5, 6] (sPre [3, 4, 5, 6] (sFor (itSeq (eSl (eVar 0) oNo (oIs (eC (.int 63))))) (gNm 3)
  (sFo [3, 4, 5, 6] (sSeq (sSet 4 (eCall (on1 absR) (aCons (eCall (on1 intR) (aCons (eVar 3) aNil)) aNil)))
 (sFo [4, 5, 6] (sIf (tOf (eBin geR (eVar 4) (eBin powR (eC (.int 10)) (eC (.int 18)))))
  (sFo [4, 5] (sPre [5] (sFor (itRng (aCons (eC (.int 60)) aNil)) (gNm 5)
  (sFo [5] (sIf (tOf (eBin gtR (eVar 4) (eC (.int 0))))
  (sSeq (sApp 2 (eBin modR (eVar 4) (eC (.int 1000003))))
 (sSet 4 (eBin fdivR (eVar 4) (eC (.int 1000003)))))
  sPass)))))
  (sSeq (sSet 6 (eBin modR (eBin addR (eBin addR (eBin mulI (eVar 4) (eC (.int 48271))) (eBin mulI (eC (.int 7)) (eCall (on1 lenR) (aCons (eVar 2) aNil)))) (eC (.int 11))) (eC (.int 2147483647))))
 (sFo [5, 6] (sPre [5] (sFor (itRng (aCons (eC (.int 4)) aNil)) (gNm 5)
  (sFo [5] (sSeq (sSet 6 (eBin modR (eBin addR (eBin addR (eBin addR (eBin mulI (eVar 6) (eC (.int 69621))) (eBin fdivR (eVar 6) (eC (.int 65536)))) (eBin mulI (eC (.int 13)) (eVar 5))) (eC (.int 5))) (eC (.int 2147483629))))
 (sApp 2 (eBin modR (eBin fdivR (eVar 6) (eC (.int 8))) (eC (.int 1000003)))))))))))))))))
 (sSeq (sFo [5, 7] (sPre [5, 7] (sFor (itRng (aCons (eVar 1) aNil)) (gNm 5)
  (sFo [5, 7] (sFo [7] (sIf (tOf (eBin ltR (eCall (on1 lenR) (aCons (eVar 2) aNil)) (eVar 1)))
  (sSeq (sSet 7 (eC (.int 0)))
 (sSeq (sIf (tOf (eBin gtR (eCall (on1 lenR) (aCons (eVar 2) aNil)) (eC (.int 0))))
  (sSet 7 (eBin ixR (eVar 2) (eBin modR (eVar 5) (eCall (on1 lenR) (aCons (eVar 2) aNil)))))
  sPass)
 (sApp 2 (eBin modR (eBin addR (eBin addR (eBin mulI (eVar 7) (eC (.int 16807))) (eBin mulI (eC (.int 31)) (eCall (on1 lenR) (aCons (eVar 2) aNil)))) (eC (.int 17))) (eC (.int 1000003))))))
  sPass))))))
 (sRet (eSl (eVar 2) oNo (oIs (eVar 1)))))))
noncomputable def f__law_draws : List PyData → Option Res := fnD 2 8 b__law_draws
noncomputable def b__law_is_number : Rh → Option Out := (sRet (eAndD (eIsi .int (eVar 0)) (eNotD (eIsi .bool (eVar 0)))))
noncomputable def f__law_is_number : List PyData → Option Res := fnD 1 1 b__law_is_number
noncomputable def b__law_is_tuple : Rh → Option Out := (sSeq (sIf (tOrD (tNotD (tOf (eIsi .tuple (eVar 0)))) (tOf (eBin neR (eCall (on1 lenR) (aCons (eVar 0) aNil)) (eVar 1))))
  (sRet (eC (.bool false)))
  sPass)
 (sSeq (sFo [2] (sPre [2] (sFor (itSeq (eVar 0)) (gNm 2)
  (sFo [2] (sIf (tNotD (tOf (eFn f__law_is_number (aCons (eVar 2) aNil))))
  (sRet (eC (.bool false)))
  sPass)))))
 (sRet (eC (.bool true)))))
noncomputable def f__law_is_tuple : List PyData → Option Res := fnD 2 3 b__law_is_tuple
noncomputable def f__law_same : Nat → List PyData → Option Res
  | 0 => fun _ => none
  | n + 1 => fnD 2 3 (sSeq (sIf (tOf (eIsi .bool (eVar 1)))
  (sRet (eAndD (eIsi .bool (eVar 0)) (eBin eqR (eVar 0) (eVar 1))))
  sPass)
 (sSeq (sIf (tOf (eIsi .int (eVar 1)))
  (sRet (eAndD (eFn f__law_is_number (aCons (eVar 0) aNil)) (eBin eqR (eVar 0) (eVar 1))))
  sPass)
 (sSeq (sIf (tOf (eIsi .str (eVar 1)))
  (sRet (eAndD (eIsi .str (eVar 0)) (eBin eqR (eVar 0) (eVar 1))))
  sPass)
 (sSeq (sIf (tOf (eBin (isR false) (eVar 1) (eC .none)))
  (sRet (eBin (isR false) (eVar 0) (eC .none)))
  sPass)
 (sSeq (sIf (tAndD (tOf (eIsi .tuple (eVar 1))) (tNotD (tOf (eIsi .tuple (eVar 0)))))
  (sRet (eC (.bool false)))
  sPass)
 (sSeq (sIf (tAndD (tOf (eIsi .list (eVar 1))) (tNotD (tOf (eIsi .list (eVar 0)))))
  (sRet (eC (.bool false)))
  sPass)
 (sSeq (sIf (tOf (eBin neR (eCall (on1 lenR) (aCons (eVar 0) aNil)) (eCall (on1 lenR) (aCons (eVar 1) aNil))))
  (sRet (eC (.bool false)))
  sPass)
 (sSeq (sFo [2] (sPre [2] (sFor (itRng (aCons (eCall (on1 lenR) (aCons (eVar 1) aNil)) aNil)) (gNm 2)
  (sFo [2] (sIf (tNotD (tOf (eFn (f__law_same n) (aCons (eBin ixR (eVar 0) (eVar 2)) (aCons (eBin ixR (eVar 1) (eVar 2)) aNil)))))
  (sRet (eC (.bool false)))
  sPass)))))
 (sRet (eC (.bool true)))))))))))
noncomputable def f__law_fresh : Nat → List PyData → Option Res
  | 0 => fun _ => none
  | n + 1 => fnD 1 2 (sSeq (sIf (tOf (eIsi .list (eVar 0)))
  (sRet (eLc (itSeq (eVar 0)) (gNm 1) tYesD (eFn (f__law_fresh n) (aCons (eVar 1) aNil)) [1]))
  sPass)
 (sSeq (sIf (tOf (eIsi .tuple (eVar 0)))
  (sRet (eCall (on1 tupR) (aCons (eLc (itSeq (eVar 0)) (gNm 1) tYesD (eFn (f__law_fresh n) (aCons (eVar 1) aNil)) [1]) aNil)))
  sPass)
 (sRet (eVar 0))))
noncomputable def l__law_even_1 : Rh → Option Out := (sFo [8, 9] (sSeq (sSet 9 (eBin subR (eBin modR (eBin ixR (eVar 0) (eBin addR (eVar 1) (eVar 8))) (eBin addR (eBin mulI (eC (.int 2)) (eVar 3)) (eC (.int 1)))) (eVar 3)))
 (sIf (tOf (eBin eqR (eBin modR (eVar 8) (eC (.int 2))) (eC (.int 0))))
  (sSeq (sSet 4 (eBin addR (eVar 4) (eBin mulI (eVar 9) (eVar 6))))
 (sSet 5 (eBin addR (eVar 5) (eBin mulI (eVar 9) (eVar 7)))))
  (sSeq (sSet 6 (eBin addR (eVar 6) (eBin mulI (eVar 9) (eVar 4))))
 (sSet 7 (eBin addR (eVar 7) (eBin mulI (eVar 9) (eVar 5))))))))
noncomputable def b__law_even : Rh → Option Out := (sSeq (sUnp (gTp (gsC (gNm 4) (gsC (gNm 5) (gsC (gNm 6) (gsC (gNm 7) gsN))))) (eTup (aCons (eC (.int 1)) (aCons (eC (.int 0)) (aCons (eC (.int 0)) (aCons (eC (.int 1)) aNil))))))
 (sSeq (sFo [8, 9] (sPre [8, 9] (sFor (itRng (aCons (eVar 2) aNil)) (gNm 8)
  l__law_even_1)))
 (sRet (eTup (aCons (eVar 4) (aCons (eVar 5) (aCons (eVar 6) (aCons (eVar 7) aNil))))))))
noncomputable def f__law_even : List PyData → Option Res := fnD 4 10 b__law_even
noncomputable def b__law_times : Rh → Option Out := (sSeq (sUnp (gTp (gsC (gNm 2) (gsC (gNm 3) (gsC (gNm 4) (gsC (gNm 5) gsN))))) (eVar 0))
 (sSeq (sUnp (gTp (gsC (gNm 6) (gsC (gNm 7) (gsC (gNm 8) (gsC (gNm 9) gsN))))) (eVar 1))
 (sRet (eTup (aCons (eBin addR (eBin mulI (eVar 2) (eVar 6)) (eBin mulI (eVar 3) (eVar 8))) (aCons (eBin addR (eBin mulI (eVar 2) (eVar 7)) (eBin mulI (eVar 3) (eVar 9))) (aCons (eBin addR (eBin mulI (eVar 4) (eVar 6)) (eBin mulI (eVar 5) (eVar 8))) (aCons (eBin addR (eBin mulI (eVar 4) (eVar 7)) (eBin mulI (eVar 5) (eVar 9))) aNil))))))))
noncomputable def f__law_times : List PyData → Option Res := fnD 2 10 b__law_times
noncomputable def b__law_word : Rh → Option Out := (sRet (eLc (itRng (aCons (eVar 2) aNil)) (gNm 4) tYesD (eBin subR (eBin modR (eBin ixR (eVar 0) (eBin addR (eVar 1) (eVar 4))) (eBin addR (eBin mulI (eC (.int 2)) (eVar 3)) (eC (.int 1)))) (eVar 3)) [4]))
noncomputable def f__law_word : List PyData → Option Res := fnD 4 5 b__law_word
noncomputable def l__law_of_word_1 : Rh → Option Out := (sFo [2] (sSet 1 (eTup (aCons (eBin addR (eBin mulI (eBin ixR (eVar 1) (eC (.int 0))) (eVar 2)) (eBin ixR (eVar 1) (eC (.int 1)))) (aCons (eUn negR (eBin ixR (eVar 1) (eC (.int 0)))) (aCons (eBin addR (eBin mulI (eBin ixR (eVar 1) (eC (.int 2))) (eVar 2)) (eBin ixR (eVar 1) (eC (.int 3)))) (aCons (eUn negR (eBin ixR (eVar 1) (eC (.int 2)))) aNil)))))))
noncomputable def b__law_of_word : Rh → Option Out := (sSeq (sSet 1 (eTup (aCons (eC (.int 1)) (aCons (eC (.int 0)) (aCons (eC (.int 0)) (aCons (eC (.int 1)) aNil))))))
 (sSeq (sFo [2] (sPre [2] (sFor (itSeq (eVar 0)) (gNm 2)
  l__law_of_word_1)))
 (sRet (eVar 1))))
noncomputable def f__law_of_word : List PyData → Option Res := fnD 1 3 b__law_of_word
noncomputable def b__law_is_turn : Rh → Option Out := (sRet (eAndD (eFn f__law_is_tuple (aCons (eVar 0) (aCons (eC (.int 4)) aNil))) (eBin eqR (eBin subR (eBin mulI (eBin ixR (eVar 0) (eC (.int 0))) (eBin ixR (eVar 0) (eC (.int 3)))) (eBin mulI (eBin ixR (eVar 0) (eC (.int 1))) (eBin ixR (eVar 0) (eC (.int 2))))) (eC (.int 1)))))
noncomputable def f__law_is_turn : List PyData → Option Res := fnD 1 1 b__law_is_turn
noncomputable def b__law_leads : Rh → Option Out := (sRet (eBin eqR (eFn f__law_times (aCons (eVar 2) (aCons (eVar 0) aNil))) (eFn f__law_times (aCons (eVar 1) (aCons (eVar 2) aNil)))))
noncomputable def f__law_leads : List PyData → Option Res := fnD 3 3 b__law_leads
noncomputable def b__law_by : Rh → Option Out := (sRet (eFn f__law_times (aCons (eFn f__law_times (aCons (eVar 0) (aCons (eVar 1) aNil))) (aCons (eTup (aCons (eBin ixR (eVar 0) (eC (.int 3))) (aCons (eUn negR (eBin ixR (eVar 0) (eC (.int 1)))) (aCons (eUn negR (eBin ixR (eVar 0) (eC (.int 2)))) (aCons (eBin ixR (eVar 0) (eC (.int 0))) aNil))))) aNil))))
noncomputable def f__law_by : List PyData → Option Res := fnD 2 2 b__law_by
noncomputable def b__law_standards : Rh → Option Out := (sSeq (sSet 0 (eLst (aCons (eTup (aCons (eC (.int 1)) (aCons (eC (.int 0)) (aCons (eC (.int 0)) (aCons (eC (.int 1)) aNil))))) (aCons (eTup (aCons (eUn negR (eC (.int 1))) (aCons (eC (.int 0)) (aCons (eC (.int 0)) (aCons (eUn negR (eC (.int 1))) aNil))))) (aCons (eTup (aCons (eC (.int 0)) (aCons (eUn negR (eC (.int 1))) (aCons (eC (.int 1)) (aCons (eC (.int 0)) aNil))))) (aCons (eTup (aCons (eC (.int 0)) (aCons (eC (.int 1)) (aCons (eUn negR (eC (.int 1))) (aCons (eC (.int 0)) aNil))))) aNil))))))
 (sRet (eBin addR (eVar 0) (eLst (aCons (eTup (aCons (eC (.int 0)) (aCons (eUn negR (eC (.int 1))) (aCons (eC (.int 1)) (aCons (eC (.int 1)) aNil))))) (aCons (eTup (aCons (eC (.int 1)) (aCons (eC (.int 1)) (aCons (eUn negR (eC (.int 1))) (aCons (eC (.int 0)) aNil))))) (aCons (eTup (aCons (eC (.int 0)) (aCons (eUn negR (eC (.int 1))) (aCons (eC (.int 1)) (aCons (eUn negR (eC (.int 1))) aNil))))) (aCons (eTup (aCons (eUn negR (eC (.int 1))) (aCons (eC (.int 1)) (aCons (eUn negR (eC (.int 1))) (aCons (eC (.int 0)) aNil))))) aNil))))))))
noncomputable def f__law_standards : List PyData → Option Res := fnD 0 1 b__law_standards
noncomputable def b__law_right : Rh → Option Out := (sSeq (sIf (tOrD (tNotD (tOf (eFn f__law_is_tuple (aCons (eVar 1) (aCons (eC (.int 4)) aNil))))) (tOrD (tNotD (tOf (eFn f__law_is_turn (aCons (eVar 2) aNil)))) (tOf (eBin (inR true) (eVar 1) (eFn f__law_standards aNil)))))
  (sRet (eC (.bool false)))
  sPass)
 (sRet (eFn f__law_leads (aCons (eVar 0) (aCons (eVar 1) (aCons (eVar 2) aNil))))))
noncomputable def f__law_right : List PyData → Option Res := fnD 3 3 b__law_right
noncomputable def l__law_finite_1 : Rh → Option Out := (sFo [2] (sSeq (sIf (tOf (eBin eqR (eVar 1) (eTup (aCons (eC (.int 1)) (aCons (eC (.int 0)) (aCons (eC (.int 0)) (aCons (eC (.int 1)) aNil)))))))
  (sRet (eC (.bool true)))
  sPass)
 (sSet 1 (eFn f__law_times (aCons (eVar 1) (aCons (eVar 0) aNil))))))
noncomputable def b__law_finite : Rh → Option Out := (sSeq (sSet 1 (eVar 0))
 (sSeq (sFo [1, 2] (sPre [2] (sFor (itRng (aCons (eC (.int 12)) aNil)) (gNm 2)
  l__law_finite_1)))
 (sRet (eC (.bool false)))))
noncomputable def f__law_finite : List PyData → Option Res := fnD 1 3 b__law_finite
noncomputable def b__law_told : Rh → Option Out := (sSeq (sSet 2 (eC .none))
 (sSeq (sFo [4] (sTry "EndlessOrder" 2 3 f_finite_paper (aCons (eVar 0) aNil)
  (sSeq (sSet 4 (eOrD (eC (.bool false)) (eC (.bool false))))
 (sRet (eAndD (eNotD (eFn f__law_finite (aCons (eVar 0) aNil))) (eAndD (eC (.bool true)) (eAndD (eC (.bool true)) (eNotD (eVar 4)))))))))
 (sSeq (sIf (tOrD (tNotD (tOf (eFn f__law_finite (aCons (eVar 0) aNil)))) (tOrD (tNotD (tOf (eIsi .tuple (eVar 2)))) (tOf (eBin neR (eCall (on1 lenR) (aCons (eVar 2) aNil)) (eC (.int 2))))))
  (sRet (eC (.bool false)))
  sPass)
 (sSeq (sIf (tAndD (tOf (eBin (isR true) (eVar 1) (eC .none))) (tNotD (tOf (eFn (f__law_same 24) (aCons (eBin ixR (eVar 2) (eC (.int 0))) (aCons (eVar 1) aNil))))))
  (sRet (eC (.bool false)))
  sPass)
 (sRet (eAndD (eFn f__law_right (aCons (eVar 0) (aCons (eBin ixR (eVar 2) (eC (.int 0))) (aCons (eBin ixR (eVar 2) (eC (.int 1))) aNil)))) (eBin (isR false) (eFn f_shows_finite (aCons (eVar 0) (aCons (eBin ixR (eVar 2) (eC (.int 0))) (aCons (eBin ixR (eVar 2) (eC (.int 1))) aNil)))) (eC (.bool true)))))))))
noncomputable def f__law_told : List PyData → Option Res := fnD 2 5 b__law_told
noncomputable def l__law_judged_1 : Rh → Option Out := (sFo [6] (sSet 5 (eBin addR (eVar 5) (eLst (aCons (eTup (aCons (eVar 6) (aCons (eVar 2) aNil))) (aCons (eTup (aCons (eVar 6) (aCons (eVar 4) aNil))) (aCons (eTup (aCons (eVar 6) (aCons (eTup (aCons (eC (.int 1)) (aCons (eC (.int 0)) (aCons (eC (.int 0)) (aCons (eC (.int 1)) aNil))))) aNil))) aNil)))))))
noncomputable def l__law_judged_2 : Rh → Option Out := (sFo [11] (sApp 5 (eTup (aCons (eVar 1) (aCons (eVar 11) aNil)))))
noncomputable def l__law_judged_3 : Rh → Option Out := (sFo [11] (sApp 5 (eTup (aCons (eVar 1) (aCons (eBin addR (eBin addR (eSl (eVar 2) oNo (oIs (eVar 3))) (eTup (aCons (eVar 11) aNil))) (eSl (eVar 2) (oIs (eBin addR (eVar 3) (eC (.int 1)))) oNo)) aNil)))))
noncomputable def l__law_judged_4 : Rh → Option Out := (sFo [11] (sApp 5 (eTup (aCons (eBin addR (eBin addR (eSl (eVar 1) oNo (oIs (eVar 3))) (eTup (aCons (eVar 11) aNil))) (eSl (eVar 1) (oIs (eBin addR (eVar 3) (eC (.int 1)))) oNo)) (aCons (eVar 2) aNil)))))
noncomputable def l__law_judged_5 : Rh → Option Out := (sFo [6, 12, 13, 14] (sSeq (sSet 13 (eLst (aCons (eFn (f__law_fresh 24) (aCons (eVar 12) aNil)) (aCons (eFn (f__law_fresh 24) (aCons (eVar 6) aNil)) aNil))))
 (sSeq (sSet 14 (eFn f_shows_finite (aCons (eVar 0) (aCons (eBin ixR (eVar 13) (eC (.int 0))) (aCons (eBin ixR (eVar 13) (eC (.int 1))) aNil)))))
 (sIf (tOrD (tOf (eBin neR (eCall (on1 reprR) (aCons (eVar 13) aNil)) (eCall (on1 reprR) (aCons (eLst (aCons (eVar 12) (aCons (eVar 6) aNil))) aNil)))) (tNotD (tOf (eFn (f__law_same 24) (aCons (eVar 14) (aCons (eFn f__law_right (aCons (eVar 0) (aCons (eVar 12) (aCons (eVar 6) aNil)))) aNil))))))
  (sRet (eC (.bool false)))
  sPass))))
noncomputable def b__law_judged : Rh → Option Out := (sSeq (sSet 4 (eCall (on1 tupR) (aCons (eLc (itSeq (eVar 2)) (gNm 15) tYesD (eUn negR (eVar 15)) [15]) aNil)))
 (sSeq (sSet 5 (eLst (aCons (eTup (aCons (eVar 1) (aCons (eVar 2) aNil))) (aCons (eTup (aCons (eVar 1) (aCons (eVar 4) aNil))) (aCons (eTup (aCons (eVar 1) (aCons (eFn f__law_times (aCons (eVar 2) (aCons (eVar 0) aNil))) aNil))) (aCons (eTup (aCons (eVar 1) (aCons (eFn f__law_times (aCons (eVar 1) (aCons (eVar 2) aNil))) aNil))) aNil))))))
 (sSeq (sFo [6] (sPre [6] (sFor (itSeq (eFn f__law_standards aNil)) (gNm 6)
  l__law_judged_1)))
 (sSeq (sUnp (gTp (gsC (gNm 7) (gsC (gNm 8) (gsC (gNm 9) (gsC (gNm 10) gsN))))) (eVar 2))
 (sSeq (sFo [11] (sPre [11] (sFor (itSeq (eLst (aCons (eCall (on1 listR) (aCons (eVar 2) aNil)) (aCons (eSl (eVar 2) oNo (oIs (eC (.int 3)))) (aCons (eBin addR (eVar 2) (eTup (aCons (eC (.int 0)) aNil))) (aCons (eTup (aCons (eBin mulI (eC (.int 2)) (eVar 7)) (aCons (eBin mulI (eC (.int 2)) (eVar 8)) (aCons (eBin mulI (eC (.int 2)) (eVar 9)) (aCons (eBin mulI (eC (.int 2)) (eVar 10)) aNil))))) (aCons (eTup (aCons (eC (.int 0)) (aCons (eC (.int 0)) (aCons (eC (.int 0)) (aCons (eC (.int 0)) aNil))))) (aCons (eTup (aCons (eVar 7) (aCons (eVar 8) (aCons (eUn negR (eVar 9)) (aCons (eUn negR (eVar 10)) aNil))))) (aCons (eTup (aCons (eVar 10) (aCons (eUn negR (eVar 8)) (aCons (eUn negR (eVar 9)) (aCons (eVar 7) aNil))))) (aCons (eC .none) (aCons (eC (.bool true)) (aCons (eC (.str "")) (aCons (eTup (aCons (eVar 2) aNil)) aNil))))))))))))) (gNm 11)
  l__law_judged_2)))
 (sSeq (sFo [11] (sPre [11] (sFor (itSeq (eLst (aCons (eBin addR (eBin ixR (eVar 2) (eVar 3)) (eC (.int 1))) (aCons (eBin subR (eBin ixR (eVar 2) (eVar 3)) (eC (.int 1))) (aCons (eUn negR (eBin ixR (eVar 2) (eVar 3))) (aCons (eC (.bool true)) (aCons (eC (.bool false)) (aCons (eC .none) (aCons (eCall (on1 strR) (aCons (eBin ixR (eVar 2) (eVar 3)) aNil)) (aCons (eLst (aCons (eBin ixR (eVar 2) (eVar 3)) aNil)) aNil)))))))))) (gNm 11)
  l__law_judged_3)))
 (sSeq (sFo [11] (sPre [11] (sFor (itSeq (eLst (aCons (eBin addR (eBin ixR (eVar 1) (eVar 3)) (eC (.int 1))) (aCons (eC (.bool true)) (aCons (eC (.bool false)) (aCons (eC .none) (aCons (eCall (on1 strR) (aCons (eBin ixR (eVar 1) (eVar 3)) aNil)) (aCons (eTup (aCons (eC (.int 0)) aNil)) aNil)))))))) (gNm 11)
  l__law_judged_4)))
 (sSeq (sSet 5 (eBin addR (eVar 5) (eLst (aCons (eTup (aCons (eCall (on1 listR) (aCons (eVar 1) aNil)) (aCons (eVar 2) aNil))) (aCons (eTup (aCons (eSl (eVar 1) oNo (oIs (eC (.int 3)))) (aCons (eVar 2) aNil))) (aCons (eTup (aCons (eC .none) (aCons (eVar 2) aNil))) (aCons (eTup (aCons (eVar 0) (aCons (eTup (aCons (eC (.int 1)) (aCons (eC (.int 0)) (aCons (eC (.int 0)) (aCons (eC (.int 1)) aNil))))) aNil))) (aCons (eTup (aCons (eVar 0) (aCons (eVar 2) aNil))) (aCons (eTup (aCons (eVar 2) (aCons (eVar 1) aNil))) (aCons (eTup (aCons (eTup aNil) (aCons (eVar 2) aNil))) (aCons (eTup (aCons (eC (.int 1)) (aCons (eVar 2) aNil))) aNil)))))))))))
 (sSeq (sSet 5 (eBin addR (eVar 5) (eLst (aCons (eTup (aCons (eTup (aCons (eC (.bool true)) (aCons (eC (.int 0)) (aCons (eC (.int 0)) (aCons (eC (.bool true)) aNil))))) (aCons (eVar 2) aNil))) (aCons (eTup (aCons (eTup (aCons (eC (.int 1)) (aCons (eC (.int 0)) (aCons (eC (.bool false)) (aCons (eC (.int 1)) aNil))))) (aCons (eVar 2) aNil))) (aCons (eTup (aCons (eTup (aCons (eC (.bool false)) (aCons (eUn negR (eC (.int 1))) (aCons (eC (.int 1)) (aCons (eC (.int 0)) aNil))))) (aCons (eVar 2) aNil))) (aCons (eTup (aCons (eC (.str "turn")) (aCons (eVar 2) aNil))) (aCons (eTup (aCons (eTup (aCons (eC (.int 2)) (aCons (eC (.int 1)) (aCons (eC (.int 1)) (aCons (eC (.int 1)) aNil))))) (aCons (eVar 2) aNil))) aNil))))))))
 (sSeq (sFrz [5] (sFo [6, 12, 13, 14] (sPre [6, 12, 13, 14] (sFor (itSeq (eVar 5)) (gTp (gsC (gNm 12) (gsC (gNm 6) gsN)))
  l__law_judged_5))))
 (sRet (eC (.bool true)))))))))))))
noncomputable def f__law_judged : List PyData → Option Res := fnD 4 16 b__law_judged
noncomputable def l_law_1 : Rh → Option Out := (sFo [12] (sIf (tNotD (tOf (eFn f__law_told (aCons (eVar 12) (aCons (eC .none) aNil)))))
  (sRet (eC (.bool false)))
  sPass))
noncomputable def l_law_2 : Rh → Option Out := (sFo [13] (sIf (tNotD (tOf (eFn f__law_judged (aCons (eBin ixR (eVar 11) (eBin modR (eBin addR (eBin ixR (eVar 1) (eC (.int 18))) (eBin mulI (eC (.int 3)) (eVar 13))) (eC (.int 6)))) (aCons (eVar 5) (aCons (eVar 4) (aCons (eVar 7) aNil)))))))
  (sRet (eC (.bool false)))
  sPass))
noncomputable def l_law_3 : Rh → Option Out := (sFo [14] (sIf (tOrD (tNotD (tOf (eFn f__law_told (aCons (eVar 14) (aCons (eVar 14) aNil))))) (tNotD (tOf (eFn f__law_told (aCons (eFn f__law_by (aCons (eVar 4) (aCons (eVar 14) aNil))) (aCons (eVar 14) aNil))))))
  (sRet (eC (.bool false)))
  sPass))
noncomputable def b_law : Rh → Option Out := (sSeq (sSet 1 (eFn f__law_draws (aCons (eVar 0) (aCons (eC (.int 24)) aNil))))
 (sSeq (sSet 2 (eC (.int 4)))
 (sSeq (sIf (tOf (eBin eqR (eBin modR (eBin ixR (eVar 1) (eC (.int 1))) (eC (.int 8))) (eC (.int 3))))
  (sSet 2 (eBin powR (eC (.int 10)) (eC (.int 3))))
  sPass)
 (sSeq (sFrz [1] (sSet 3 (eFn f__law_even (aCons (eVar 1) (aCons (eC (.int 2)) (aCons (eBin modR (eBin fdivR (eBin ixR (eVar 1) (eC (.int 1))) (eC (.int 8))) (eC (.int 7))) (aCons (eVar 2) aNil)))))))
 (sSeq (sSet 4 (eTup (aCons (eBin ixR (eVar 3) (eC (.int 3))) (aCons (eUn negR (eBin ixR (eVar 3) (eC (.int 1)))) (aCons (eUn negR (eBin ixR (eVar 3) (eC (.int 2)))) (aCons (eBin ixR (eVar 3) (eC (.int 0))) aNil))))))
 (sSeq (sSet 5 (eBin ixR (eFn f__law_standards aNil) (eBin modR (eBin ixR (eVar 1) (eC (.int 0))) (eC (.int 8)))))
 (sSeq (sSet 6 (eFn f__law_by (aCons (eVar 3) (aCons (eVar 5) aNil))))
 (sSeq (sSet 7 (eBin modR (eBin ixR (eVar 1) (eC (.int 9))) (eC (.int 4))))
 (sSeq (sIf (tOrD (tNotD (tOf (eFn f__law_told (aCons (eVar 6) (aCons (eVar 5) aNil))))) (tNotD (tOf (eFn f__law_judged (aCons (eVar 6) (aCons (eVar 5) (aCons (eVar 4) (aCons (eVar 7) aNil))))))))
  (sRet (eC (.bool false)))
  sPass)
 (sSeq (sFrz [1] (sSet 8 (eFn f__law_of_word (aCons (eFn f__law_word (aCons (eVar 1) (aCons (eC (.int 10)) (aCons (eBin addR (eC (.int 1)) (eBin modR (eBin ixR (eVar 1) (eC (.int 15))) (eC (.int 5)))) (aCons (eC (.int 4)) aNil))))) aNil))))
 (sSeq (sSet 9 (eBin subR (eC (.int 1)) (eBin mulI (eC (.int 2)) (eBin modR (eBin ixR (eVar 1) (eC (.int 16))) (eC (.int 2))))))
 (sSeq (sSet 10 (eFn f__law_by (aCons (eVar 3) (aCons (eTup (aCons (eVar 9) (aCons (eBin subR (eBin modR (eBin ixR (eVar 1) (eC (.int 17))) (eC (.int 7))) (eC (.int 3))) (aCons (eC (.int 0)) (aCons (eVar 9) aNil))))) aNil))))
 (sSeq (sSet 11 (eLst (aCons (eVar 8) (aCons (eFn f__law_by (aCons (eVar 3) (aCons (eVar 8) aNil))) (aCons (eVar 10) (aCons (eTup (aCons (eC (.int 2)) (aCons (eC (.int 1)) (aCons (eC (.int 1)) (aCons (eC (.int 1)) aNil))))) (aCons (eTup (aCons (eC (.int 1)) (aCons (eC (.int 1)) (aCons (eC (.int 0)) (aCons (eC (.int 1)) aNil))))) (aCons (eTup (aCons (eUn negR (eC (.int 1))) (aCons (eC (.int 0)) (aCons (eC (.int 1)) (aCons (eUn negR (eC (.int 1))) aNil))))) aNil))))))))
 (sSeq (sFrz [11] (sFo [12] (sPre [12] (sFor (itSeq (eVar 11)) (gNm 12)
  l_law_1))))
 (sSeq (sFo [13] (sPre [13] (sFor (itRng (aCons (eC (.int 2)) aNil)) (gNm 13)
  l_law_2)))
 (sSeq (sFo [14] (sPre [14] (sFor (itSeq (eFn f__law_standards aNil)) (gNm 14)
  l_law_3)))
 (sRet (eFn f__law_told (aCons (eVar 6) (aCons (eVar 5) aNil))))))))))))))))))))
noncomputable def f_law : List PyData → Option Res := fnD 1 15 b_law
end Lk76
set_option maxRecDepth 100000
set_option maxHeartbeats 4000000
namespace Lk76
open PySem PySem.Spec PyProof.Rows L2 F3
def topS (i : Nat) : Stmt := PySem.Challenge.pw_gridplots_k76_turns_of_finite_order.main.body.getD i (.Pass ⟨0, 0, 0, 0⟩)
abbrev s_nearest : Stmt := topS 1
abbrev N_nearest : List Str := ["first", "second"]
theorem sc_nearest : FnScope N_nearest ["first", "second"] (defScope s_nearest) := ⟨rfl, rfl, rfl, by decide +kernel, rfl, by decide +kernel, by decide +kernel⟩
abbrev s_is_number : Stmt := topS 3
abbrev N_is_number : List Str := ["value"]
theorem sc_is_number : FnScope N_is_number ["value"] (defScope s_is_number) := ⟨rfl, rfl, rfl, by decide +kernel, rfl, by decide +kernel, by decide +kernel⟩
abbrev s_is_number_tuple : Stmt := topS 4
abbrev N_is_number_tuple : List Str := ["value", "width", "item"]
theorem sc_is_number_tuple : FnScope N_is_number_tuple ["value", "width"] (defScope s_is_number_tuple) := ⟨rfl, rfl, rfl, by decide +kernel, rfl, by decide +kernel, by decide +kernel⟩
abbrev s_is_turn : Stmt := topS 10
abbrev N_is_turn : List Str := ["value"]
theorem sc_is_turn : FnScope N_is_turn ["value"] (defScope s_is_turn) := ⟨rfl, rfl, rfl, by decide +kernel, rfl, by decide +kernel, by decide +kernel⟩
abbrev s_turn_product : Stmt := topS 11
abbrev N_turn_product : List Str := ["first", "second", "a", "b", "c", "d", "e", "f", "g", "h"]
theorem sc_turn_product : FnScope N_turn_product ["first", "second"] (defScope s_turn_product) := ⟨rfl, rfl, rfl, by decide +kernel, rfl, by decide +kernel, by decide +kernel⟩
abbrev s_turn_back : Stmt := topS 12
abbrev N_turn_back : List Str := ["turn", "a", "b", "c", "d"]
theorem sc_turn_back : FnScope N_turn_back ["turn"] (defScope s_turn_back) := ⟨rfl, rfl, rfl, by decide +kernel, rfl, by decide +kernel, by decide +kernel⟩
abbrev s_turned_by : Stmt := topS 13
abbrev N_turned_by : List Str := ["turn", "h"]
theorem sc_turned_by : FnScope N_turned_by ["turn", "h"] (defScope s_turned_by) := ⟨rfl, rfl, rfl, by decide +kernel, rfl, by decide +kernel, by decide +kernel⟩
abbrev s_turn_order : Stmt := topS 14
abbrev N_turn_order : List Str := ["turn"]
theorem sc_turn_order : FnScope N_turn_order ["turn"] (defScope s_turn_order) := ⟨rfl, rfl, rfl, by decide +kernel, rfl, by decide +kernel, by decide +kernel⟩
abbrev s_centring : Stmt := topS 16
abbrev N_centring : List Str := ["turn"]
theorem sc_centring : FnScope N_centring ["turn"] (defScope s_centring) := ⟨rfl, rfl, rfl, by decide +kernel, rfl, by decide +kernel, by decide +kernel⟩
abbrev s_leads : Stmt := topS 25
abbrev N_leads : List Str := ["first", "second", "h"]
theorem sc_leads : FnScope N_leads ["first", "second", "h"] (defScope s_leads) := ⟨rfl, rfl, rfl, by decide +kernel, rfl, by decide +kernel, by decide +kernel⟩
abbrev s_settled : Stmt := topS 26
abbrev N_settled : List Str := ["turn", "h", "now", "quarter", "step"]
theorem sc_settled : FnScope N_settled ["turn"] (defScope s_settled) := ⟨rfl, rfl, rfl, by decide +kernel, rfl, by decide +kernel, by decide +kernel⟩
abbrev s_finite_paper : Stmt := topS 27
abbrev N_finite_paper : List Str := ["turn", "small", "h", "step", "item"]
theorem sc_finite_paper : FnScope N_finite_paper ["turn"] (defScope s_finite_paper) := ⟨rfl, rfl, rfl, by decide +kernel, rfl, by decide +kernel, by decide +kernel⟩
abbrev s_shows_finite : Stmt := topS 28
abbrev N_shows_finite : List Str := ["turn", "standard", "h"]
theorem sc_shows_finite : FnScope N_shows_finite ["turn", "standard", "h"] (defScope s_shows_finite) := ⟨rfl, rfl, rfl, by decide +kernel, rfl, by decide +kernel, by decide +kernel⟩
abbrev s__law_draws : Stmt := topS 30
abbrev N__law_draws : List Str := ["script", "many", "found", "cell", "number", "k", "mixed", "base"]
theorem sc__law_draws : FnScope N__law_draws ["script", "many"] (defScope s__law_draws) := ⟨rfl, rfl, rfl, by decide +kernel, rfl, by decide +kernel, by decide +kernel⟩
abbrev s__law_is_number : Stmt := topS 31
abbrev N__law_is_number : List Str := ["value"]
theorem sc__law_is_number : FnScope N__law_is_number ["value"] (defScope s__law_is_number) := ⟨rfl, rfl, rfl, by decide +kernel, rfl, by decide +kernel, by decide +kernel⟩
abbrev s__law_is_tuple : Stmt := topS 32
abbrev N__law_is_tuple : List Str := ["value", "width", "item"]
theorem sc__law_is_tuple : FnScope N__law_is_tuple ["value", "width"] (defScope s__law_is_tuple) := ⟨rfl, rfl, rfl, by decide +kernel, rfl, by decide +kernel, by decide +kernel⟩
abbrev s__law_same : Stmt := topS 33
abbrev N__law_same : List Str := ["told", "due", "k"]
theorem sc__law_same : FnScope N__law_same ["told", "due"] (defScope s__law_same) := ⟨rfl, rfl, rfl, by decide +kernel, rfl, by decide +kernel, by decide +kernel⟩
abbrev s__law_fresh : Stmt := topS 34
abbrev N__law_fresh : List Str := ["value", "item"]
theorem sc__law_fresh : FnScope N__law_fresh ["value"] (defScope s__law_fresh) := ⟨rfl, rfl, rfl, by decide +kernel, rfl, by decide +kernel, by decide +kernel⟩
abbrev s__law_even : Stmt := topS 35
abbrev N__law_even : List Str := ["draws", "at", "steps", "most", "a", "b", "c", "d", "k", "times"]
theorem sc__law_even : FnScope N__law_even ["draws", "at", "steps", "most"] (defScope s__law_even) := ⟨rfl, rfl, rfl, by decide +kernel, rfl, by decide +kernel, by decide +kernel⟩
abbrev s__law_times : Stmt := topS 36
abbrev N__law_times : List Str := ["first", "second", "a", "b", "c", "d", "e", "f", "g", "h"]
theorem sc__law_times : FnScope N__law_times ["first", "second"] (defScope s__law_times) := ⟨rfl, rfl, rfl, by decide +kernel, rfl, by decide +kernel, by decide +kernel⟩
abbrev s__law_word : Stmt := topS 37
abbrev N__law_word : List Str := ["draws", "at", "many", "most", "k"]
theorem sc__law_word : FnScope N__law_word ["draws", "at", "many", "most"] (defScope s__law_word) := ⟨rfl, rfl, rfl, by decide +kernel, rfl, by decide +kernel, by decide +kernel⟩
abbrev s__law_of_word : Stmt := topS 38
abbrev N__law_of_word : List Str := ["word", "turn", "number"]
theorem sc__law_of_word : FnScope N__law_of_word ["word"] (defScope s__law_of_word) := ⟨rfl, rfl, rfl, by decide +kernel, rfl, by decide +kernel, by decide +kernel⟩
abbrev s__law_is_turn : Stmt := topS 39
abbrev N__law_is_turn : List Str := ["value"]
theorem sc__law_is_turn : FnScope N__law_is_turn ["value"] (defScope s__law_is_turn) := ⟨rfl, rfl, rfl, by decide +kernel, rfl, by decide +kernel, by decide +kernel⟩
abbrev s__law_leads : Stmt := topS 40
abbrev N__law_leads : List Str := ["first", "second", "h"]
theorem sc__law_leads : FnScope N__law_leads ["first", "second", "h"] (defScope s__law_leads) := ⟨rfl, rfl, rfl, by decide +kernel, rfl, by decide +kernel, by decide +kernel⟩
abbrev s__law_by : Stmt := topS 41
abbrev N__law_by : List Str := ["h", "turn"]
theorem sc__law_by : FnScope N__law_by ["h", "turn"] (defScope s__law_by) := ⟨rfl, rfl, rfl, by decide +kernel, rfl, by decide +kernel, by decide +kernel⟩
abbrev s__law_standards : Stmt := topS 42
abbrev N__law_standards : List Str := ["first"]
theorem sc__law_standards : FnScope N__law_standards [] (defScope s__law_standards) := ⟨rfl, rfl, rfl, by decide +kernel, rfl, by decide +kernel, by decide +kernel⟩
abbrev s__law_right : Stmt := topS 43
abbrev N__law_right : List Str := ["turn", "standard", "h"]
theorem sc__law_right : FnScope N__law_right ["turn", "standard", "h"] (defScope s__law_right) := ⟨rfl, rfl, rfl, by decide +kernel, rfl, by decide +kernel, by decide +kernel⟩
abbrev s__law_finite : Stmt := topS 44
abbrev N__law_finite : List Str := ["turn", "found", "k"]
theorem sc__law_finite : FnScope N__law_finite ["turn"] (defScope s__law_finite) := ⟨rfl, rfl, rfl, by decide +kernel, rfl, by decide +kernel, by decide +kernel⟩
abbrev s__law_told : Stmt := topS 45
abbrev N__law_told : List Str := ["turn", "due", "told", "error", "other"]
theorem sc__law_told : FnScope N__law_told ["turn", "due"] (defScope s__law_told) := ⟨rfl, rfl, rfl, by decide +kernel, rfl, by decide +kernel, by decide +kernel⟩
abbrev s__law_judged : Stmt := topS 46
abbrev N__law_judged : List Str := ["turn", "standard", "h", "at", "minus", "pairs", "other", "a", "b", "c", "d", "item", "one", "passed", "told", "number"]
theorem sc__law_judged : FnScope N__law_judged ["turn", "standard", "h", "at"] (defScope s__law_judged) := ⟨rfl, rfl, rfl, by decide +kernel, rfl, by decide +kernel, by decide +kernel⟩
abbrev s_law : Stmt := topS 47
abbrev N_law : List Str := ["script", "draws", "most", "h", "back", "standard", "turn", "at", "word", "sign", "shear", "others", "other", "k", "item"]
theorem sc_law : FnScope N_law ["script"] (defScope s_law) := ⟨rfl, rfl, rfl, by decide +kernel, rfl, by decide +kernel, by decide +kernel⟩
structure Top (P : Program) (K : PySem.W.Frag) (mg : Str → Option Value) where
  a_nearest : Addr
  fd_nearest : FuncData
  F_nearest : Fun K "nearest" "nearest" s_nearest a_nearest fd_nearest
  g_nearest : mg "nearest" = some (.ref a_nearest)
  B_nearest : Binds K fd_nearest ["first", "second"] []
  a_is_number : Addr
  fd_is_number : FuncData
  F_is_number : Fun K "is_number" "is_number" s_is_number a_is_number fd_is_number
  g_is_number : mg "is_number" = some (.ref a_is_number)
  B_is_number : Binds K fd_is_number ["value"] []
  a_is_number_tuple : Addr
  fd_is_number_tuple : FuncData
  F_is_number_tuple : Fun K "is_number_tuple" "is_number_tuple" s_is_number_tuple a_is_number_tuple fd_is_number_tuple
  g_is_number_tuple : mg "is_number_tuple" = some (.ref a_is_number_tuple)
  B_is_number_tuple : Binds K fd_is_number_tuple ["value", "width"] []
  a_is_turn : Addr
  fd_is_turn : FuncData
  F_is_turn : Fun K "is_turn" "is_turn" s_is_turn a_is_turn fd_is_turn
  g_is_turn : mg "is_turn" = some (.ref a_is_turn)
  B_is_turn : Binds K fd_is_turn ["value"] []
  a_turn_product : Addr
  fd_turn_product : FuncData
  F_turn_product : Fun K "turn_product" "turn_product" s_turn_product a_turn_product fd_turn_product
  g_turn_product : mg "turn_product" = some (.ref a_turn_product)
  B_turn_product : Binds K fd_turn_product ["first", "second"] []
  a_turn_back : Addr
  fd_turn_back : FuncData
  F_turn_back : Fun K "turn_back" "turn_back" s_turn_back a_turn_back fd_turn_back
  g_turn_back : mg "turn_back" = some (.ref a_turn_back)
  B_turn_back : Binds K fd_turn_back ["turn"] []
  a_turned_by : Addr
  fd_turned_by : FuncData
  F_turned_by : Fun K "turned_by" "turned_by" s_turned_by a_turned_by fd_turned_by
  g_turned_by : mg "turned_by" = some (.ref a_turned_by)
  B_turned_by : Binds K fd_turned_by ["turn", "h"] []
  a_turn_order : Addr
  fd_turn_order : FuncData
  F_turn_order : Fun K "turn_order" "turn_order" s_turn_order a_turn_order fd_turn_order
  g_turn_order : mg "turn_order" = some (.ref a_turn_order)
  B_turn_order : Binds K fd_turn_order ["turn"] []
  a_centring : Addr
  fd_centring : FuncData
  F_centring : Fun K "centring" "centring" s_centring a_centring fd_centring
  g_centring : mg "centring" = some (.ref a_centring)
  B_centring : Binds K fd_centring ["turn"] []
  a_leads : Addr
  fd_leads : FuncData
  F_leads : Fun K "leads" "leads" s_leads a_leads fd_leads
  g_leads : mg "leads" = some (.ref a_leads)
  B_leads : Binds K fd_leads ["first", "second", "h"] []
  a_settled : Addr
  fd_settled : FuncData
  F_settled : Fun K "settled" "settled" s_settled a_settled fd_settled
  g_settled : mg "settled" = some (.ref a_settled)
  B_settled : Binds K fd_settled ["turn"] []
  a_finite_paper : Addr
  fd_finite_paper : FuncData
  F_finite_paper : Fun K "finite_paper" "finite_paper" s_finite_paper a_finite_paper fd_finite_paper
  g_finite_paper : mg "finite_paper" = some (.ref a_finite_paper)
  B_finite_paper : Binds K fd_finite_paper ["turn"] []
  a_shows_finite : Addr
  fd_shows_finite : FuncData
  F_shows_finite : Fun K "shows_finite" "shows_finite" s_shows_finite a_shows_finite fd_shows_finite
  g_shows_finite : mg "shows_finite" = some (.ref a_shows_finite)
  B_shows_finite : Binds K fd_shows_finite ["turn", "standard", "h"] []
  a__law_draws : Addr
  fd__law_draws : FuncData
  F__law_draws : Fun K "_law_draws" "_law_draws" s__law_draws a__law_draws fd__law_draws
  g__law_draws : mg "_law_draws" = some (.ref a__law_draws)
  B__law_draws : Binds K fd__law_draws ["script", "many"] []
  a__law_is_number : Addr
  fd__law_is_number : FuncData
  F__law_is_number : Fun K "_law_is_number" "_law_is_number" s__law_is_number a__law_is_number fd__law_is_number
  g__law_is_number : mg "_law_is_number" = some (.ref a__law_is_number)
  B__law_is_number : Binds K fd__law_is_number ["value"] []
  a__law_is_tuple : Addr
  fd__law_is_tuple : FuncData
  F__law_is_tuple : Fun K "_law_is_tuple" "_law_is_tuple" s__law_is_tuple a__law_is_tuple fd__law_is_tuple
  g__law_is_tuple : mg "_law_is_tuple" = some (.ref a__law_is_tuple)
  B__law_is_tuple : Binds K fd__law_is_tuple ["value", "width"] []
  a__law_same : Addr
  fd__law_same : FuncData
  F__law_same : Fun K "_law_same" "_law_same" s__law_same a__law_same fd__law_same
  g__law_same : mg "_law_same" = some (.ref a__law_same)
  B__law_same : Binds K fd__law_same ["told", "due"] []
  a__law_fresh : Addr
  fd__law_fresh : FuncData
  F__law_fresh : Fun K "_law_fresh" "_law_fresh" s__law_fresh a__law_fresh fd__law_fresh
  g__law_fresh : mg "_law_fresh" = some (.ref a__law_fresh)
  B__law_fresh : Binds K fd__law_fresh ["value"] []
  a__law_even : Addr
  fd__law_even : FuncData
  F__law_even : Fun K "_law_even" "_law_even" s__law_even a__law_even fd__law_even
  g__law_even : mg "_law_even" = some (.ref a__law_even)
  B__law_even : Binds K fd__law_even ["draws", "at", "steps", "most"] []
  a__law_times : Addr
  fd__law_times : FuncData
  F__law_times : Fun K "_law_times" "_law_times" s__law_times a__law_times fd__law_times
  g__law_times : mg "_law_times" = some (.ref a__law_times)
  B__law_times : Binds K fd__law_times ["first", "second"] []
  a__law_word : Addr
  fd__law_word : FuncData
  F__law_word : Fun K "_law_word" "_law_word" s__law_word a__law_word fd__law_word
  g__law_word : mg "_law_word" = some (.ref a__law_word)
  B__law_word : Binds K fd__law_word ["draws", "at", "many", "most"] []
  a__law_of_word : Addr
  fd__law_of_word : FuncData
  F__law_of_word : Fun K "_law_of_word" "_law_of_word" s__law_of_word a__law_of_word fd__law_of_word
  g__law_of_word : mg "_law_of_word" = some (.ref a__law_of_word)
  B__law_of_word : Binds K fd__law_of_word ["word"] []
  a__law_is_turn : Addr
  fd__law_is_turn : FuncData
  F__law_is_turn : Fun K "_law_is_turn" "_law_is_turn" s__law_is_turn a__law_is_turn fd__law_is_turn
  g__law_is_turn : mg "_law_is_turn" = some (.ref a__law_is_turn)
  B__law_is_turn : Binds K fd__law_is_turn ["value"] []
  a__law_leads : Addr
  fd__law_leads : FuncData
  F__law_leads : Fun K "_law_leads" "_law_leads" s__law_leads a__law_leads fd__law_leads
  g__law_leads : mg "_law_leads" = some (.ref a__law_leads)
  B__law_leads : Binds K fd__law_leads ["first", "second", "h"] []
  a__law_by : Addr
  fd__law_by : FuncData
  F__law_by : Fun K "_law_by" "_law_by" s__law_by a__law_by fd__law_by
  g__law_by : mg "_law_by" = some (.ref a__law_by)
  B__law_by : Binds K fd__law_by ["h", "turn"] []
  a__law_standards : Addr
  fd__law_standards : FuncData
  F__law_standards : Fun K "_law_standards" "_law_standards" s__law_standards a__law_standards fd__law_standards
  g__law_standards : mg "_law_standards" = some (.ref a__law_standards)
  B__law_standards : Binds K fd__law_standards [] []
  a__law_right : Addr
  fd__law_right : FuncData
  F__law_right : Fun K "_law_right" "_law_right" s__law_right a__law_right fd__law_right
  g__law_right : mg "_law_right" = some (.ref a__law_right)
  B__law_right : Binds K fd__law_right ["turn", "standard", "h"] []
  a__law_finite : Addr
  fd__law_finite : FuncData
  F__law_finite : Fun K "_law_finite" "_law_finite" s__law_finite a__law_finite fd__law_finite
  g__law_finite : mg "_law_finite" = some (.ref a__law_finite)
  B__law_finite : Binds K fd__law_finite ["turn"] []
  a__law_told : Addr
  fd__law_told : FuncData
  F__law_told : Fun K "_law_told" "_law_told" s__law_told a__law_told fd__law_told
  g__law_told : mg "_law_told" = some (.ref a__law_told)
  B__law_told : Binds K fd__law_told ["turn", "due"] []
  a__law_judged : Addr
  fd__law_judged : FuncData
  F__law_judged : Fun K "_law_judged" "_law_judged" s__law_judged a__law_judged fd__law_judged
  g__law_judged : mg "_law_judged" = some (.ref a__law_judged)
  B__law_judged : Binds K fd__law_judged ["turn", "standard", "h", "at"] []
  a_law : Addr
  fd_law : FuncData
  F_law : Fun K "law" "law" s_law a_law fd_law
  g_law : mg "law" = some (.ref a_law)
  B_law : Binds K fd_law ["script"] []
  a_STILL : Addr
  g_STILL : mg "STILL" = some (.ref a_STILL)
  d_STILL : ∀ H, Dp K H (.ref a_STILL) c_STILL
  a_HALF : Addr
  g_HALF : mg "HALF" = some (.ref a_HALF)
  d_HALF : ∀ H, Dp K H (.ref a_HALF) c_HALF
  a_QUARTER : Addr
  g_QUARTER : mg "QUARTER" = some (.ref a_QUARTER)
  d_QUARTER : ∀ H, Dp K H (.ref a_QUARTER) c_QUARTER
  a_ORDERS : Addr
  g_ORDERS : mg "ORDERS" = some (.ref a_ORDERS)
  k_ORDERS : KI K a_ORDERS [((-1), 3), (0, 4), (1, 6)]
  a_STANDARDS : Addr
  g_STANDARDS : mg "STANDARDS" = some (.ref a_STANDARDS)
  d_STANDARDS : ∀ H, Dp K H (.ref a_STANDARDS) c_STANDARDS
  a_SHIFTS : Addr
  g_SHIFTS : mg "SHIFTS" = some (.ref a_SHIFTS)
  d_SHIFTS : ∀ H, Dp K H (.ref a_SHIFTS) c_SHIFTS
  x_EndlessGroup : Addr
  g_EndlessGroup : mg "EndlessGroup" = some (.ref x_EndlessGroup)
  x_EndlessOrder : Addr
  g_EndlessOrder : mg "EndlessOrder" = some (.ref x_EndlessOrder)
  x_GridError : Addr
  g_GridError : mg "GridError" = some (.ref x_GridError)
  x_NotInCone : Addr
  g_NotInCone : mg "NotInCone" = some (.ref x_NotInCone)
  X_EndlessOrder : Ex0 P K x_EndlessOrder
  C_EndlessOrder : ExcC K x_EndlessOrder
  k_EndlessOrder_EndlessGroup : PySem.W.kitOne K (.ref x_EndlessOrder) (.ref x_EndlessGroup) = some false
  k_EndlessOrder_GridError : PySem.W.kitOne K (.ref x_EndlessOrder) (.ref x_GridError) = some true
  k_EndlessOrder_NotInCone : PySem.W.kitOne K (.ref x_EndlessOrder) (.ref x_NotInCone) = some false
  k_EndlessOrder_ValueError : PySem.W.kitOne K (.ref x_EndlessOrder) (.type "ValueError") = some true
  m_EndlessOrder_EndlessOrder : PySem.W.exmOne K (.ref x_EndlessOrder) (.ref x_EndlessOrder) = some true
  z_super : mg "super" = none
  z_ValueError : mg "ValueError" = none
  z_abs : mg "abs" = none
  z_bool : mg "bool" = none
  z_int : mg "int" = none
  z_isinstance : mg "isinstance" = none
  z_len : mg "len" = none
  z_list : mg "list" = none
  z_range : mg "range" = none
  z_repr : mg "repr" = none
  z_str : mg "str" = none
  z_tuple : mg "tuple" = none
def clT {P : Program} {K : PySem.W.Frag} {mg : Str → Option Value} (T : Top P K mg) : Str → Value := fun t => if t = "EndlessOrder" then .ref T.x_EndlessOrder else .none
theorem clT_EndlessOrder {P : Program} {K : PySem.W.Frag} {mg : Str → Option Value} (T : Top P K mg) : clT T "EndlessOrder" = .ref T.x_EndlessOrder := by first | rfl | simp [clT]
end Lk76
set_option maxRecDepth 100000
set_option maxHeartbeats 4000000
namespace Lk76
open PySem PySem.Spec PyProof.Rows L2 F3
section
variable {P : Program} {w : World} {K : PySem.W.Frag} {mg : Str → Option Value} {base : Heap}
theorem ok_nearest (T : Top P K mg) : FnG P w K mg base 1 T.a_nearest T.fd_nearest ["first", "second"] (spD K 2 f_nearest) := by
  unfold f_nearest b_nearest
  refine fnG_data T.F_nearest sc_nearest rfl rfl fun cdv A outer s H hr hG => ?_
  refine ⟨_, (pss_cons (ps_if (pt_cmpR op_lt (pv 1) pe_int (nomark _))
  (pss_cons (ps_set (i := 0) sc_nearest.nd rfl (Or.inl rfl) (pe_un un_neg (pv 0)))
 (pss_one (ps_set (i := 1) sc_nearest.nd rfl (Or.inl rfl) (pe_un un_neg (pv 1)))))
  pss_nil)
 (pss_one (ps_ret (pe_op op_fdivA (pe_op op_add4 (pe_op op_mulW pe_int (pv 0)) (pv 1)) (pe_op op_mulW pe_int (pv 1)))))), ?_⟩
  exact (sok_seq (sok_if (tok_test (eok_op r2_lt (eok_var 1) (eok_int 0)))
  (sok_seq (sok_set 0 (eok_un r1_neg (eok_var 0)))
 (sok_set 1 (eok_un r1_neg (eok_var 1))))
  sok_pass)
 (sok_ret (eok_op r2_fdiv (eok_op r2_add (eok_op r2_mulI (eok_int 2) (eok_var 0)) (eok_var 1)) (eok_op r2_mulI (eok_int 2) (eok_var 1)))))
end
section
variable {P : Program} {w : World} {K : PySem.W.Frag} {mg : Str → Option Value} {base : Heap}
theorem ok_is_number (T : Top P K mg) : FnG P w K mg base 1 T.a_is_number T.fd_is_number ["value"] (spD K 1 f_is_number) := by
  unfold f_is_number b_is_number
  refine fnG_data T.F_is_number sc_is_number rfl rfl fun cdv A outer s H hr hG => ?_
  refine ⟨_, (pss_one (ps_ret (pe_and (pe_callB call_isi (by rfl) T.z_isinstance bt_isinstance (pa_cons (pv 0) (pa_cons (pe_bltn (v := .ty "int") (by rfl) T.z_int bt_int rfl) pa_nil))) (pe_one (pe_not (pe_callB call_isi (by rfl) T.z_isinstance bt_isinstance (pa_cons (pv 0) (pa_cons (pe_bltn (v := .ty "bool") (by rfl) T.z_bool bt_bool rfl) pa_nil)))))))), ?_⟩
  exact (sok_ret (eok_and (eok_isi .int (eok_var 0)) (eok_not (eok_isi .bool (eok_var 0)))))
end
section
variable {P : Program} {w : World} {K : PySem.W.Frag} {mg : Str → Option Value} {base : Heap}
theorem ok_is_number_tuple (T : Top P K mg) : FnG P w K mg base 2 T.a_is_number_tuple T.fd_is_number_tuple ["value", "width"] (spD K 2 f_is_number_tuple) := by
  unfold f_is_number_tuple b_is_number_tuple
  refine fnG_data T.F_is_number_tuple sc_is_number_tuple rfl rfl fun cdv A outer s H hr hG => ?_
  refine ⟨_, (pss_cons (ps_if (PW.pt (pw_or (pt_not (pt_val (pe_callB call_isi (by rfl) T.z_isinstance bt_isinstance (pa_cons (pv 0) (pa_cons (pe_bltn (v := .ty "tuple") (by rfl) T.z_tuple bt_tuple rfl) pa_nil))))) (pw_or1 (pt_cmpR (op_neA hr.units) (pe_callB call_lenA (by rfl) T.z_len bt_len (pa_cons (pv 0) pa_nil)) (pv 1) (nomark _)))))
  (pss_one (ps_ret pe_bl))
  pss_nil)
 (pss_cons (ps_for PassesOwn.never rfl (pi_seq (pv 0)) (pg_name (i := 2) sc_is_number_tuple.nd rfl (Or.inl rfl))
  (pss_one (ps_if (pt_not (pt_val (pe_callG (ok_is_number T) (hr.mono (by omega)) hG (by rfl) T.g_is_number T.F_is_number.kp T.B_is_number (pa_cons (pv 2) pa_nil))))
  (pss_one (ps_ret pe_bl))
  pss_nil)))
 (pss_one (ps_ret pe_bl)))), ?_⟩
  exact (sok_seq (sok_if (tok_or (tok_not (tok_val (eok_isi .tuple (eok_var 0)))) (tok_test (eok_op r2_ne (eok_callB F3.cr_len (aok_cons (eok_var 0) aok_nil)) (eok_var 1))))
  (sok_ret (eok_bool false))
  sok_pass)
 (sok_seq (sok_fo [2] (sok_pre [2] (sok_for (iok_seq (eok_var 0)) (gok_name 2)
  (sok_fo [2] (sok_if (tok_not (tok_val (eok_fn (aok_cons (eok_var 2) aok_nil) (an_cons an_nil))))
  (sok_ret (eok_bool false))
  sok_pass)))))
 (sok_ret (eok_bool true))))
end
section
variable {P : Program} {w : World} {K : PySem.W.Frag} {mg : Str → Option Value} {base : Heap}
theorem ok_is_turn (T : Top P K mg) : FnG P w K mg base 3 T.a_is_turn T.fd_is_turn ["value"] (spD K 1 f_is_turn) := by
  unfold f_is_turn b_is_turn
  refine fnG_data T.F_is_turn sc_is_turn rfl rfl fun cdv A outer s H hr hG => ?_
  refine ⟨_, (pss_one (ps_ret (pe_and (pe_callG (ok_is_number_tuple T) (hr.mono (by omega)) hG (by rfl) T.g_is_number_tuple T.F_is_number_tuple.kp T.B_is_number_tuple (pa_cons (pv 0) (pa_cons pe_int pa_nil))) (pe_one (pe_cmpR (op_eqA hr.units) (pe_op op_sub (pe_op op_mulW (pe_ix ix_seq (pv 0) pe_int (fun _ _ => rfl)) (pe_ix ix_seq (pv 0) pe_int (fun _ _ => rfl))) (pe_op op_mulW (pe_ix ix_seq (pv 0) pe_int (fun _ _ => rfl)) (pe_ix ix_seq (pv 0) pe_int (fun _ _ => rfl)))) pe_int (nomark _)))))), ?_⟩
  exact (sok_ret (eok_and (eok_fn (aok_cons (eok_var 0) (aok_cons (eok_int 4) aok_nil)) (an_cons (an_cons an_nil))) (eok_op r2_eq (eok_op r2_sub (eok_op r2_mulI (eok_op r2_ix (eok_var 0) (eok_int 0)) (eok_op r2_ix (eok_var 0) (eok_int 3))) (eok_op r2_mulI (eok_op r2_ix (eok_var 0) (eok_int 1)) (eok_op r2_ix (eok_var 0) (eok_int 2)))) (eok_int 1))))
end
section
variable {P : Program} {w : World} {K : PySem.W.Frag} {mg : Str → Option Value} {base : Heap}
theorem ok_turn_product (T : Top P K mg) : FnG P w K mg base 1 T.a_turn_product T.fd_turn_product ["first", "second"] (spD K 2 f_turn_product) := by
  unfold f_turn_product b_turn_product
  refine fnG_data T.F_turn_product sc_turn_product rfl rfl fun cdv A outer s H hr hG => ?_
  refine ⟨_, (pss_cons (ps_asg (pv 0) (pg_tup rfl (pgs_cons (pg_name (i := 2) sc_turn_product.nd rfl (Or.inl rfl)) (pgs_cons (pg_name (i := 3) sc_turn_product.nd rfl (Or.inl rfl)) (pgs_cons (pg_name (i := 4) sc_turn_product.nd rfl (Or.inl rfl)) (pgs_cons (pg_name (i := 5) sc_turn_product.nd rfl (Or.inl rfl)) pgs_nil))))))
 (pss_cons (ps_asg (pv 1) (pg_tup rfl (pgs_cons (pg_name (i := 6) sc_turn_product.nd rfl (Or.inl rfl)) (pgs_cons (pg_name (i := 7) sc_turn_product.nd rfl (Or.inl rfl)) (pgs_cons (pg_name (i := 8) sc_turn_product.nd rfl (Or.inl rfl)) (pgs_cons (pg_name (i := 9) sc_turn_product.nd rfl (Or.inl rfl)) pgs_nil))))))
 (pss_one (ps_ret (pe_tup (pa_cons (pe_op op_add4 (pe_op op_mulW (pv 2) (pv 6)) (pe_op op_mulW (pv 3) (pv 8))) (pa_cons (pe_op op_add4 (pe_op op_mulW (pv 2) (pv 7)) (pe_op op_mulW (pv 3) (pv 9))) (pa_cons (pe_op op_add4 (pe_op op_mulW (pv 4) (pv 6)) (pe_op op_mulW (pv 5) (pv 8))) (pa_cons (pe_op op_add4 (pe_op op_mulW (pv 4) (pv 7)) (pe_op op_mulW (pv 5) (pv 9))) pa_nil))))))))), ?_⟩
  exact (sok_seq (sok_unp (gok_tup (gsok_cons (gok_name 2) (gsok_cons (gok_name 3) (gsok_cons (gok_name 4) (gsok_cons (gok_name 5) gsok_nil)))) (gs_len (gs_len (gs_len (gs_len gs_len0 _) _) _) _)) (eok_var 0))
 (sok_seq (sok_unp (gok_tup (gsok_cons (gok_name 6) (gsok_cons (gok_name 7) (gsok_cons (gok_name 8) (gsok_cons (gok_name 9) gsok_nil)))) (gs_len (gs_len (gs_len (gs_len gs_len0 _) _) _) _)) (eok_var 1))
 (sok_ret (eok_tup (aok_cons (eok_op r2_add (eok_op r2_mulI (eok_var 2) (eok_var 6)) (eok_op r2_mulI (eok_var 3) (eok_var 8))) (aok_cons (eok_op r2_add (eok_op r2_mulI (eok_var 2) (eok_var 7)) (eok_op r2_mulI (eok_var 3) (eok_var 9))) (aok_cons (eok_op r2_add (eok_op r2_mulI (eok_var 4) (eok_var 6)) (eok_op r2_mulI (eok_var 5) (eok_var 8))) (aok_cons (eok_op r2_add (eok_op r2_mulI (eok_var 4) (eok_var 7)) (eok_op r2_mulI (eok_var 5) (eok_var 9))) aok_nil))))))))
end
section
variable {P : Program} {w : World} {K : PySem.W.Frag} {mg : Str → Option Value} {base : Heap}
theorem ok_turn_back (T : Top P K mg) : FnG P w K mg base 1 T.a_turn_back T.fd_turn_back ["turn"] (spD K 1 f_turn_back) := by
  unfold f_turn_back b_turn_back
  refine fnG_data T.F_turn_back sc_turn_back rfl rfl fun cdv A outer s H hr hG => ?_
  refine ⟨_, (pss_cons (ps_asg (pv 0) (pg_tup rfl (pgs_cons (pg_name (i := 1) sc_turn_back.nd rfl (Or.inl rfl)) (pgs_cons (pg_name (i := 2) sc_turn_back.nd rfl (Or.inl rfl)) (pgs_cons (pg_name (i := 3) sc_turn_back.nd rfl (Or.inl rfl)) (pgs_cons (pg_name (i := 4) sc_turn_back.nd rfl (Or.inl rfl)) pgs_nil))))))
 (pss_one (ps_ret (pe_tup (pa_cons (pv 4) (pa_cons (pe_un un_neg (pv 2)) (pa_cons (pe_un un_neg (pv 3)) (pa_cons (pv 1) pa_nil)))))))), ?_⟩
  exact (sok_seq (sok_unp (gok_tup (gsok_cons (gok_name 1) (gsok_cons (gok_name 2) (gsok_cons (gok_name 3) (gsok_cons (gok_name 4) gsok_nil)))) (gs_len (gs_len (gs_len (gs_len gs_len0 _) _) _) _)) (eok_var 0))
 (sok_ret (eok_tup (aok_cons (eok_var 4) (aok_cons (eok_un r1_neg (eok_var 2)) (aok_cons (eok_un r1_neg (eok_var 3)) (aok_cons (eok_var 1) aok_nil)))))))
end
end Lk76
set_option maxRecDepth 100000
set_option maxHeartbeats 4000000
namespace Lk76
open PySem PySem.Spec PyProof.Rows L2 F3
section
variable {P : Program} {w : World} {K : PySem.W.Frag} {mg : Str → Option Value} {base : Heap}
theorem ok_turned_by (T : Top P K mg) : FnG P w K mg base 2 T.a_turned_by T.fd_turned_by ["turn", "h"] (spD K 2 f_turned_by) := by
  unfold f_turned_by b_turned_by
  refine fnG_data T.F_turned_by sc_turned_by rfl rfl fun cdv A outer s H hr hG => ?_
  refine ⟨_, (pss_one (ps_ret (pe_callG (ok_turn_product T) (hr.mono (by omega)) hG (by rfl) T.g_turn_product T.F_turn_product.kp T.B_turn_product (pa_cons (pe_callG (ok_turn_product T) (hr.mono (by omega)) hG (by rfl) T.g_turn_product T.F_turn_product.kp T.B_turn_product (pa_cons (pv 1) (pa_cons (pv 0) pa_nil))) (pa_cons (pe_callG (ok_turn_back T) (hr.mono (by omega)) hG (by rfl) T.g_turn_back T.F_turn_back.kp T.B_turn_back (pa_cons (pv 1) pa_nil)) pa_nil))))), ?_⟩
  exact (sok_ret (eok_fn (aok_cons (eok_fn (aok_cons (eok_var 1) (aok_cons (eok_var 0) aok_nil)) (an_cons (an_cons an_nil))) (aok_cons (eok_fn (aok_cons (eok_var 1) aok_nil) (an_cons an_nil)) aok_nil)) (an_cons (an_cons an_nil))))
end
section
variable {P : Program} {w : World} {K : PySem.W.Frag} {mg : Str → Option Value} {base : Heap}
theorem ok_turn_order (T : Top P K mg) : FnG P w K mg base 1 T.a_turn_order T.fd_turn_order ["turn"] (spD K 1 f_turn_order) := by
  unfold f_turn_order b_turn_order
  refine fnG_data T.F_turn_order sc_turn_order rfl rfl fun cdv A outer s H hr hG => ?_
  refine ⟨_, (pss_cons (ps_if (pt_cmpR (op_eqA hr.units) (pv 0) (pe_glob (v := .ref T.a_STILL) (by rfl) T.g_STILL rfl) (nomark _))
  (pss_one (ps_ret pe_int))
  pss_nil)
 (pss_cons (ps_if (pt_cmpR (op_eqA hr.units) (pv 0) (pe_glob (v := .ref T.a_HALF) (by rfl) T.g_HALF rfl) (nomark _))
  (pss_one (ps_ret pe_int))
  pss_nil)
 (pss_one (ps_ret (pe_kget T.k_ORDERS (pe_glob (v := .ref T.a_ORDERS) (by rfl) T.g_ORDERS rfl) (pe_op op_add4 (pe_ix ix_seq (pv 0) pe_int (fun _ _ => rfl)) (pe_ix ix_seq (pv 0) pe_int (fun _ _ => rfl))) pe_int ⟨by rfl, by rfl, by rfl, by rfl⟩))))), ?_⟩
  exact (sok_seq (sok_if (tok_test (eok_op r2_eq (eok_var 0) (eok_const T.d_STILL)))
  (sok_ret (eok_int 1))
  sok_pass)
 (sok_seq (sok_if (tok_test (eok_op r2_eq (eok_var 0) (eok_const T.d_HALF)))
  (sok_ret (eok_int 2))
  sok_pass)
 (sok_ret (eok_kget (eok_op r2_add (eok_op r2_ix (eok_var 0) (eok_int 0)) (eok_op r2_ix (eok_var 0) (eok_int 3))) (eok_int 0)))))
end
section
variable {P : Program} {w : World} {K : PySem.W.Frag} {mg : Str → Option Value} {base : Heap}
theorem ok_centring (T : Top P K mg) : FnG P w K mg base 2 T.a_centring T.fd_centring ["turn"] (spD K 1 f_centring) := by
  unfold f_centring b_centring
  refine fnG_data T.F_centring sc_centring rfl rfl fun cdv A outer s H hr hG => ?_
  refine ⟨_, (pss_one (ps_ret (pe_tup (pa_cons pe_int (pa_cons (pe_un un_neg (pe_callG (ok_nearest T) (hr.mono (by omega)) hG (by rfl) T.g_nearest T.F_nearest.kp T.B_nearest (pa_cons (pe_op op_sub (pe_ix ix_seq (pv 0) pe_int (fun _ _ => rfl)) (pe_ix ix_seq (pv 0) pe_int (fun _ _ => rfl))) (pa_cons (pe_op op_mulW pe_int (pe_ix ix_seq (pv 0) pe_int (fun _ _ => rfl))) pa_nil)))) (pa_cons pe_int (pa_cons pe_int pa_nil))))))), ?_⟩
  exact (sok_ret (eok_tup (aok_cons (eok_int 1) (aok_cons (eok_un r1_neg (eok_fn (aok_cons (eok_op r2_sub (eok_op r2_ix (eok_var 0) (eok_int 0)) (eok_op r2_ix (eok_var 0) (eok_int 3))) (aok_cons (eok_op r2_mulI (eok_int 2) (eok_op r2_ix (eok_var 0) (eok_int 2))) aok_nil)) (an_cons (an_cons an_nil)))) (aok_cons (eok_int 0) (aok_cons (eok_int 1) aok_nil))))))
end
section
variable {P : Program} {w : World} {K : PySem.W.Frag} {mg : Str → Option Value} {base : Heap}
theorem ok_leads (T : Top P K mg) : FnG P w K mg base 2 T.a_leads T.fd_leads ["first", "second", "h"] (spD K 3 f_leads) := by
  unfold f_leads b_leads
  refine fnG_data T.F_leads sc_leads rfl rfl fun cdv A outer s H hr hG => ?_
  refine ⟨_, (pss_one (ps_ret (pe_cmpR (op_eqA hr.units) (pe_callG (ok_turn_product T) (hr.mono (by omega)) hG (by rfl) T.g_turn_product T.F_turn_product.kp T.B_turn_product (pa_cons (pv 2) (pa_cons (pv 0) pa_nil))) (pe_callG (ok_turn_product T) (hr.mono (by omega)) hG (by rfl) T.g_turn_product T.F_turn_product.kp T.B_turn_product (pa_cons (pv 1) (pa_cons (pv 2) pa_nil))) (nomark _)))), ?_⟩
  exact (sok_ret (eok_op r2_eq (eok_fn (aok_cons (eok_var 2) (aok_cons (eok_var 0) aok_nil)) (an_cons (an_cons an_nil))) (eok_fn (aok_cons (eok_var 1) (aok_cons (eok_var 2) aok_nil)) (an_cons (an_cons an_nil)))))
end
section
variable {P : Program} {w : World} {K : PySem.W.Frag} {mg : Str → Option Value} {base : Heap}
theorem ok_settled (T : Top P K mg) : FnG P w K mg base 3 T.a_settled T.fd_settled ["turn"] (spD K 1 f_settled) := by
  unfold f_settled b_settled
  refine fnG_data T.F_settled sc_settled rfl rfl fun cdv A outer s H hr hG => ?_
  refine ⟨_, (pss_cons (ps_set (i := 1) sc_settled.nd rfl (Or.inl rfl) (pe_callG (ok_centring T) (hr.mono (by omega)) hG (by rfl) T.g_centring T.F_centring.kp T.B_centring (pa_cons (pv 0) pa_nil)))
 (pss_cons (ps_set (i := 2) sc_settled.nd rfl (Or.inl rfl) (pe_callG (ok_turned_by T) (hr.mono (by omega)) hG (by rfl) T.g_turned_by T.F_turned_by.kp T.B_turned_by (pa_cons (pv 0) (pa_cons (pv 1) pa_nil))))
 (pss_cons (ps_while PassesOwn.never (pt_cmpR op_lt (pe_callB call_abs (by rfl) T.z_abs bt_abs (pa_cons (pe_ix ix_seq (pv 2) pe_int (fun _ _ => rfl)) pa_nil)) (pe_callB call_abs (by rfl) T.z_abs bt_abs (pa_cons (pe_ix ix_seq (pv 2) pe_int (fun _ _ => rfl)) pa_nil)) (nomark _))
  (pss_cons (ps_set (i := 3) sc_settled.nd rfl (Or.inl rfl) (pe_callG (ok_turned_by T) (hr.mono (by omega)) hG (by rfl) T.g_turned_by T.F_turned_by.kp T.B_turned_by (pa_cons (pv 2) (pa_cons (pe_glob (v := .ref T.a_QUARTER) (by rfl) T.g_QUARTER rfl) pa_nil))))
 (pss_cons (ps_set (i := 4) sc_settled.nd rfl (Or.inl rfl) (pe_callG (ok_turn_product T) (hr.mono (by omega)) hG (by rfl) T.g_turn_product T.F_turn_product.kp T.B_turn_product (pa_cons (pe_callG (ok_centring T) (hr.mono (by omega)) hG (by rfl) T.g_centring T.F_centring.kp T.B_centring (pa_cons (pv 3) pa_nil)) (pa_cons (pe_glob (v := .ref T.a_QUARTER) (by rfl) T.g_QUARTER rfl) pa_nil))))
 (pss_cons (ps_set (i := 2) sc_settled.nd rfl (Or.inl rfl) (pe_callG (ok_turned_by T) (hr.mono (by omega)) hG (by rfl) T.g_turned_by T.F_turned_by.kp T.B_turned_by (pa_cons (pv 2) (pa_cons (pv 4) pa_nil))))
 (pss_one (ps_set (i := 1) sc_settled.nd rfl (Or.inl rfl) (pe_callG (ok_turn_product T) (hr.mono (by omega)) hG (by rfl) T.g_turn_product T.F_turn_product.kp T.B_turn_product (pa_cons (pv 4) (pa_cons (pv 1) pa_nil)))))))))
 (pss_one (ps_ret (pe_tup (pa_cons (pv 2) (pa_cons (pv 1) pa_nil)))))))), ?_⟩
  exact (sok_seq (sok_set 1 (eok_fn (aok_cons (eok_var 0) aok_nil) (an_cons an_nil)))
 (sok_seq (sok_set 2 (eok_fn (aok_cons (eok_var 0) (aok_cons (eok_var 1) aok_nil)) (an_cons (an_cons an_nil))))
 (sok_seq (sok_fo [3, 4] (sok_pre [3, 4] (sok_while (tok_test (eok_op r2_lt (eok_callB F3.cr_abs (aok_cons (eok_op r2_ix (eok_var 2) (eok_int 1)) aok_nil)) (eok_callB F3.cr_abs (aok_cons (eok_op r2_ix (eok_var 2) (eok_int 2)) aok_nil))))
  (sok_fo [3, 4] (sok_seq (sok_set 3 (eok_fn (aok_cons (eok_var 2) (aok_cons (eok_const T.d_QUARTER) aok_nil)) (an_cons (an_cons an_nil))))
 (sok_seq (sok_set 4 (eok_fn (aok_cons (eok_fn (aok_cons (eok_var 3) aok_nil) (an_cons an_nil)) (aok_cons (eok_const T.d_QUARTER) aok_nil)) (an_cons (an_cons an_nil))))
 (sok_seq (sok_set 2 (eok_fn (aok_cons (eok_var 2) (aok_cons (eok_var 4) aok_nil)) (an_cons (an_cons an_nil))))
 (sok_set 1 (eok_fn (aok_cons (eok_var 4) (aok_cons (eok_var 1) aok_nil)) (an_cons (an_cons an_nil)))))))))))
 (sok_ret (eok_tup (aok_cons (eok_var 2) (aok_cons (eok_var 1) aok_nil)))))))
end
section
variable {P : Program} {w : World} {K : PySem.W.Frag} {mg : Str → Option Value} {base : Heap}
theorem ok_finite_paper (T : Top P K mg) : FnX P w K mg base 4 T.a_finite_paper T.fd_finite_paper ["turn"] (spX K (clT T) 1 f_finite_paper) := by
  unfold f_finite_paper b_finite_paper
  refine fnX_data T.F_finite_paper sc_finite_paper rfl rfl fun cdv A outer s H E hr hG => ?_
  refine ⟨_, (pss_cons (ps_if (pt_cmpR (op_eqA hr.units) (pe_callG (ok_turn_order T) (hr.mono (by omega)) hG (by rfl) T.g_turn_order T.F_turn_order.kp T.B_turn_order (pa_cons (pv 0) pa_nil)) pe_int (nomark _))
  (pss_one (ps_raise0 rfl (L2N.takes_of rfl rfl rfl rfl) T.X_EndlessOrder hr T.g_EndlessOrder T.z_super))
  pss_nil)
 (pss_cons (ps_if (pt_cmpR (op_eqA hr.units) (pe_ix ix_seq (pv 0) pe_int (fun _ _ => rfl)) pe_int (nomark _))
  (pss_one (ps_ret (pe_tup (pa_cons (pv 0) (pa_cons (pe_glob (v := .ref T.a_STILL) (by rfl) T.g_STILL rfl) pa_nil)))))
  pss_nil)
 (pss_cons (ps_asg (pe_callG (ok_settled T) (hr.mono (by omega)) hG (by rfl) T.g_settled T.F_settled.kp T.B_settled (pa_cons (pv 0) pa_nil)) (pg_tup rfl (pgs_cons (pg_name (i := 1) sc_finite_paper.nd rfl (Or.inr rfl)) (pgs_cons (pg_name (i := 2) sc_finite_paper.nd rfl (Or.inl rfl)) pgs_nil))))
 (pss_cons (ps_set (i := 3) sc_finite_paper.nd rfl (Or.inl rfl) (pe_ix ix_seq (pe_lc (own := [("item", 4)]) (g := (gName 4)) (tt := (tTest (tOp (rInA K false) (tCallD (spD K 2 f_turned_by) (tCons (tVar 1) (tCons (tVar 4) tNil))) (tC (.ref T.a_STANDARDS))))) (te := (tVar 4)) rfl sc_finite_paper.nd (pi_seq (pe_glob (v := .ref T.a_SHIFTS) (by rfl) T.g_SHIFTS rfl)) (blkOk_by (own := [("item", 4)]) (N := N_finite_paper) (sc := defScope s_finite_paper) (by decide +kernel)) (fun _ _ _ _ _ => by exact (pg_name (i := 4) sc_finite_paper.nd rfl (Or.inl rfl))) (fun _ _ _ _ _ => by exact (pts_one (pt_cmpR (op_inA (ru65 hr)) (pe_callG (ok_turned_by T) (hr.mono (by omega)) hG (by rfl) T.g_turned_by T.F_turned_by.kp T.B_turned_by (pa_cons (pv 1) (pa_cons (pv 4) pa_nil))) (pe_glob (v := .ref T.a_STANDARDS) (by rfl) T.g_STANDARDS rfl) (by rfl)))) (fun _ _ _ _ _ => by exact (pv 4))) pe_int (fun _ _ => rfl)))
 (pss_one (ps_ret (pe_tup (pa_cons (pe_callG (ok_turned_by T) (hr.mono (by omega)) hG (by rfl) T.g_turned_by T.F_turned_by.kp T.B_turned_by (pa_cons (pv 1) (pa_cons (pv 3) pa_nil))) (pa_cons (pe_callG (ok_turn_product T) (hr.mono (by omega)) hG (by rfl) T.g_turn_product T.F_turn_product.kp T.B_turn_product (pa_cons (pv 3) (pa_cons (pv 2) pa_nil))) pa_nil))))))))), ?_⟩
  exact (sok_seq (sok_if (tok_test (eok_op r2_eq (eok_fn (aok_cons (eok_var 0) aok_nil) (an_cons an_nil)) (eok_int 0)))
  (sok_raiseD "EndlessOrder" (clT_EndlessOrder T))
  sok_pass)
 (sok_seq (sok_if (tok_test (eok_op r2_eq (eok_op r2_ix (eok_var 0) (eok_int 2)) (eok_int 0)))
  (sok_ret (eok_tup (aok_cons (eok_var 0) (aok_cons (eok_const T.d_STILL) aok_nil))))
  sok_pass)
 (sok_seq (sok_unp (gok_tup (gsok_cons (gok_name 1) (gsok_cons (gok_name 2) gsok_nil)) (gs_len (gs_len gs_len0 _) _)) (eok_fn (aok_cons (eok_var 0) aok_nil) (an_cons an_nil)))
 (sok_seq (sok_set 3 (eok_op r2_ix (eok_lc (iok_seq (eok_const T.d_SHIFTS)) (gok_name 4) (tok_test (eok_op (r2_in false) (eok_fn (aok_cons (eok_var 1) (aok_cons (eok_var 4) aok_nil)) (an_cons (an_cons an_nil))) (eok_const T.d_STANDARDS))) (eok_var 4) (by decide)) (eok_int 0)))
 (sok_ret (eok_tup (aok_cons (eok_fn (aok_cons (eok_var 1) (aok_cons (eok_var 3) aok_nil)) (an_cons (an_cons an_nil))) (aok_cons (eok_fn (aok_cons (eok_var 3) (aok_cons (eok_var 2) aok_nil)) (an_cons (an_cons an_nil))) aok_nil))))))))
end
end Lk76
set_option maxRecDepth 100000
set_option maxHeartbeats 4000000
namespace Lk76
open PySem PySem.Spec PyProof.Rows L2 F3
section
variable {P : Program} {w : World} {K : PySem.W.Frag} {mg : Str → Option Value} {base : Heap}
theorem ok_shows_finite (T : Top P K mg) : FnG P w K mg base 4 T.a_shows_finite T.fd_shows_finite ["turn", "standard", "h"] (spD K 3 f_shows_finite) := by
  unfold f_shows_finite b_shows_finite
  refine fnG_data T.F_shows_finite sc_shows_finite rfl rfl fun cdv A outer s H hr hG => ?_
  refine ⟨_, (pss_cons (ps_if (PW.pt (pw_or (pt_not (pt_val (pe_callG (ok_is_number_tuple T) (hr.mono (by omega)) hG (by rfl) T.g_is_number_tuple T.F_is_number_tuple.kp T.B_is_number_tuple (pa_cons (pv 1) (pa_cons pe_int pa_nil))))) (pw_or (pt_cmpR (op_notInA (ru65 hr)) (pv 1) (pe_glob (v := .ref T.a_STANDARDS) (by rfl) T.g_STANDARDS rfl) (by rfl)) (pw_or1 (pt_not (pt_val (pe_callG (ok_is_turn T) (hr.mono (by omega)) hG (by rfl) T.g_is_turn T.F_is_turn.kp T.B_is_turn (pa_cons (pv 2) pa_nil))))))))
  (pss_one (ps_ret pe_bl))
  pss_nil)
 (pss_one (ps_ret (pe_callG (ok_leads T) (hr.mono (by omega)) hG (by rfl) T.g_leads T.F_leads.kp T.B_leads (pa_cons (pv 0) (pa_cons (pv 1) (pa_cons (pv 2) pa_nil))))))), ?_⟩
  exact (sok_seq (sok_if (tok_or (tok_not (tok_val (eok_fn (aok_cons (eok_var 1) (aok_cons (eok_int 4) aok_nil)) (an_cons (an_cons an_nil))))) (tok_or (tok_test (eok_op (r2_in true) (eok_var 1) (eok_const T.d_STANDARDS))) (tok_not (tok_val (eok_fn (aok_cons (eok_var 2) aok_nil) (an_cons an_nil))))))
  (sok_ret (eok_bool false))
  sok_pass)
 (sok_ret (eok_fn (aok_cons (eok_var 0) (aok_cons (eok_var 1) (aok_cons (eok_var 2) aok_nil))) (an_cons (an_cons (an_cons an_nil))))))
end
section
variable {P : Program} {w : World} {K : PySem.W.Frag} {mg : Str → Option Value} {base : Heap}
theorem ok__law_draws (T : Top P K mg) : FnG P w K mg base 1 T.a__law_draws T.fd__law_draws ["script", "many"] (spD K 2 f__law_draws) := by
  unfold f__law_draws b__law_draws
  refine fnG_data T.F__law_draws sc__law_draws rfl rfl fun cdv A outer s H hr hG => ?_
  refine ⟨_, (pss_cons (ps_set (i := 2) sc__law_draws.nd rfl (Or.inl rfl) (pe_lst pa_nil))
 (pss_cons (ps_for PassesOwn.never rfl (pi_seq (pe_slice sl_2 (pv 0) po_none (po_some pe_int))) (pg_name (i := 3) sc__law_draws.nd rfl (Or.inl rfl))
  (pss_cons (ps_set (i := 4) sc__law_draws.nd rfl (Or.inl rfl) (pe_callB call_abs (by rfl) T.z_abs bt_abs (pa_cons (pe_callTy call_int1 (by rfl) T.z_int bt_int (pa_cons (pv 3) pa_nil)) pa_nil)))
 (pss_one (ps_if (pt_cmpR op_ge (pv 4) (pe_op op_pow pe_int pe_int) (nomark _))
  (pss_one (ps_for PassesOwn.never rfl (pi_range1 (by rfl) T.z_range (pa_cons pe_int pa_nil)) (pg_name (i := 5) sc__law_draws.nd rfl (Or.inl rfl))
  (pss_one (ps_if (pt_cmpR op_gt (pv 4) pe_int (nomark _))
  (pss_cons (ps_expr (pe_bm PySem.F.plainAttrs_list PySem.F.slot_list_append PySem.F.type_list_append mt_append (pv 2) (pa_cons (pe_op op_modN (pv 4) pe_int) pa_nil)))
 (pss_one (ps_set (i := 4) sc__law_draws.nd rfl (Or.inl rfl) (pe_op op_fdivA (pv 4) pe_int))))
  pss_nil))))
  (pss_cons (ps_set (i := 6) sc__law_draws.nd rfl (Or.inl rfl) (pe_op op_modN (pe_op op_add4 (pe_op op_add4 (pe_op op_mulW (pv 4) pe_int) (pe_op op_mulW pe_int (pe_callB call_lenA (by rfl) T.z_len bt_len (pa_cons (pv 2) pa_nil)))) pe_int) pe_int))
 (pss_one (ps_for PassesOwn.never rfl (pi_range1 (by rfl) T.z_range (pa_cons pe_int pa_nil)) (pg_name (i := 5) sc__law_draws.nd rfl (Or.inl rfl))
  (pss_cons (ps_set (i := 6) sc__law_draws.nd rfl (Or.inl rfl) (pe_op op_modN (pe_op op_add4 (pe_op op_add4 (pe_op op_add4 (pe_op op_mulW (pv 6) pe_int) (pe_op op_fdivA (pv 6) pe_int)) (pe_op op_mulW pe_int (pv 5))) pe_int) pe_int))
 (pss_one (ps_expr (pe_bm PySem.F.plainAttrs_list PySem.F.slot_list_append PySem.F.type_list_append mt_append (pv 2) (pa_cons (pe_op op_modN (pe_op op_fdivA (pv 6) pe_int) pe_int) pa_nil))))))))))))
 (pss_cons (ps_for PassesOwn.never rfl (pi_range1 (by rfl) T.z_range (pa_cons (pv 1) pa_nil)) (pg_name (i := 5) sc__law_draws.nd rfl (Or.inl rfl))
  (pss_one (ps_if (pt_cmpR op_lt (pe_callB call_lenA (by rfl) T.z_len bt_len (pa_cons (pv 2) pa_nil)) (pv 1) (nomark _))
  (pss_cons (ps_set (i := 7) sc__law_draws.nd rfl (Or.inl rfl) pe_int)
 (pss_cons (ps_if (pt_cmpR op_gt (pe_callB call_lenA (by rfl) T.z_len bt_len (pa_cons (pv 2) pa_nil)) pe_int (nomark _))
  (pss_one (ps_set (i := 7) sc__law_draws.nd rfl (Or.inl rfl) (pe_ix ix_seq (pv 2) (pe_op op_modN (pv 5) (pe_callB call_lenA (by rfl) T.z_len bt_len (pa_cons (pv 2) pa_nil))) (fun _ _ => rfl))))
  pss_nil)
 (pss_one (ps_expr (pe_bm PySem.F.plainAttrs_list PySem.F.slot_list_append PySem.F.type_list_append mt_append (pv 2) (pa_cons (pe_op op_modN (pe_op op_add4 (pe_op op_add4 (pe_op op_mulW (pv 7) pe_int) (pe_op op_mulW pe_int (pe_callB call_lenA (by rfl) T.z_len bt_len (pa_cons (pv 2) pa_nil)))) pe_int) pe_int) pa_nil))))))
  pss_nil)))
 (pss_one (ps_ret (pe_slice sl_2 (pv 2) po_none (po_some (pv 1)))))))), ?_⟩
  exact (sok_seq (sok_set 2 (eok_lst aok_nil))
 (sok_seq (sok_fo [3, 4, 5, 6] (sok_pre [3, 4, 5, 6] (sok_for (iok_seq (eok_sl (eok_var 0) ook_no (ook_is (eok_int 63)))) (gok_name 3)
  (sok_fo [3, 4, 5, 6] (sok_seq (sok_set 4 (eok_callB F3.cr_abs (aok_cons (eok_callB cr_int (aok_cons (eok_var 3) aok_nil)) aok_nil)))
 (sok_fo [4, 5, 6] (sok_if (tok_test (eok_op r2_ge (eok_var 4) (eok_op r2_pow (eok_int 10) (eok_int 18))))
  (sok_fo [4, 5] (sok_pre [5] (sok_for (iok_rng1 (aok_cons (eok_int 60) aok_nil)) (gok_name 5)
  (sok_fo [5] (sok_if (tok_test (eok_op r2_gt (eok_var 4) (eok_int 0)))
  (sok_seq (sok_app 2 (eok_op r2_mod (eok_var 4) (eok_int 1000003)))
 (sok_set 4 (eok_op r2_fdiv (eok_var 4) (eok_int 1000003))))
  sok_pass)))))
  (sok_seq (sok_set 6 (eok_op r2_mod (eok_op r2_add (eok_op r2_add (eok_op r2_mulI (eok_var 4) (eok_int 48271)) (eok_op r2_mulI (eok_int 7) (eok_callB F3.cr_len (aok_cons (eok_var 2) aok_nil)))) (eok_int 11)) (eok_int 2147483647)))
 (sok_fo [5, 6] (sok_pre [5] (sok_for (iok_rng1 (aok_cons (eok_int 4) aok_nil)) (gok_name 5)
  (sok_fo [5] (sok_seq (sok_set 6 (eok_op r2_mod (eok_op r2_add (eok_op r2_add (eok_op r2_add (eok_op r2_mulI (eok_var 6) (eok_int 69621)) (eok_op r2_fdiv (eok_var 6) (eok_int 65536))) (eok_op r2_mulI (eok_int 13) (eok_var 5))) (eok_int 5)) (eok_int 2147483629)))
 (sok_app 2 (eok_op r2_mod (eok_op r2_fdiv (eok_var 6) (eok_int 8)) (eok_int 1000003))))))))))))))))
 (sok_seq (sok_fo [5, 7] (sok_pre [5, 7] (sok_for (iok_rng1 (aok_cons (eok_var 1) aok_nil)) (gok_name 5)
  (sok_fo [5, 7] (sok_fo [7] (sok_if (tok_test (eok_op r2_lt (eok_callB F3.cr_len (aok_cons (eok_var 2) aok_nil)) (eok_var 1)))
  (sok_seq (sok_set 7 (eok_int 0))
 (sok_seq (sok_if (tok_test (eok_op r2_gt (eok_callB F3.cr_len (aok_cons (eok_var 2) aok_nil)) (eok_int 0)))
  (sok_set 7 (eok_op r2_ix (eok_var 2) (eok_op r2_mod (eok_var 5) (eok_callB F3.cr_len (aok_cons (eok_var 2) aok_nil)))))
  sok_pass)
 (sok_app 2 (eok_op r2_mod (eok_op r2_add (eok_op r2_add (eok_op r2_mulI (eok_var 7) (eok_int 16807)) (eok_op r2_mulI (eok_int 31) (eok_callB F3.cr_len (aok_cons (eok_var 2) aok_nil)))) (eok_int 17)) (eok_int 1000003)))))
  sok_pass))))))
 (sok_ret (eok_sl (eok_var 2) ook_no (ook_is (eok_var 1)))))))
end
section
variable {P : Program} {w : World} {K : PySem.W.Frag} {mg : Str → Option Value} {base : Heap}
theorem ok__law_is_number (T : Top P K mg) : FnG P w K mg base 1 T.a__law_is_number T.fd__law_is_number ["value"] (spD K 1 f__law_is_number) := by
  unfold f__law_is_number b__law_is_number
  refine fnG_data T.F__law_is_number sc__law_is_number rfl rfl fun cdv A outer s H hr hG => ?_
  refine ⟨_, (pss_one (ps_ret (pe_and (pe_callB call_isi (by rfl) T.z_isinstance bt_isinstance (pa_cons (pv 0) (pa_cons (pe_bltn (v := .ty "int") (by rfl) T.z_int bt_int rfl) pa_nil))) (pe_one (pe_not (pe_callB call_isi (by rfl) T.z_isinstance bt_isinstance (pa_cons (pv 0) (pa_cons (pe_bltn (v := .ty "bool") (by rfl) T.z_bool bt_bool rfl) pa_nil)))))))), ?_⟩
  exact (sok_ret (eok_and (eok_isi .int (eok_var 0)) (eok_not (eok_isi .bool (eok_var 0)))))
end
section
variable {P : Program} {w : World} {K : PySem.W.Frag} {mg : Str → Option Value} {base : Heap}
theorem ok__law_is_tuple (T : Top P K mg) : FnG P w K mg base 2 T.a__law_is_tuple T.fd__law_is_tuple ["value", "width"] (spD K 2 f__law_is_tuple) := by
  unfold f__law_is_tuple b__law_is_tuple
  refine fnG_data T.F__law_is_tuple sc__law_is_tuple rfl rfl fun cdv A outer s H hr hG => ?_
  refine ⟨_, (pss_cons (ps_if (PW.pt (pw_or (pt_not (pt_val (pe_callB call_isi (by rfl) T.z_isinstance bt_isinstance (pa_cons (pv 0) (pa_cons (pe_bltn (v := .ty "tuple") (by rfl) T.z_tuple bt_tuple rfl) pa_nil))))) (pw_or1 (pt_cmpR (op_neA hr.units) (pe_callB call_lenA (by rfl) T.z_len bt_len (pa_cons (pv 0) pa_nil)) (pv 1) (nomark _)))))
  (pss_one (ps_ret pe_bl))
  pss_nil)
 (pss_cons (ps_for PassesOwn.never rfl (pi_seq (pv 0)) (pg_name (i := 2) sc__law_is_tuple.nd rfl (Or.inl rfl))
  (pss_one (ps_if (pt_not (pt_val (pe_callG (ok__law_is_number T) (hr.mono (by omega)) hG (by rfl) T.g__law_is_number T.F__law_is_number.kp T.B__law_is_number (pa_cons (pv 2) pa_nil))))
  (pss_one (ps_ret pe_bl))
  pss_nil)))
 (pss_one (ps_ret pe_bl)))), ?_⟩
  exact (sok_seq (sok_if (tok_or (tok_not (tok_val (eok_isi .tuple (eok_var 0)))) (tok_test (eok_op r2_ne (eok_callB F3.cr_len (aok_cons (eok_var 0) aok_nil)) (eok_var 1))))
  (sok_ret (eok_bool false))
  sok_pass)
 (sok_seq (sok_fo [2] (sok_pre [2] (sok_for (iok_seq (eok_var 0)) (gok_name 2)
  (sok_fo [2] (sok_if (tok_not (tok_val (eok_fn (aok_cons (eok_var 2) aok_nil) (an_cons an_nil))))
  (sok_ret (eok_bool false))
  sok_pass)))))
 (sok_ret (eok_bool true))))
end
section
variable {P : Program} {w : World} {K : PySem.W.Frag} {mg : Str → Option Value} {base : Heap}
theorem ok__law_same (T : Top P K mg) : ∀ n : Nat, FnG P w K mg base (1 + n) T.a__law_same T.fd__law_same ["told", "due"] (spD K 2 (f__law_same n))
  | 0 => ⟨fun vs H Q E h => h.1, fun A o s H a us vs Q hr hg he hb hv hs => by
    obtain ⟨_, ds, r, Z, _, _, z, _⟩ := hs
    cases z⟩
  | n + 1 => fnG_data T.F__law_same sc__law_same rfl rfl fun cdv A outer s H hr hG => by
    have ih := ok__law_same T n
    have hr : Room (1 + n) _ := hr
    have hrr := hr
    refine ⟨_, (pss_cons (ps_if (pt_val (pe_callB call_isi (by rfl) T.z_isinstance bt_isinstance (pa_cons (pv 1) (pa_cons (pe_bltn (v := .ty "bool") (by rfl) T.z_bool bt_bool rfl) pa_nil))))
  (pss_one (ps_ret (pe_and (pe_callB call_isi (by rfl) T.z_isinstance bt_isinstance (pa_cons (pv 0) (pa_cons (pe_bltn (v := .ty "bool") (by rfl) T.z_bool bt_bool rfl) pa_nil))) (pe_one (pe_cmpR (op_eqA hr.units) (pv 0) (pv 1) (nomark _))))))
  pss_nil)
 (pss_cons (ps_if (pt_val (pe_callB call_isi (by rfl) T.z_isinstance bt_isinstance (pa_cons (pv 1) (pa_cons (pe_bltn (v := .ty "int") (by rfl) T.z_int bt_int rfl) pa_nil))))
  (pss_one (ps_ret (pe_and (pe_callG (ok__law_is_number T) (hr.mono (by omega)) hG (by rfl) T.g__law_is_number T.F__law_is_number.kp T.B__law_is_number (pa_cons (pv 0) pa_nil)) (pe_one (pe_cmpR (op_eqA hr.units) (pv 0) (pv 1) (nomark _))))))
  pss_nil)
 (pss_cons (ps_if (pt_val (pe_callB call_isi (by rfl) T.z_isinstance bt_isinstance (pa_cons (pv 1) (pa_cons (pe_bltn (v := .ty "str") (by rfl) T.z_str bt_str rfl) pa_nil))))
  (pss_one (ps_ret (pe_and (pe_callB call_isi (by rfl) T.z_isinstance bt_isinstance (pa_cons (pv 0) (pa_cons (pe_bltn (v := .ty "str") (by rfl) T.z_str bt_str rfl) pa_nil))) (pe_one (pe_cmpR (op_eqA hr.units) (pv 0) (pv 1) (nomark _))))))
  pss_nil)
 (pss_cons (ps_if (pt_cmpR op_isA (pv 1) pe_non (nomark _))
  (pss_one (ps_ret (pe_cmpR op_isA (pv 0) pe_non (nomark _))))
  pss_nil)
 (pss_cons (ps_if (PW.pt (pw_and (pt_val (pe_callB call_isi (by rfl) T.z_isinstance bt_isinstance (pa_cons (pv 1) (pa_cons (pe_bltn (v := .ty "tuple") (by rfl) T.z_tuple bt_tuple rfl) pa_nil)))) (pw_and1 (pt_not (pt_val (pe_callB call_isi (by rfl) T.z_isinstance bt_isinstance (pa_cons (pv 0) (pa_cons (pe_bltn (v := .ty "tuple") (by rfl) T.z_tuple bt_tuple rfl) pa_nil))))))))
  (pss_one (ps_ret pe_bl))
  pss_nil)
 (pss_cons (ps_if (PW.pt (pw_and (pt_val (pe_callB call_isi (by rfl) T.z_isinstance bt_isinstance (pa_cons (pv 1) (pa_cons (pe_bltn (v := .ty "list") (by rfl) T.z_list bt_list rfl) pa_nil)))) (pw_and1 (pt_not (pt_val (pe_callB call_isi (by rfl) T.z_isinstance bt_isinstance (pa_cons (pv 0) (pa_cons (pe_bltn (v := .ty "list") (by rfl) T.z_list bt_list rfl) pa_nil))))))))
  (pss_one (ps_ret pe_bl))
  pss_nil)
 (pss_cons (ps_if (pt_cmpR (op_neA hr.units) (pe_callB call_lenA (by rfl) T.z_len bt_len (pa_cons (pv 0) pa_nil)) (pe_callB call_lenA (by rfl) T.z_len bt_len (pa_cons (pv 1) pa_nil)) (nomark _))
  (pss_one (ps_ret pe_bl))
  pss_nil)
 (pss_cons (ps_for PassesOwn.never rfl (pi_range1 (by rfl) T.z_range (pa_cons (pe_callB call_lenA (by rfl) T.z_len bt_len (pa_cons (pv 1) pa_nil)) pa_nil)) (pg_name (i := 2) sc__law_same.nd rfl (Or.inl rfl))
  (pss_one (ps_if (pt_not (pt_val (pe_callG ih hrr hG (by rfl) T.g__law_same T.F__law_same.kp T.B__law_same (pa_cons (pe_ix ix_seq (pv 0) (pv 2) (fun _ _ => rfl)) (pa_cons (pe_ix ix_seq (pv 1) (pv 2) (fun _ _ => rfl)) pa_nil)))))
  (pss_one (ps_ret pe_bl))
  pss_nil)))
 (pss_one (ps_ret pe_bl)))))))))), ?_⟩
    exact (sok_seq (sok_if (tok_val (eok_isi .bool (eok_var 1)))
  (sok_ret (eok_and (eok_isi .bool (eok_var 0)) (eok_op r2_eq (eok_var 0) (eok_var 1))))
  sok_pass)
 (sok_seq (sok_if (tok_val (eok_isi .int (eok_var 1)))
  (sok_ret (eok_and (eok_fn (aok_cons (eok_var 0) aok_nil) (an_cons an_nil)) (eok_op r2_eq (eok_var 0) (eok_var 1))))
  sok_pass)
 (sok_seq (sok_if (tok_val (eok_isi .str (eok_var 1)))
  (sok_ret (eok_and (eok_isi .str (eok_var 0)) (eok_op r2_eq (eok_var 0) (eok_var 1))))
  sok_pass)
 (sok_seq (sok_if (tok_test (eok_op r2_is (eok_var 1) eok_none))
  (sok_ret (eok_op r2_is (eok_var 0) eok_none))
  sok_pass)
 (sok_seq (sok_if (tok_and (tok_val (eok_isi .tuple (eok_var 1))) (tok_not (tok_val (eok_isi .tuple (eok_var 0)))))
  (sok_ret (eok_bool false))
  sok_pass)
 (sok_seq (sok_if (tok_and (tok_val (eok_isi .list (eok_var 1))) (tok_not (tok_val (eok_isi .list (eok_var 0)))))
  (sok_ret (eok_bool false))
  sok_pass)
 (sok_seq (sok_if (tok_test (eok_op r2_ne (eok_callB F3.cr_len (aok_cons (eok_var 0) aok_nil)) (eok_callB F3.cr_len (aok_cons (eok_var 1) aok_nil))))
  (sok_ret (eok_bool false))
  sok_pass)
 (sok_seq (sok_fo [2] (sok_pre [2] (sok_for (iok_rng1 (aok_cons (eok_callB F3.cr_len (aok_cons (eok_var 1) aok_nil)) aok_nil)) (gok_name 2)
  (sok_fo [2] (sok_if (tok_not (tok_val (eok_fn (aok_cons (eok_op r2_ix (eok_var 0) (eok_var 2)) (aok_cons (eok_op r2_ix (eok_var 1) (eok_var 2)) aok_nil)) (an_cons (an_cons an_nil)))))
  (sok_ret (eok_bool false))
  sok_pass)))))
 (sok_ret (eok_bool true))))))))))
end
section
variable {P : Program} {w : World} {K : PySem.W.Frag} {mg : Str → Option Value} {base : Heap}
theorem ok__law_fresh (T : Top P K mg) : ∀ n : Nat, FnG P w K mg base (0 + n) T.a__law_fresh T.fd__law_fresh ["value"] (spD K 1 (f__law_fresh n))
  | 0 => ⟨fun vs H Q E h => h.1, fun A o s H a us vs Q hr hg he hb hv hs => by
    obtain ⟨_, ds, r, Z, _, _, z, _⟩ := hs
    cases z⟩
  | n + 1 => fnG_data T.F__law_fresh sc__law_fresh rfl rfl fun cdv A outer s H hr hG => by
    have ih := ok__law_fresh T n
    have hr : Room (0 + n) _ := hr
    have hrr := hr
    refine ⟨_, (pss_cons (ps_if (pt_val (pe_callB call_isi (by rfl) T.z_isinstance bt_isinstance (pa_cons (pv 0) (pa_cons (pe_bltn (v := .ty "list") (by rfl) T.z_list bt_list rfl) pa_nil))))
  (pss_one (ps_ret (pe_lc (own := [("item", 1)]) (g := (gName 1)) (tt := tYes) (te := (tCallD (spD K 1 (f__law_fresh n)) (tCons (tVar 1) tNil))) rfl sc__law_fresh.nd (pi_seq (pv 0)) (blkOk_by (own := [("item", 1)]) (N := N__law_fresh) (sc := defScope s__law_fresh) (by decide +kernel)) (fun _ _ _ _ _ => by exact (pg_name (i := 1) sc__law_fresh.nd rfl (Or.inl rfl))) (fun _ _ _ _ _ => by exact pts_nil) (fun _ _ _ _ _ => by exact (pe_callG ih hrr hG (by rfl) T.g__law_fresh T.F__law_fresh.kp T.B__law_fresh (pa_cons (pv 1) pa_nil))))))
  pss_nil)
 (pss_cons (ps_if (pt_val (pe_callB call_isi (by rfl) T.z_isinstance bt_isinstance (pa_cons (pv 0) (pa_cons (pe_bltn (v := .ty "tuple") (by rfl) T.z_tuple bt_tuple rfl) pa_nil))))
  (pss_one (ps_ret (pe_callTy call_tuple_of (by rfl) T.z_tuple bt_tuple (pa_cons (pe_lc (own := [("item", 1)]) (g := (gName 1)) (tt := tYes) (te := (tCallD (spD K 1 (f__law_fresh n)) (tCons (tVar 1) tNil))) rfl sc__law_fresh.nd (pi_seq (pv 0)) (blkOk_by (own := [("item", 1)]) (N := N__law_fresh) (sc := defScope s__law_fresh) (by decide +kernel)) (fun _ _ _ _ _ => by exact (pg_name (i := 1) sc__law_fresh.nd rfl (Or.inl rfl))) (fun _ _ _ _ _ => by exact pts_nil) (fun _ _ _ _ _ => by exact (pe_callG ih hrr hG (by rfl) T.g__law_fresh T.F__law_fresh.kp T.B__law_fresh (pa_cons (pv 1) pa_nil)))) pa_nil))))
  pss_nil)
 (pss_one (ps_ret (pv 0))))), ?_⟩
    exact (sok_seq (sok_if (tok_val (eok_isi .list (eok_var 0)))
  (sok_ret (eok_lc (iok_seq (eok_var 0)) (gok_name 1) tok_yes (eok_fn (aok_cons (eok_var 1) aok_nil) (an_cons an_nil)) (by decide)))
  sok_pass)
 (sok_seq (sok_if (tok_val (eok_isi .tuple (eok_var 0)))
  (sok_ret (eok_callB cr_tuple (aok_cons (eok_lc (iok_seq (eok_var 0)) (gok_name 1) tok_yes (eok_fn (aok_cons (eok_var 1) aok_nil) (an_cons an_nil)) (by decide)) aok_nil)))
  sok_pass)
 (sok_ret (eok_var 0))))
end
end Lk76
set_option maxRecDepth 100000
set_option maxHeartbeats 4000000
namespace Lk76
open PySem PySem.Spec PyProof.Rows L2 F3
section
variable {P : Program} {w : World} {K : PySem.W.Frag} {mg : Str → Option Value} {base : Heap}
theorem ok__law_even (T : Top P K mg) : FnG P w K mg base 1 T.a__law_even T.fd__law_even ["draws", "at", "steps", "most"] (spD K 4 f__law_even) := by
  unfold f__law_even b__law_even
  refine fnG_data T.F__law_even sc__law_even rfl rfl fun cdv A outer s H hr hG => ?_
  refine ⟨_, (pss_cons (ps_asg (pe_tup (pa_cons pe_int (pa_cons pe_int (pa_cons pe_int (pa_cons pe_int pa_nil))))) (pg_tup rfl (pgs_cons (pg_name (i := 4) sc__law_even.nd rfl (Or.inl rfl)) (pgs_cons (pg_name (i := 5) sc__law_even.nd rfl (Or.inl rfl)) (pgs_cons (pg_name (i := 6) sc__law_even.nd rfl (Or.inl rfl)) (pgs_cons (pg_name (i := 7) sc__law_even.nd rfl (Or.inl rfl)) pgs_nil))))))
 (pss_cons (ps_for PassesOwn.never rfl (pi_range1 (by rfl) T.z_range (pa_cons (pv 2) pa_nil)) (pg_name (i := 8) sc__law_even.nd rfl (Or.inl rfl))
  (pss_cons (ps_set (i := 9) sc__law_even.nd rfl (Or.inl rfl) (pe_op op_sub (pe_op op_modN (pe_ix ix_seq (pv 0) (pe_op op_add4 (pv 1) (pv 8)) (fun _ _ => rfl)) (pe_op op_add4 (pe_op op_mulW pe_int (pv 3)) pe_int)) (pv 3)))
 (pss_one (ps_if (pt_cmpR (op_eqA hr.units) (pe_op op_modN (pv 8) pe_int) pe_int (nomark _))
  (pss_cons (ps_set (i := 4) sc__law_even.nd rfl (Or.inl rfl) (pe_op op_add4 (pv 4) (pe_op op_mulW (pv 9) (pv 6))))
 (pss_one (ps_set (i := 5) sc__law_even.nd rfl (Or.inl rfl) (pe_op op_add4 (pv 5) (pe_op op_mulW (pv 9) (pv 7))))))
  (pss_cons (ps_set (i := 6) sc__law_even.nd rfl (Or.inl rfl) (pe_op op_add4 (pv 6) (pe_op op_mulW (pv 9) (pv 4))))
 (pss_one (ps_set (i := 7) sc__law_even.nd rfl (Or.inl rfl) (pe_op op_add4 (pv 7) (pe_op op_mulW (pv 9) (pv 5))))))))))
 (pss_one (ps_ret (pe_tup (pa_cons (pv 4) (pa_cons (pv 5) (pa_cons (pv 6) (pa_cons (pv 7) pa_nil))))))))), ?_⟩
  exact (sok_seq (sok_unp (gok_tup (gsok_cons (gok_name 4) (gsok_cons (gok_name 5) (gsok_cons (gok_name 6) (gsok_cons (gok_name 7) gsok_nil)))) (gs_len (gs_len (gs_len (gs_len gs_len0 _) _) _) _)) (eok_tup (aok_cons (eok_int 1) (aok_cons (eok_int 0) (aok_cons (eok_int 0) (aok_cons (eok_int 1) aok_nil))))))
 (sok_seq (sok_fo [8, 9] (sok_pre [8, 9] (sok_for (iok_rng1 (aok_cons (eok_var 2) aok_nil)) (gok_name 8)
  (sok_fo [8, 9] (sok_seq (sok_set 9 (eok_op r2_sub (eok_op r2_mod (eok_op r2_ix (eok_var 0) (eok_op r2_add (eok_var 1) (eok_var 8))) (eok_op r2_add (eok_op r2_mulI (eok_int 2) (eok_var 3)) (eok_int 1))) (eok_var 3)))
 (sok_if (tok_test (eok_op r2_eq (eok_op r2_mod (eok_var 8) (eok_int 2)) (eok_int 0)))
  (sok_seq (sok_set 4 (eok_op r2_add (eok_var 4) (eok_op r2_mulI (eok_var 9) (eok_var 6))))
 (sok_set 5 (eok_op r2_add (eok_var 5) (eok_op r2_mulI (eok_var 9) (eok_var 7)))))
  (sok_seq (sok_set 6 (eok_op r2_add (eok_var 6) (eok_op r2_mulI (eok_var 9) (eok_var 4))))
 (sok_set 7 (eok_op r2_add (eok_var 7) (eok_op r2_mulI (eok_var 9) (eok_var 5)))))))))))
 (sok_ret (eok_tup (aok_cons (eok_var 4) (aok_cons (eok_var 5) (aok_cons (eok_var 6) (aok_cons (eok_var 7) aok_nil))))))))
end
section
variable {P : Program} {w : World} {K : PySem.W.Frag} {mg : Str → Option Value} {base : Heap}
theorem ok__law_times (T : Top P K mg) : FnG P w K mg base 1 T.a__law_times T.fd__law_times ["first", "second"] (spD K 2 f__law_times) := by
  unfold f__law_times b__law_times
  refine fnG_data T.F__law_times sc__law_times rfl rfl fun cdv A outer s H hr hG => ?_
  refine ⟨_, (pss_cons (ps_asg (pv 0) (pg_tup rfl (pgs_cons (pg_name (i := 2) sc__law_times.nd rfl (Or.inl rfl)) (pgs_cons (pg_name (i := 3) sc__law_times.nd rfl (Or.inl rfl)) (pgs_cons (pg_name (i := 4) sc__law_times.nd rfl (Or.inl rfl)) (pgs_cons (pg_name (i := 5) sc__law_times.nd rfl (Or.inl rfl)) pgs_nil))))))
 (pss_cons (ps_asg (pv 1) (pg_tup rfl (pgs_cons (pg_name (i := 6) sc__law_times.nd rfl (Or.inl rfl)) (pgs_cons (pg_name (i := 7) sc__law_times.nd rfl (Or.inl rfl)) (pgs_cons (pg_name (i := 8) sc__law_times.nd rfl (Or.inl rfl)) (pgs_cons (pg_name (i := 9) sc__law_times.nd rfl (Or.inl rfl)) pgs_nil))))))
 (pss_one (ps_ret (pe_tup (pa_cons (pe_op op_add4 (pe_op op_mulW (pv 2) (pv 6)) (pe_op op_mulW (pv 3) (pv 8))) (pa_cons (pe_op op_add4 (pe_op op_mulW (pv 2) (pv 7)) (pe_op op_mulW (pv 3) (pv 9))) (pa_cons (pe_op op_add4 (pe_op op_mulW (pv 4) (pv 6)) (pe_op op_mulW (pv 5) (pv 8))) (pa_cons (pe_op op_add4 (pe_op op_mulW (pv 4) (pv 7)) (pe_op op_mulW (pv 5) (pv 9))) pa_nil))))))))), ?_⟩
  exact (sok_seq (sok_unp (gok_tup (gsok_cons (gok_name 2) (gsok_cons (gok_name 3) (gsok_cons (gok_name 4) (gsok_cons (gok_name 5) gsok_nil)))) (gs_len (gs_len (gs_len (gs_len gs_len0 _) _) _) _)) (eok_var 0))
 (sok_seq (sok_unp (gok_tup (gsok_cons (gok_name 6) (gsok_cons (gok_name 7) (gsok_cons (gok_name 8) (gsok_cons (gok_name 9) gsok_nil)))) (gs_len (gs_len (gs_len (gs_len gs_len0 _) _) _) _)) (eok_var 1))
 (sok_ret (eok_tup (aok_cons (eok_op r2_add (eok_op r2_mulI (eok_var 2) (eok_var 6)) (eok_op r2_mulI (eok_var 3) (eok_var 8))) (aok_cons (eok_op r2_add (eok_op r2_mulI (eok_var 2) (eok_var 7)) (eok_op r2_mulI (eok_var 3) (eok_var 9))) (aok_cons (eok_op r2_add (eok_op r2_mulI (eok_var 4) (eok_var 6)) (eok_op r2_mulI (eok_var 5) (eok_var 8))) (aok_cons (eok_op r2_add (eok_op r2_mulI (eok_var 4) (eok_var 7)) (eok_op r2_mulI (eok_var 5) (eok_var 9))) aok_nil))))))))
end
section
variable {P : Program} {w : World} {K : PySem.W.Frag} {mg : Str → Option Value} {base : Heap}
theorem okH__law_times (T : Top P K mg) : FnHD P w K mg base 1 T.a__law_times T.fd__law_times ["first", "second"] (spD K 2 f__law_times) := by
  unfold f__law_times b__law_times
  refine fnH_data T.F__law_times sc__law_times rfl rfl fun cdv A outer s H E p hp hr => ?_
  refine ⟨_, (pss_cons (ps_asg (pv 0) (pg_tupH (hot_h hp) (pgs_cons (pg_name (i := 2) sc__law_times.nd rfl (Or.inl rfl)) (pgs_cons (pg_name (i := 3) sc__law_times.nd rfl (Or.inl rfl)) (pgs_cons (pg_name (i := 4) sc__law_times.nd rfl (Or.inl rfl)) (pgs_cons (pg_name (i := 5) sc__law_times.nd rfl (Or.inl rfl)) pgs_nil))))))
 (pss_cons (ps_asg (pv 1) (pg_tupH (hot_h hp) (pgs_cons (pg_name (i := 6) sc__law_times.nd rfl (Or.inl rfl)) (pgs_cons (pg_name (i := 7) sc__law_times.nd rfl (Or.inl rfl)) (pgs_cons (pg_name (i := 8) sc__law_times.nd rfl (Or.inl rfl)) (pgs_cons (pg_name (i := 9) sc__law_times.nd rfl (Or.inl rfl)) pgs_nil))))))
 (pss_one (ps_ret (pe_tup (pa_cons (pe_op op_add4 (pe_op op_mulW (pv 2) (pv 6)) (pe_op op_mulW (pv 3) (pv 8))) (pa_cons (pe_op op_add4 (pe_op op_mulW (pv 2) (pv 7)) (pe_op op_mulW (pv 3) (pv 9))) (pa_cons (pe_op op_add4 (pe_op op_mulW (pv 4) (pv 6)) (pe_op op_mulW (pv 5) (pv 8))) (pa_cons (pe_op op_add4 (pe_op op_mulW (pv 4) (pv 7)) (pe_op op_mulW (pv 5) (pv 9))) pa_nil))))))))), ?_⟩
  exact (sok_seq (sok_unp (gok_tup (gsok_cons (gok_name 2) (gsok_cons (gok_name 3) (gsok_cons (gok_name 4) (gsok_cons (gok_name 5) gsok_nil)))) (gs_len (gs_len (gs_len (gs_len gs_len0 _) _) _) _)) (eok_var 0))
 (sok_seq (sok_unp (gok_tup (gsok_cons (gok_name 6) (gsok_cons (gok_name 7) (gsok_cons (gok_name 8) (gsok_cons (gok_name 9) gsok_nil)))) (gs_len (gs_len (gs_len (gs_len gs_len0 _) _) _) _)) (eok_var 1))
 (sok_ret (eok_tup (aok_cons (eok_op r2_add (eok_op r2_mulI (eok_var 2) (eok_var 6)) (eok_op r2_mulI (eok_var 3) (eok_var 8))) (aok_cons (eok_op r2_add (eok_op r2_mulI (eok_var 2) (eok_var 7)) (eok_op r2_mulI (eok_var 3) (eok_var 9))) (aok_cons (eok_op r2_add (eok_op r2_mulI (eok_var 4) (eok_var 6)) (eok_op r2_mulI (eok_var 5) (eok_var 8))) (aok_cons (eok_op r2_add (eok_op r2_mulI (eok_var 4) (eok_var 7)) (eok_op r2_mulI (eok_var 5) (eok_var 9))) aok_nil))))))))
end
section
variable {P : Program} {w : World} {K : PySem.W.Frag} {mg : Str → Option Value} {base : Heap}
theorem ok__law_word (T : Top P K mg) : FnG P w K mg base 1 T.a__law_word T.fd__law_word ["draws", "at", "many", "most"] (spD K 4 f__law_word) := by
  unfold f__law_word b__law_word
  refine fnG_data T.F__law_word sc__law_word rfl rfl fun cdv A outer s H hr hG => ?_
  refine ⟨_, (pss_one (ps_ret (pe_lc (own := [("k", 4)]) (g := (gName 4)) (tt := tYes) (te := (tOp rSubI (tOp rModI (tOp (rIx K) (tVar 0) (tOp (rAdd4 K) (tVar 1) (tVar 4))) (tOp (rAdd4 K) (tOp rMulI (tC (.int 2)) (tVar 3)) (tC (.int 1)))) (tVar 3))) rfl sc__law_word.nd (pi_range1 (by rfl) T.z_range (pa_cons (pv 2) pa_nil)) (blkOk_by (own := [("k", 4)]) (N := N__law_word) (sc := defScope s__law_word) (by decide +kernel)) (fun _ _ _ _ _ => by exact (pg_name (i := 4) sc__law_word.nd rfl (Or.inl rfl))) (fun _ _ _ _ _ => by exact pts_nil) (fun _ _ _ _ _ => by exact (pe_op op_sub (pe_op op_modN (pe_ix ix_seq (pv 0) (pe_op op_add4 (pv 1) (pv 4)) (fun _ _ => rfl)) (pe_op op_add4 (pe_op op_mulW pe_int (pv 3)) pe_int)) (pv 3)))))), ?_⟩
  exact (sok_ret (eok_lc (iok_rng1 (aok_cons (eok_var 2) aok_nil)) (gok_name 4) tok_yes (eok_op r2_sub (eok_op r2_mod (eok_op r2_ix (eok_var 0) (eok_op r2_add (eok_var 1) (eok_var 4))) (eok_op r2_add (eok_op r2_mulI (eok_int 2) (eok_var 3)) (eok_int 1))) (eok_var 3)) (by decide)))
end
section
variable {P : Program} {w : World} {K : PySem.W.Frag} {mg : Str → Option Value} {base : Heap}
theorem ok__law_of_word (T : Top P K mg) : FnG P w K mg base 1 T.a__law_of_word T.fd__law_of_word ["word"] (spD K 1 f__law_of_word) := by
  unfold f__law_of_word b__law_of_word
  refine fnG_data T.F__law_of_word sc__law_of_word rfl rfl fun cdv A outer s H hr hG => ?_
  refine ⟨_, (pss_cons (ps_set (i := 1) sc__law_of_word.nd rfl (Or.inl rfl) (pe_tup (pa_cons pe_int (pa_cons pe_int (pa_cons pe_int (pa_cons pe_int pa_nil))))))
 (pss_cons (ps_for PassesOwn.never rfl (pi_seq (pv 0)) (pg_name (i := 2) sc__law_of_word.nd rfl (Or.inl rfl))
  (pss_one (ps_set (i := 1) sc__law_of_word.nd rfl (Or.inl rfl) (pe_tup (pa_cons (pe_op op_add4 (pe_op op_mulW (pe_ix ix_seq (pv 1) pe_int (fun _ _ => rfl)) (pv 2)) (pe_ix ix_seq (pv 1) pe_int (fun _ _ => rfl))) (pa_cons (pe_un un_neg (pe_ix ix_seq (pv 1) pe_int (fun _ _ => rfl))) (pa_cons (pe_op op_add4 (pe_op op_mulW (pe_ix ix_seq (pv 1) pe_int (fun _ _ => rfl)) (pv 2)) (pe_ix ix_seq (pv 1) pe_int (fun _ _ => rfl))) (pa_cons (pe_un un_neg (pe_ix ix_seq (pv 1) pe_int (fun _ _ => rfl))) pa_nil))))))))
 (pss_one (ps_ret (pv 1))))), ?_⟩
  exact (sok_seq (sok_set 1 (eok_tup (aok_cons (eok_int 1) (aok_cons (eok_int 0) (aok_cons (eok_int 0) (aok_cons (eok_int 1) aok_nil))))))
 (sok_seq (sok_fo [2] (sok_pre [2] (sok_for (iok_seq (eok_var 0)) (gok_name 2)
  (sok_fo [2] (sok_set 1 (eok_tup (aok_cons (eok_op r2_add (eok_op r2_mulI (eok_op r2_ix (eok_var 1) (eok_int 0)) (eok_var 2)) (eok_op r2_ix (eok_var 1) (eok_int 1))) (aok_cons (eok_un r1_neg (eok_op r2_ix (eok_var 1) (eok_int 0))) (aok_cons (eok_op r2_add (eok_op r2_mulI (eok_op r2_ix (eok_var 1) (eok_int 2)) (eok_var 2)) (eok_op r2_ix (eok_var 1) (eok_int 3))) (aok_cons (eok_un r1_neg (eok_op r2_ix (eok_var 1) (eok_int 2))) aok_nil))))))))))
 (sok_ret (eok_var 1))))
end
section
variable {P : Program} {w : World} {K : PySem.W.Frag} {mg : Str → Option Value} {base : Heap}
theorem ok__law_is_turn (T : Top P K mg) : FnG P w K mg base 3 T.a__law_is_turn T.fd__law_is_turn ["value"] (spD K 1 f__law_is_turn) := by
  unfold f__law_is_turn b__law_is_turn
  refine fnG_data T.F__law_is_turn sc__law_is_turn rfl rfl fun cdv A outer s H hr hG => ?_
  refine ⟨_, (pss_one (ps_ret (pe_and (pe_callG (ok__law_is_tuple T) (hr.mono (by omega)) hG (by rfl) T.g__law_is_tuple T.F__law_is_tuple.kp T.B__law_is_tuple (pa_cons (pv 0) (pa_cons pe_int pa_nil))) (pe_one (pe_cmpR (op_eqA hr.units) (pe_op op_sub (pe_op op_mulW (pe_ix ix_seq (pv 0) pe_int (fun _ _ => rfl)) (pe_ix ix_seq (pv 0) pe_int (fun _ _ => rfl))) (pe_op op_mulW (pe_ix ix_seq (pv 0) pe_int (fun _ _ => rfl)) (pe_ix ix_seq (pv 0) pe_int (fun _ _ => rfl)))) pe_int (nomark _)))))), ?_⟩
  exact (sok_ret (eok_and (eok_fn (aok_cons (eok_var 0) (aok_cons (eok_int 4) aok_nil)) (an_cons (an_cons an_nil))) (eok_op r2_eq (eok_op r2_sub (eok_op r2_mulI (eok_op r2_ix (eok_var 0) (eok_int 0)) (eok_op r2_ix (eok_var 0) (eok_int 3))) (eok_op r2_mulI (eok_op r2_ix (eok_var 0) (eok_int 1)) (eok_op r2_ix (eok_var 0) (eok_int 2)))) (eok_int 1))))
end
end Lk76
set_option maxRecDepth 100000
set_option maxHeartbeats 4000000
namespace Lk76
open PySem PySem.Spec PyProof.Rows L2 F3
section
variable {P : Program} {w : World} {K : PySem.W.Frag} {mg : Str → Option Value} {base : Heap}
theorem ok__law_leads (T : Top P K mg) : FnG P w K mg base 2 T.a__law_leads T.fd__law_leads ["first", "second", "h"] (spD K 3 f__law_leads) := by
  unfold f__law_leads b__law_leads
  refine fnG_data T.F__law_leads sc__law_leads rfl rfl fun cdv A outer s H hr hG => ?_
  refine ⟨_, (pss_one (ps_ret (pe_cmpR (op_eqA hr.units) (pe_callG (ok__law_times T) (hr.mono (by omega)) hG (by rfl) T.g__law_times T.F__law_times.kp T.B__law_times (pa_cons (pv 2) (pa_cons (pv 0) pa_nil))) (pe_callG (ok__law_times T) (hr.mono (by omega)) hG (by rfl) T.g__law_times T.F__law_times.kp T.B__law_times (pa_cons (pv 1) (pa_cons (pv 2) pa_nil))) (nomark _)))), ?_⟩
  exact (sok_ret (eok_op r2_eq (eok_fn (aok_cons (eok_var 2) (aok_cons (eok_var 0) aok_nil)) (an_cons (an_cons an_nil))) (eok_fn (aok_cons (eok_var 1) (aok_cons (eok_var 2) aok_nil)) (an_cons (an_cons an_nil)))))
end
section
variable {P : Program} {w : World} {K : PySem.W.Frag} {mg : Str → Option Value} {base : Heap}
theorem ok__law_by (T : Top P K mg) : FnG P w K mg base 2 T.a__law_by T.fd__law_by ["h", "turn"] (spD K 2 f__law_by) := by
  unfold f__law_by b__law_by
  refine fnG_data T.F__law_by sc__law_by rfl rfl fun cdv A outer s H hr hG => ?_
  refine ⟨_, (pss_one (ps_ret (pe_callG (ok__law_times T) (hr.mono (by omega)) hG (by rfl) T.g__law_times T.F__law_times.kp T.B__law_times (pa_cons (pe_callG (ok__law_times T) (hr.mono (by omega)) hG (by rfl) T.g__law_times T.F__law_times.kp T.B__law_times (pa_cons (pv 0) (pa_cons (pv 1) pa_nil))) (pa_cons (pe_tup (pa_cons (pe_ix ix_seq (pv 0) pe_int (fun _ _ => rfl)) (pa_cons (pe_un un_neg (pe_ix ix_seq (pv 0) pe_int (fun _ _ => rfl))) (pa_cons (pe_un un_neg (pe_ix ix_seq (pv 0) pe_int (fun _ _ => rfl))) (pa_cons (pe_ix ix_seq (pv 0) pe_int (fun _ _ => rfl)) pa_nil))))) pa_nil))))), ?_⟩
  exact (sok_ret (eok_fn (aok_cons (eok_fn (aok_cons (eok_var 0) (aok_cons (eok_var 1) aok_nil)) (an_cons (an_cons an_nil))) (aok_cons (eok_tup (aok_cons (eok_op r2_ix (eok_var 0) (eok_int 3)) (aok_cons (eok_un r1_neg (eok_op r2_ix (eok_var 0) (eok_int 1))) (aok_cons (eok_un r1_neg (eok_op r2_ix (eok_var 0) (eok_int 2))) (aok_cons (eok_op r2_ix (eok_var 0) (eok_int 0)) aok_nil))))) aok_nil)) (an_cons (an_cons an_nil))))
end
section
variable {P : Program} {w : World} {K : PySem.W.Frag} {mg : Str → Option Value} {base : Heap}
theorem ok__law_standards (T : Top P K mg) : FnG P w K mg base 1 T.a__law_standards T.fd__law_standards [] (spD K 0 f__law_standards) := by
  unfold f__law_standards b__law_standards
  refine fnG_data T.F__law_standards sc__law_standards rfl rfl fun cdv A outer s H hr hG => ?_
  refine ⟨_, (pss_cons (ps_set (i := 0) sc__law_standards.nd rfl (Or.inl rfl) (pe_lst (pa_cons (pe_tup (pa_cons pe_int (pa_cons pe_int (pa_cons pe_int (pa_cons pe_int pa_nil))))) (pa_cons (pe_tup (pa_cons (pe_un un_neg pe_int) (pa_cons pe_int (pa_cons pe_int (pa_cons (pe_un un_neg pe_int) pa_nil))))) (pa_cons (pe_tup (pa_cons pe_int (pa_cons (pe_un un_neg pe_int) (pa_cons pe_int (pa_cons pe_int pa_nil))))) (pa_cons (pe_tup (pa_cons pe_int (pa_cons pe_int (pa_cons (pe_un un_neg pe_int) (pa_cons pe_int pa_nil))))) pa_nil))))))
 (pss_one (ps_ret (pe_op op_add4 (pv 0) (pe_lst (pa_cons (pe_tup (pa_cons pe_int (pa_cons (pe_un un_neg pe_int) (pa_cons pe_int (pa_cons pe_int pa_nil))))) (pa_cons (pe_tup (pa_cons pe_int (pa_cons pe_int (pa_cons (pe_un un_neg pe_int) (pa_cons pe_int pa_nil))))) (pa_cons (pe_tup (pa_cons pe_int (pa_cons (pe_un un_neg pe_int) (pa_cons pe_int (pa_cons (pe_un un_neg pe_int) pa_nil))))) (pa_cons (pe_tup (pa_cons (pe_un un_neg pe_int) (pa_cons pe_int (pa_cons (pe_un un_neg pe_int) (pa_cons pe_int pa_nil))))) pa_nil))))))))), ?_⟩
  exact (sok_seq (sok_set 0 (eok_lst (aok_cons (eok_tup (aok_cons (eok_int 1) (aok_cons (eok_int 0) (aok_cons (eok_int 0) (aok_cons (eok_int 1) aok_nil))))) (aok_cons (eok_tup (aok_cons (eok_un r1_neg (eok_int 1)) (aok_cons (eok_int 0) (aok_cons (eok_int 0) (aok_cons (eok_un r1_neg (eok_int 1)) aok_nil))))) (aok_cons (eok_tup (aok_cons (eok_int 0) (aok_cons (eok_un r1_neg (eok_int 1)) (aok_cons (eok_int 1) (aok_cons (eok_int 0) aok_nil))))) (aok_cons (eok_tup (aok_cons (eok_int 0) (aok_cons (eok_int 1) (aok_cons (eok_un r1_neg (eok_int 1)) (aok_cons (eok_int 0) aok_nil))))) aok_nil))))))
 (sok_ret (eok_op r2_add (eok_var 0) (eok_lst (aok_cons (eok_tup (aok_cons (eok_int 0) (aok_cons (eok_un r1_neg (eok_int 1)) (aok_cons (eok_int 1) (aok_cons (eok_int 1) aok_nil))))) (aok_cons (eok_tup (aok_cons (eok_int 1) (aok_cons (eok_int 1) (aok_cons (eok_un r1_neg (eok_int 1)) (aok_cons (eok_int 0) aok_nil))))) (aok_cons (eok_tup (aok_cons (eok_int 0) (aok_cons (eok_un r1_neg (eok_int 1)) (aok_cons (eok_int 1) (aok_cons (eok_un r1_neg (eok_int 1)) aok_nil))))) (aok_cons (eok_tup (aok_cons (eok_un r1_neg (eok_int 1)) (aok_cons (eok_int 1) (aok_cons (eok_un r1_neg (eok_int 1)) (aok_cons (eok_int 0) aok_nil))))) aok_nil))))))))
end
section
variable {P : Program} {w : World} {K : PySem.W.Frag} {mg : Str → Option Value} {base : Heap}
theorem ok__law_right (T : Top P K mg) : FnG P w K mg base 4 T.a__law_right T.fd__law_right ["turn", "standard", "h"] (spD K 3 f__law_right) := by
  unfold f__law_right b__law_right
  refine fnG_data T.F__law_right sc__law_right rfl rfl fun cdv A outer s H hr hG => ?_
  refine ⟨_, (pss_cons (ps_if (PW.pt (pw_or (pt_not (pt_val (pe_callG (ok__law_is_tuple T) (hr.mono (by omega)) hG (by rfl) T.g__law_is_tuple T.F__law_is_tuple.kp T.B__law_is_tuple (pa_cons (pv 1) (pa_cons pe_int pa_nil))))) (pw_or (pt_not (pt_val (pe_callG (ok__law_is_turn T) (hr.mono (by omega)) hG (by rfl) T.g__law_is_turn T.F__law_is_turn.kp T.B__law_is_turn (pa_cons (pv 2) pa_nil)))) (pw_or1 (pt_cmpR (op_notInA (ru65 hr)) (pv 1) (pe_callG0 (ok__law_standards T) (hr.mono (by omega)) hG (by rfl) T.g__law_standards T.F__law_standards.kp T.B__law_standards) (by rfl))))))
  (pss_one (ps_ret pe_bl))
  pss_nil)
 (pss_one (ps_ret (pe_callG (ok__law_leads T) (hr.mono (by omega)) hG (by rfl) T.g__law_leads T.F__law_leads.kp T.B__law_leads (pa_cons (pv 0) (pa_cons (pv 1) (pa_cons (pv 2) pa_nil))))))), ?_⟩
  exact (sok_seq (sok_if (tok_or (tok_not (tok_val (eok_fn (aok_cons (eok_var 1) (aok_cons (eok_int 4) aok_nil)) (an_cons (an_cons an_nil))))) (tok_or (tok_not (tok_val (eok_fn (aok_cons (eok_var 2) aok_nil) (an_cons an_nil)))) (tok_test (eok_op (r2_in true) (eok_var 1) (eok_fn aok_nil an_nil)))))
  (sok_ret (eok_bool false))
  sok_pass)
 (sok_ret (eok_fn (aok_cons (eok_var 0) (aok_cons (eok_var 1) (aok_cons (eok_var 2) aok_nil))) (an_cons (an_cons (an_cons an_nil))))))
end
section
variable {P : Program} {w : World} {K : PySem.W.Frag} {mg : Str → Option Value} {base : Heap}
theorem ok__law_finite (T : Top P K mg) : FnG P w K mg base 2 T.a__law_finite T.fd__law_finite ["turn"] (spD K 1 f__law_finite) := by
  unfold f__law_finite b__law_finite
  refine fnG_data T.F__law_finite sc__law_finite rfl rfl fun cdv A outer s H hr hG => ?_
  refine ⟨_, (pss_cons (ps_set (i := 1) sc__law_finite.nd rfl (Or.inl rfl) (pv 0))
 (pss_cons (ps_for PassesOwn.never rfl (pi_range1 (by rfl) T.z_range (pa_cons pe_int pa_nil)) (pg_name (i := 2) sc__law_finite.nd rfl (Or.inl rfl))
  (pss_cons (ps_if (pt_cmpR (op_eqA hr.units) (pv 1) (pe_tup (pa_cons pe_int (pa_cons pe_int (pa_cons pe_int (pa_cons pe_int pa_nil))))) (nomark _))
  (pss_one (ps_ret pe_bl))
  pss_nil)
 (pss_one (ps_set (i := 1) sc__law_finite.nd rfl (Or.inl rfl) (pe_callG (ok__law_times T) (hr.mono (by omega)) hG (by rfl) T.g__law_times T.F__law_times.kp T.B__law_times (pa_cons (pv 1) (pa_cons (pv 0) pa_nil)))))))
 (pss_one (ps_ret pe_bl)))), ?_⟩
  exact (sok_seq (sok_set 1 (eok_var 0))
 (sok_seq (sok_fo [1, 2] (sok_pre [2] (sok_for (iok_rng1 (aok_cons (eok_int 12) aok_nil)) (gok_name 2)
  (sok_fo [2] (sok_seq (sok_if (tok_test (eok_op r2_eq (eok_var 1) (eok_tup (aok_cons (eok_int 1) (aok_cons (eok_int 0) (aok_cons (eok_int 0) (aok_cons (eok_int 1) aok_nil)))))))
  (sok_ret (eok_bool true))
  sok_pass)
 (sok_set 1 (eok_fn (aok_cons (eok_var 1) (aok_cons (eok_var 0) aok_nil)) (an_cons (an_cons an_nil)))))))))
 (sok_ret (eok_bool false))))
end
section
variable {P : Program} {w : World} {K : PySem.W.Frag} {mg : Str → Option Value} {base : Heap}
theorem okH__law_finite (T : Top P K mg) : FnHD P w K mg base 2 T.a__law_finite T.fd__law_finite ["turn"] (spD K 1 f__law_finite) := by
  unfold f__law_finite b__law_finite
  refine fnH_data T.F__law_finite sc__law_finite rfl rfl fun cdv A outer s H E p hp hr => ?_
  refine ⟨_, (pss_cons (ps_set (i := 1) sc__law_finite.nd rfl (Or.inl rfl) (pv 0))
 (pss_cons (L2H.ps_forH PassesOwn.never (hot_h hp) (L2H.pi_range1H (by rfl) T.z_range (pa_cons pe_int pa_nil)) (pg_name (i := 2) sc__law_finite.nd rfl (Or.inl rfl))
  (pss_cons (ps_if (pt_cmpR (op_eqA (ruH64 hr)) (pv 1) (pe_tup (pa_cons pe_int (pa_cons pe_int (pa_cons pe_int (pa_cons pe_int pa_nil))))) (nomark _))
  (pss_one (ps_ret pe_bl))
  pss_nil)
 (pss_one (ps_set (i := 1) sc__law_finite.nd rfl (Or.inl rfl) (L2H.pe_callH (okH__law_times T) (hr.mono (by omega)) (hot_h hp) (by rfl) T.g__law_times T.F__law_times.kp T.B__law_times (fun σ => pass00 (E := fun _ => E0) σ) (pa_cons (pv 1) (pa_cons (pv 0) pa_nil)))))))
 (pss_one (ps_ret pe_bl)))), ?_⟩
  exact (sok_seq (sok_set 1 (eok_var 0))
 (sok_seq (sok_fo [1, 2] (sok_pre [2] (sok_for (iok_rng1 (aok_cons (eok_int 12) aok_nil)) (gok_name 2)
  (sok_fo [2] (sok_seq (sok_if (tok_test (eok_op r2_eq (eok_var 1) (eok_tup (aok_cons (eok_int 1) (aok_cons (eok_int 0) (aok_cons (eok_int 0) (aok_cons (eok_int 1) aok_nil)))))))
  (sok_ret (eok_bool true))
  sok_pass)
 (sok_set 1 (eok_fnH (aok_cons (eok_var 1) (aok_cons (eok_var 0) aok_nil)) (an_cons (an_cons an_nil)))))))))
 (sok_ret (eok_bool false))))
end
end Lk76
set_option maxRecDepth 100000
set_option maxHeartbeats 4000000
namespace Lk76
open PySem PySem.Spec PyProof.Rows L2 F3
section
variable {P : Program} {w : World} {K : PySem.W.Frag} {mg : Str → Option Value} {base : Heap}
theorem ok__law_told (T : Top P K mg) : FnG P w K mg base 27 T.a__law_told T.fd__law_told ["turn", "due"] (spD K 2 f__law_told) := by
  unfold f__law_told b__law_told
  refine fnG_data T.F__law_told sc__law_told rfl rfl fun cdv A outer s H hr hG => ?_
  refine ⟨_, (pss_cons (ps_set (i := 2) sc__law_told.nd rfl (Or.inl rfl) pe_non)
 (pss_cons (L2N.ps_try_as (i := 3) rfl rfl sc__law_told.nd rfl rfl ⟨by rfl, by decide, .inl T.g_EndlessOrder⟩ takesN0 (fun W pn xe tk _ => pss_one (ps_set (i := 2) sc__law_told.nd rfl (Or.inl rfl) (pe_callX (ok_finite_paper T) (hr.mono (by omega)) hG (by rfl) T.g_finite_paper T.F_finite_paper.kp T.B_finite_paper (fun σ => L2N.passAt tk σ) (pa_cons (pv 0) pa_nil))))
  (fun a oe cls d pn hz hf => (pss_cons (ps_set (i := 4) sc__law_told.nd rfl (Or.inl rfl) (pe_or (pe_isE T.C_EndlessOrder (L2N.Zn.zc hz) hf (by rfl) T.z_isinstance (pa_cons (pv 3) (pa_cons (pe_glob (v := .ref T.x_EndlessGroup) (by rfl) T.g_EndlessGroup rfl) pa_nil))) (pe_one (pe_isE T.C_EndlessOrder (L2N.Zn.zc hz) hf (by rfl) T.z_isinstance (pa_cons (pv 3) (pa_cons (pe_glob (v := .ref T.x_NotInCone) (by rfl) T.g_NotInCone rfl) pa_nil))))))
 (pss_one (ps_ret (pe_and (pe_not (L2H.pe_callH (okH__law_finite T) (room_s hr (by omega)) (hot_s hz hf) (by rfl) T.g__law_finite T.F__law_finite.kp T.B__law_finite (fun σ => pass00 (E := fun _ => E0) σ) (pa_cons (pv 0) pa_nil))) (pe_and (pe_isE T.C_EndlessOrder (L2N.Zn.zc hz) hf (by rfl) T.z_isinstance (pa_cons (pv 3) (pa_cons (pe_glob (v := .ref T.x_GridError) (by rfl) T.g_GridError rfl) pa_nil))) (pe_and (pe_isE T.C_EndlessOrder (L2N.Zn.zc hz) hf (by rfl) T.z_isinstance (pa_cons (pv 3) (pa_cons (pe_bltn (v := .ty "ValueError") (by rfl) T.z_ValueError bt_ValueError rfl) pa_nil))) (pe_one (pe_not (pv 4)))))))))))
 (pss_cons (ps_if (PW.pt (pw_or (pt_not (pt_val (pe_callG (ok__law_finite T) (hr.mono (by omega)) hG (by rfl) T.g__law_finite T.F__law_finite.kp T.B__law_finite (pa_cons (pv 0) pa_nil)))) (pw_or (pt_not (pt_val (pe_callB call_isi (by rfl) T.z_isinstance bt_isinstance (pa_cons (pv 2) (pa_cons (pe_bltn (v := .ty "tuple") (by rfl) T.z_tuple bt_tuple rfl) pa_nil))))) (pw_or1 (pt_cmpR (op_neA hr.units) (pe_callB call_lenA (by rfl) T.z_len bt_len (pa_cons (pv 2) pa_nil)) pe_int (nomark _))))))
  (pss_one (ps_ret pe_bl))
  pss_nil)
 (pss_cons (ps_if (PW.pt (pw_and (pt_cmpR op_isnotA (pv 1) pe_non (nomark _)) (pw_and1 (pt_not (pt_val (pe_callG (ok__law_same T 24) (hr.mono (by omega)) hG (by rfl) T.g__law_same T.F__law_same.kp T.B__law_same (pa_cons (pe_ix ix_seq (pv 2) pe_int (fun _ _ => rfl)) (pa_cons (pv 1) pa_nil))))))))
  (pss_one (ps_ret pe_bl))
  pss_nil)
 (pss_one (ps_ret (pe_and (pe_callG (ok__law_right T) (hr.mono (by omega)) hG (by rfl) T.g__law_right T.F__law_right.kp T.B__law_right (pa_cons (pv 0) (pa_cons (pe_ix ix_seq (pv 2) pe_int (fun _ _ => rfl)) (pa_cons (pe_ix ix_seq (pv 2) pe_int (fun _ _ => rfl)) pa_nil)))) (pe_one (pe_cmpR op_isA (pe_callG (ok_shows_finite T) (hr.mono (by omega)) hG (by rfl) T.g_shows_finite T.F_shows_finite.kp T.B_shows_finite (pa_cons (pv 0) (pa_cons (pe_ix ix_seq (pv 2) pe_int (fun _ _ => rfl)) (pa_cons (pe_ix ix_seq (pv 2) pe_int (fun _ _ => rfl)) pa_nil)))) pe_bl (nomark _)))))))))), ?_⟩
  exact (sok_seq (sok_set 2 eok_none)
 (sok_seq (sok_fo [4] (sok_try (cl := clT T) (t0 := "EndlessOrder") (aok_cons (eok_var 0) aok_nil) (an_cons an_nil) T.m_EndlessOrder_EndlessOrder (soks_seq (soks_set (by decide) fun a => (eoks_or (eoks_isE (b := false) (fun _ h => h) T.k_EndlessOrder_EndlessGroup) (eoks_isE (b := false) (fun _ h => h) T.k_EndlessOrder_NotInCone)))
 (soks_ret fun a => (eoks_and (eoks_of (eok_not (eok_fnH (aok_cons (eok_var 0) aok_nil) (an_cons an_nil)))) (eoks_and (eoks_isE (b := true) (fun _ h => h) T.k_EndlessOrder_GridError) (eoks_and (eoks_isE (b := true) (fun _ h => h) T.k_EndlessOrder_ValueError) (eoks_of (eok_not (eok_var 4))))))))))
 (sok_seq (sok_if (tok_or (tok_not (tok_val (eok_fn (aok_cons (eok_var 0) aok_nil) (an_cons an_nil)))) (tok_or (tok_not (tok_val (eok_isi .tuple (eok_var 2)))) (tok_test (eok_op r2_ne (eok_callB F3.cr_len (aok_cons (eok_var 2) aok_nil)) (eok_int 2)))))
  (sok_ret (eok_bool false))
  sok_pass)
 (sok_seq (sok_if (tok_and (tok_test (eok_op r2_isnot (eok_var 1) eok_none)) (tok_not (tok_val (eok_fn (aok_cons (eok_op r2_ix (eok_var 2) (eok_int 0)) (aok_cons (eok_var 1) aok_nil)) (an_cons (an_cons an_nil))))))
  (sok_ret (eok_bool false))
  sok_pass)
 (sok_ret (eok_and (eok_fn (aok_cons (eok_var 0) (aok_cons (eok_op r2_ix (eok_var 2) (eok_int 0)) (aok_cons (eok_op r2_ix (eok_var 2) (eok_int 1)) aok_nil))) (an_cons (an_cons (an_cons an_nil)))) (eok_op r2_is (eok_fn (aok_cons (eok_var 0) (aok_cons (eok_op r2_ix (eok_var 2) (eok_int 0)) (aok_cons (eok_op r2_ix (eok_var 2) (eok_int 1)) aok_nil))) (an_cons (an_cons (an_cons an_nil)))) (eok_bool true))))))))
end
section
variable {P : Program} {w : World} {K : PySem.W.Frag} {mg : Str → Option Value} {base : Heap}
theorem ok__law_judged (T : Top P K mg) : FnG P w K mg base 27 T.a__law_judged T.fd__law_judged ["turn", "standard", "h", "at"] (spD K 4 f__law_judged) := by
  unfold f__law_judged b__law_judged
  refine fnG_data T.F__law_judged sc__law_judged rfl rfl fun cdv A outer s H hr hG => ?_
  refine ⟨_, (pss_cons (ps_set (i := 4) sc__law_judged.nd rfl (Or.inl rfl) (pe_callTy call_tuple_of (by rfl) T.z_tuple bt_tuple (pa_cons (pe_lc (own := [("number", 15)]) (g := (gName 15)) (tt := tYes) (te := (tUn rNegI (tVar 15))) rfl sc__law_judged.nd (pi_seq (pv 2)) (blkOk_by (own := [("number", 15)]) (N := N__law_judged) (sc := defScope s__law_judged) (by decide +kernel)) (fun _ _ _ _ _ => by exact (pg_name (i := 15) sc__law_judged.nd rfl (Or.inl rfl))) (fun _ _ _ _ _ => by exact pts_nil) (fun _ _ _ _ _ => by exact (pe_un un_neg (pv 15)))) pa_nil)))
 (pss_cons (ps_set (i := 5) sc__law_judged.nd rfl (Or.inl rfl) (pe_lst (pa_cons (pe_tup (pa_cons (pv 1) (pa_cons (pv 2) pa_nil))) (pa_cons (pe_tup (pa_cons (pv 1) (pa_cons (pv 4) pa_nil))) (pa_cons (pe_tup (pa_cons (pv 1) (pa_cons (pe_callG (ok__law_times T) (hr.mono (by omega)) hG (by rfl) T.g__law_times T.F__law_times.kp T.B__law_times (pa_cons (pv 2) (pa_cons (pv 0) pa_nil))) pa_nil))) (pa_cons (pe_tup (pa_cons (pv 1) (pa_cons (pe_callG (ok__law_times T) (hr.mono (by omega)) hG (by rfl) T.g__law_times T.F__law_times.kp T.B__law_times (pa_cons (pv 1) (pa_cons (pv 2) pa_nil))) pa_nil))) pa_nil))))))
 (pss_cons (ps_for PassesOwn.never rfl (pi_seq (pe_callG0 (ok__law_standards T) (hr.mono (by omega)) hG (by rfl) T.g__law_standards T.F__law_standards.kp T.B__law_standards)) (pg_name (i := 6) sc__law_judged.nd rfl (Or.inl rfl))
  (pss_one (ps_set (i := 5) sc__law_judged.nd rfl (Or.inl rfl) (pe_op op_add4 (pv 5) (pe_lst (pa_cons (pe_tup (pa_cons (pv 6) (pa_cons (pv 2) pa_nil))) (pa_cons (pe_tup (pa_cons (pv 6) (pa_cons (pv 4) pa_nil))) (pa_cons (pe_tup (pa_cons (pv 6) (pa_cons (pe_tup (pa_cons pe_int (pa_cons pe_int (pa_cons pe_int (pa_cons pe_int pa_nil))))) pa_nil))) pa_nil))))))))
 (pss_cons (ps_asg (pv 2) (pg_tup rfl (pgs_cons (pg_name (i := 7) sc__law_judged.nd rfl (Or.inl rfl)) (pgs_cons (pg_name (i := 8) sc__law_judged.nd rfl (Or.inl rfl)) (pgs_cons (pg_name (i := 9) sc__law_judged.nd rfl (Or.inl rfl)) (pgs_cons (pg_name (i := 10) sc__law_judged.nd rfl (Or.inl rfl)) pgs_nil))))))
 (pss_cons (ps_for PassesOwn.never rfl (pi_seq (pe_lst (pa_cons (pe_callTy call_list_of (by rfl) T.z_list bt_list (pa_cons (pv 2) pa_nil)) (pa_cons (pe_slice sl_2 (pv 2) po_none (po_some pe_int)) (pa_cons (pe_op op_add4 (pv 2) (pe_tup (pa_cons pe_int pa_nil))) (pa_cons (pe_tup (pa_cons (pe_op op_mulW pe_int (pv 7)) (pa_cons (pe_op op_mulW pe_int (pv 8)) (pa_cons (pe_op op_mulW pe_int (pv 9)) (pa_cons (pe_op op_mulW pe_int (pv 10)) pa_nil))))) (pa_cons (pe_tup (pa_cons pe_int (pa_cons pe_int (pa_cons pe_int (pa_cons pe_int pa_nil))))) (pa_cons (pe_tup (pa_cons (pv 7) (pa_cons (pv 8) (pa_cons (pe_un un_neg (pv 9)) (pa_cons (pe_un un_neg (pv 10)) pa_nil))))) (pa_cons (pe_tup (pa_cons (pv 10) (pa_cons (pe_un un_neg (pv 8)) (pa_cons (pe_un un_neg (pv 9)) (pa_cons (pv 7) pa_nil))))) (pa_cons pe_non (pa_cons pe_bl (pa_cons pe_str (pa_cons (pe_tup (pa_cons (pv 2) pa_nil)) pa_nil))))))))))))) (pg_name (i := 11) sc__law_judged.nd rfl (Or.inl rfl))
  (pss_one (ps_expr (pe_bm PySem.F.plainAttrs_list PySem.F.slot_list_append PySem.F.type_list_append mt_append (pv 5) (pa_cons (pe_tup (pa_cons (pv 1) (pa_cons (pv 11) pa_nil))) pa_nil)))))
 (pss_cons (ps_for PassesOwn.never rfl (pi_seq (pe_lst (pa_cons (pe_op op_add4 (pe_ix ix_seq (pv 2) (pv 3) (fun _ _ => rfl)) pe_int) (pa_cons (pe_op op_sub (pe_ix ix_seq (pv 2) (pv 3) (fun _ _ => rfl)) pe_int) (pa_cons (pe_un un_neg (pe_ix ix_seq (pv 2) (pv 3) (fun _ _ => rfl))) (pa_cons pe_bl (pa_cons pe_bl (pa_cons pe_non (pa_cons (pe_callTy call_strA (by rfl) T.z_str bt_str (pa_cons (pe_ix ix_seq (pv 2) (pv 3) (fun _ _ => rfl)) pa_nil)) (pa_cons (pe_lst (pa_cons (pe_ix ix_seq (pv 2) (pv 3) (fun _ _ => rfl)) pa_nil)) pa_nil)))))))))) (pg_name (i := 11) sc__law_judged.nd rfl (Or.inl rfl))
  (pss_one (ps_expr (pe_bm PySem.F.plainAttrs_list PySem.F.slot_list_append PySem.F.type_list_append mt_append (pv 5) (pa_cons (pe_tup (pa_cons (pv 1) (pa_cons (pe_op op_add4 (pe_op op_add4 (pe_slice sl_2 (pv 2) po_none (po_some (pv 3))) (pe_tup (pa_cons (pv 11) pa_nil))) (pe_slice sl_2 (pv 2) (po_some (pe_op op_add4 (pv 3) pe_int)) po_none)) pa_nil))) pa_nil)))))
 (pss_cons (ps_for PassesOwn.never rfl (pi_seq (pe_lst (pa_cons (pe_op op_add4 (pe_ix ix_seq (pv 1) (pv 3) (fun _ _ => rfl)) pe_int) (pa_cons pe_bl (pa_cons pe_bl (pa_cons pe_non (pa_cons (pe_callTy call_strA (by rfl) T.z_str bt_str (pa_cons (pe_ix ix_seq (pv 1) (pv 3) (fun _ _ => rfl)) pa_nil)) (pa_cons (pe_tup (pa_cons pe_int pa_nil)) pa_nil)))))))) (pg_name (i := 11) sc__law_judged.nd rfl (Or.inl rfl))
  (pss_one (ps_expr (pe_bm PySem.F.plainAttrs_list PySem.F.slot_list_append PySem.F.type_list_append mt_append (pv 5) (pa_cons (pe_tup (pa_cons (pe_op op_add4 (pe_op op_add4 (pe_slice sl_2 (pv 1) po_none (po_some (pv 3))) (pe_tup (pa_cons (pv 11) pa_nil))) (pe_slice sl_2 (pv 1) (po_some (pe_op op_add4 (pv 3) pe_int)) po_none)) (pa_cons (pv 2) pa_nil))) pa_nil)))))
 (pss_cons (ps_set (i := 5) sc__law_judged.nd rfl (Or.inl rfl) (pe_op op_add4 (pv 5) (pe_lst (pa_cons (pe_tup (pa_cons (pe_callTy call_list_of (by rfl) T.z_list bt_list (pa_cons (pv 1) pa_nil)) (pa_cons (pv 2) pa_nil))) (pa_cons (pe_tup (pa_cons (pe_slice sl_2 (pv 1) po_none (po_some pe_int)) (pa_cons (pv 2) pa_nil))) (pa_cons (pe_tup (pa_cons pe_non (pa_cons (pv 2) pa_nil))) (pa_cons (pe_tup (pa_cons (pv 0) (pa_cons (pe_tup (pa_cons pe_int (pa_cons pe_int (pa_cons pe_int (pa_cons pe_int pa_nil))))) pa_nil))) (pa_cons (pe_tup (pa_cons (pv 0) (pa_cons (pv 2) pa_nil))) (pa_cons (pe_tup (pa_cons (pv 2) (pa_cons (pv 1) pa_nil))) (pa_cons (pe_tup (pa_cons (pe_tup pa_nil) (pa_cons (pv 2) pa_nil))) (pa_cons (pe_tup (pa_cons pe_int (pa_cons (pv 2) pa_nil))) pa_nil)))))))))))
 (pss_cons (ps_set (i := 5) sc__law_judged.nd rfl (Or.inl rfl) (pe_op op_add4 (pv 5) (pe_lst (pa_cons (pe_tup (pa_cons (pe_tup (pa_cons pe_bl (pa_cons pe_int (pa_cons pe_int (pa_cons pe_bl pa_nil))))) (pa_cons (pv 2) pa_nil))) (pa_cons (pe_tup (pa_cons (pe_tup (pa_cons pe_int (pa_cons pe_int (pa_cons pe_bl (pa_cons pe_int pa_nil))))) (pa_cons (pv 2) pa_nil))) (pa_cons (pe_tup (pa_cons (pe_tup (pa_cons pe_bl (pa_cons (pe_un un_neg pe_int) (pa_cons pe_int (pa_cons pe_int pa_nil))))) (pa_cons (pv 2) pa_nil))) (pa_cons (pe_tup (pa_cons pe_str (pa_cons (pv 2) pa_nil))) (pa_cons (pe_tup (pa_cons (pe_tup (pa_cons pe_int (pa_cons pe_int (pa_cons pe_int (pa_cons pe_int pa_nil))))) (pa_cons (pv 2) pa_nil))) pa_nil))))))))
 (pss_cons (ps_for PassesOwn.never rfl (pi_seq (pv 5)) (pg_tup rfl (pgs_cons (pg_name (i := 12) sc__law_judged.nd rfl (Or.inl rfl)) (pgs_cons (pg_name (i := 6) sc__law_judged.nd rfl (Or.inl rfl)) pgs_nil)))
  (pss_cons (ps_set (i := 13) sc__law_judged.nd rfl (Or.inl rfl) (pe_lst (pa_cons (pe_callG (ok__law_fresh T 24) (hr.mono (by omega)) hG (by rfl) T.g__law_fresh T.F__law_fresh.kp T.B__law_fresh (pa_cons (pv 12) pa_nil)) (pa_cons (pe_callG (ok__law_fresh T 24) (hr.mono (by omega)) hG (by rfl) T.g__law_fresh T.F__law_fresh.kp T.B__law_fresh (pa_cons (pv 6) pa_nil)) pa_nil))))
 (pss_cons (ps_set (i := 14) sc__law_judged.nd rfl (Or.inl rfl) (pe_callG (ok_shows_finite T) (hr.mono (by omega)) hG (by rfl) T.g_shows_finite T.F_shows_finite.kp T.B_shows_finite (pa_cons (pv 0) (pa_cons (pe_ix ix_seq (pv 13) pe_int (fun _ _ => rfl)) (pa_cons (pe_ix ix_seq (pv 13) pe_int (fun _ _ => rfl)) pa_nil)))))
 (pss_one (ps_if (PW.pt (pw_or (pt_cmpR (op_neA hr.units) (pe_callB (call_repr hG (ru66 hr)) (by rfl) T.z_repr bt_repr (pa_cons (pv 13) pa_nil)) (pe_callB (call_repr hG (ru66 hr)) (by rfl) T.z_repr bt_repr (pa_cons (pe_lst (pa_cons (pv 12) (pa_cons (pv 6) pa_nil))) pa_nil)) (nomark _)) (pw_or1 (pt_not (pt_val (pe_callG (ok__law_same T 24) (hr.mono (by omega)) hG (by rfl) T.g__law_same T.F__law_same.kp T.B__law_same (pa_cons (pv 14) (pa_cons (pe_callG (ok__law_right T) (hr.mono (by omega)) hG (by rfl) T.g__law_right T.F__law_right.kp T.B__law_right (pa_cons (pv 0) (pa_cons (pv 12) (pa_cons (pv 6) pa_nil)))) pa_nil))))))))
  (pss_one (ps_ret pe_bl))
  pss_nil)))))
 (pss_one (ps_ret pe_bl)))))))))))), ?_⟩
  exact (sok_seq (sok_set 4 (eok_callB cr_tuple (aok_cons (eok_lc (iok_seq (eok_var 2)) (gok_name 15) tok_yes (eok_un r1_neg (eok_var 15)) (by decide)) aok_nil)))
 (sok_seq (sok_set 5 (eok_lst (aok_cons (eok_tup (aok_cons (eok_var 1) (aok_cons (eok_var 2) aok_nil))) (aok_cons (eok_tup (aok_cons (eok_var 1) (aok_cons (eok_var 4) aok_nil))) (aok_cons (eok_tup (aok_cons (eok_var 1) (aok_cons (eok_fn (aok_cons (eok_var 2) (aok_cons (eok_var 0) aok_nil)) (an_cons (an_cons an_nil))) aok_nil))) (aok_cons (eok_tup (aok_cons (eok_var 1) (aok_cons (eok_fn (aok_cons (eok_var 1) (aok_cons (eok_var 2) aok_nil)) (an_cons (an_cons an_nil))) aok_nil))) aok_nil))))))
 (sok_seq (sok_fo [6] (sok_pre [6] (sok_for (iok_seq (eok_fn aok_nil an_nil)) (gok_name 6)
  (sok_fo [6] (sok_set 5 (eok_op r2_add (eok_var 5) (eok_lst (aok_cons (eok_tup (aok_cons (eok_var 6) (aok_cons (eok_var 2) aok_nil))) (aok_cons (eok_tup (aok_cons (eok_var 6) (aok_cons (eok_var 4) aok_nil))) (aok_cons (eok_tup (aok_cons (eok_var 6) (aok_cons (eok_tup (aok_cons (eok_int 1) (aok_cons (eok_int 0) (aok_cons (eok_int 0) (aok_cons (eok_int 1) aok_nil))))) aok_nil))) aok_nil))))))))))
 (sok_seq (sok_unp (gok_tup (gsok_cons (gok_name 7) (gsok_cons (gok_name 8) (gsok_cons (gok_name 9) (gsok_cons (gok_name 10) gsok_nil)))) (gs_len (gs_len (gs_len (gs_len gs_len0 _) _) _) _)) (eok_var 2))
 (sok_seq (sok_fo [11] (sok_pre [11] (sok_for (iok_seq (eok_lst (aok_cons (eok_callB cr_list (aok_cons (eok_var 2) aok_nil)) (aok_cons (eok_sl (eok_var 2) ook_no (ook_is (eok_int 3))) (aok_cons (eok_op r2_add (eok_var 2) (eok_tup (aok_cons (eok_int 0) aok_nil))) (aok_cons (eok_tup (aok_cons (eok_op r2_mulI (eok_int 2) (eok_var 7)) (aok_cons (eok_op r2_mulI (eok_int 2) (eok_var 8)) (aok_cons (eok_op r2_mulI (eok_int 2) (eok_var 9)) (aok_cons (eok_op r2_mulI (eok_int 2) (eok_var 10)) aok_nil))))) (aok_cons (eok_tup (aok_cons (eok_int 0) (aok_cons (eok_int 0) (aok_cons (eok_int 0) (aok_cons (eok_int 0) aok_nil))))) (aok_cons (eok_tup (aok_cons (eok_var 7) (aok_cons (eok_var 8) (aok_cons (eok_un r1_neg (eok_var 9)) (aok_cons (eok_un r1_neg (eok_var 10)) aok_nil))))) (aok_cons (eok_tup (aok_cons (eok_var 10) (aok_cons (eok_un r1_neg (eok_var 8)) (aok_cons (eok_un r1_neg (eok_var 9)) (aok_cons (eok_var 7) aok_nil))))) (aok_cons eok_none (aok_cons (eok_bool true) (aok_cons (eok_str "") (aok_cons (eok_tup (aok_cons (eok_var 2) aok_nil)) aok_nil))))))))))))) (gok_name 11)
  (sok_fo [11] (sok_app 5 (eok_tup (aok_cons (eok_var 1) (aok_cons (eok_var 11) aok_nil))))))))
 (sok_seq (sok_fo [11] (sok_pre [11] (sok_for (iok_seq (eok_lst (aok_cons (eok_op r2_add (eok_op r2_ix (eok_var 2) (eok_var 3)) (eok_int 1)) (aok_cons (eok_op r2_sub (eok_op r2_ix (eok_var 2) (eok_var 3)) (eok_int 1)) (aok_cons (eok_un r1_neg (eok_op r2_ix (eok_var 2) (eok_var 3))) (aok_cons (eok_bool true) (aok_cons (eok_bool false) (aok_cons eok_none (aok_cons (eok_callB cr_str (aok_cons (eok_op r2_ix (eok_var 2) (eok_var 3)) aok_nil)) (aok_cons (eok_lst (aok_cons (eok_op r2_ix (eok_var 2) (eok_var 3)) aok_nil)) aok_nil)))))))))) (gok_name 11)
  (sok_fo [11] (sok_app 5 (eok_tup (aok_cons (eok_var 1) (aok_cons (eok_op r2_add (eok_op r2_add (eok_sl (eok_var 2) ook_no (ook_is (eok_var 3))) (eok_tup (aok_cons (eok_var 11) aok_nil))) (eok_sl (eok_var 2) (ook_is (eok_op r2_add (eok_var 3) (eok_int 1))) ook_no)) aok_nil))))))))
 (sok_seq (sok_fo [11] (sok_pre [11] (sok_for (iok_seq (eok_lst (aok_cons (eok_op r2_add (eok_op r2_ix (eok_var 1) (eok_var 3)) (eok_int 1)) (aok_cons (eok_bool true) (aok_cons (eok_bool false) (aok_cons eok_none (aok_cons (eok_callB cr_str (aok_cons (eok_op r2_ix (eok_var 1) (eok_var 3)) aok_nil)) (aok_cons (eok_tup (aok_cons (eok_int 0) aok_nil)) aok_nil)))))))) (gok_name 11)
  (sok_fo [11] (sok_app 5 (eok_tup (aok_cons (eok_op r2_add (eok_op r2_add (eok_sl (eok_var 1) ook_no (ook_is (eok_var 3))) (eok_tup (aok_cons (eok_var 11) aok_nil))) (eok_sl (eok_var 1) (ook_is (eok_op r2_add (eok_var 3) (eok_int 1))) ook_no)) (aok_cons (eok_var 2) aok_nil))))))))
 (sok_seq (sok_set 5 (eok_op r2_add (eok_var 5) (eok_lst (aok_cons (eok_tup (aok_cons (eok_callB cr_list (aok_cons (eok_var 1) aok_nil)) (aok_cons (eok_var 2) aok_nil))) (aok_cons (eok_tup (aok_cons (eok_sl (eok_var 1) ook_no (ook_is (eok_int 3))) (aok_cons (eok_var 2) aok_nil))) (aok_cons (eok_tup (aok_cons eok_none (aok_cons (eok_var 2) aok_nil))) (aok_cons (eok_tup (aok_cons (eok_var 0) (aok_cons (eok_tup (aok_cons (eok_int 1) (aok_cons (eok_int 0) (aok_cons (eok_int 0) (aok_cons (eok_int 1) aok_nil))))) aok_nil))) (aok_cons (eok_tup (aok_cons (eok_var 0) (aok_cons (eok_var 2) aok_nil))) (aok_cons (eok_tup (aok_cons (eok_var 2) (aok_cons (eok_var 1) aok_nil))) (aok_cons (eok_tup (aok_cons (eok_tup aok_nil) (aok_cons (eok_var 2) aok_nil))) (aok_cons (eok_tup (aok_cons (eok_int 1) (aok_cons (eok_var 2) aok_nil))) aok_nil)))))))))))
 (sok_seq (sok_set 5 (eok_op r2_add (eok_var 5) (eok_lst (aok_cons (eok_tup (aok_cons (eok_tup (aok_cons (eok_bool true) (aok_cons (eok_int 0) (aok_cons (eok_int 0) (aok_cons (eok_bool true) aok_nil))))) (aok_cons (eok_var 2) aok_nil))) (aok_cons (eok_tup (aok_cons (eok_tup (aok_cons (eok_int 1) (aok_cons (eok_int 0) (aok_cons (eok_bool false) (aok_cons (eok_int 1) aok_nil))))) (aok_cons (eok_var 2) aok_nil))) (aok_cons (eok_tup (aok_cons (eok_tup (aok_cons (eok_bool false) (aok_cons (eok_un r1_neg (eok_int 1)) (aok_cons (eok_int 1) (aok_cons (eok_int 0) aok_nil))))) (aok_cons (eok_var 2) aok_nil))) (aok_cons (eok_tup (aok_cons (eok_str "turn") (aok_cons (eok_var 2) aok_nil))) (aok_cons (eok_tup (aok_cons (eok_tup (aok_cons (eok_int 2) (aok_cons (eok_int 1) (aok_cons (eok_int 1) (aok_cons (eok_int 1) aok_nil))))) (aok_cons (eok_var 2) aok_nil))) aok_nil))))))))
 (sok_seq (sok_frz [5] (sok_fo [6, 12, 13, 14] (sok_pre [6, 12, 13, 14] (sok_for (iok_seq (eok_var 5)) (gok_tup (gsok_cons (gok_name 12) (gsok_cons (gok_name 6) gsok_nil)) (gs_len (gs_len gs_len0 _) _))
  (sok_fo [6, 12, 13, 14] (sok_seq (sok_set 13 (eok_lst (aok_cons (eok_fn (aok_cons (eok_var 12) aok_nil) (an_cons an_nil)) (aok_cons (eok_fn (aok_cons (eok_var 6) aok_nil) (an_cons an_nil)) aok_nil))))
 (sok_seq (sok_set 14 (eok_fn (aok_cons (eok_var 0) (aok_cons (eok_op r2_ix (eok_var 13) (eok_int 0)) (aok_cons (eok_op r2_ix (eok_var 13) (eok_int 1)) aok_nil))) (an_cons (an_cons (an_cons an_nil)))))
 (sok_if (tok_or (tok_test (eok_op r2_ne (eok_callB cr_repr (aok_cons (eok_var 13) aok_nil)) (eok_callB cr_repr (aok_cons (eok_lst (aok_cons (eok_var 12) (aok_cons (eok_var 6) aok_nil))) aok_nil)))) (tok_not (tok_val (eok_fn (aok_cons (eok_var 14) (aok_cons (eok_fn (aok_cons (eok_var 0) (aok_cons (eok_var 12) (aok_cons (eok_var 6) aok_nil))) (an_cons (an_cons (an_cons an_nil)))) aok_nil)) (an_cons (an_cons an_nil))))))
  (sok_ret (eok_bool false))
  sok_pass))))))))
 (sok_ret (eok_bool true))))))))))))
end
section
variable {P : Program} {w : World} {K : PySem.W.Frag} {mg : Str → Option Value} {base : Heap}
theorem ok_law (T : Top P K mg) : FnG P w K mg base 28 T.a_law T.fd_law ["script"] (spD K 1 f_law) := by
  unfold f_law b_law
  refine fnG_data T.F_law sc_law rfl rfl fun cdv A outer s H hr hG => ?_
  refine ⟨_, (pss_cons (ps_set (i := 1) sc_law.nd rfl (Or.inl rfl) (pe_callG (ok__law_draws T) (hr.mono (by omega)) hG (by rfl) T.g__law_draws T.F__law_draws.kp T.B__law_draws (pa_cons (pv 0) (pa_cons pe_int pa_nil))))
 (pss_cons (ps_set (i := 2) sc_law.nd rfl (Or.inl rfl) pe_int)
 (pss_cons (ps_if (pt_cmpR (op_eqA hr.units) (pe_op op_modN (pe_ix ix_seq (pv 1) pe_int (fun _ _ => rfl)) pe_int) pe_int (nomark _))
  (pss_one (ps_set (i := 2) sc_law.nd rfl (Or.inl rfl) (pe_op op_pow pe_int pe_int)))
  pss_nil)
 (pss_cons (ps_set (i := 3) sc_law.nd rfl (Or.inl rfl) (pe_callG (ok__law_even T) (hr.mono (by omega)) hG (by rfl) T.g__law_even T.F__law_even.kp T.B__law_even (pa_cons (pv 1) (pa_cons pe_int (pa_cons (pe_op op_modN (pe_op op_fdivA (pe_ix ix_seq (pv 1) pe_int (fun _ _ => rfl)) pe_int) pe_int) (pa_cons (pv 2) pa_nil))))))
 (pss_cons (ps_set (i := 4) sc_law.nd rfl (Or.inl rfl) (pe_tup (pa_cons (pe_ix ix_seq (pv 3) pe_int (fun _ _ => rfl)) (pa_cons (pe_un un_neg (pe_ix ix_seq (pv 3) pe_int (fun _ _ => rfl))) (pa_cons (pe_un un_neg (pe_ix ix_seq (pv 3) pe_int (fun _ _ => rfl))) (pa_cons (pe_ix ix_seq (pv 3) pe_int (fun _ _ => rfl)) pa_nil))))))
 (pss_cons (ps_set (i := 5) sc_law.nd rfl (Or.inl rfl) (pe_ix ix_seq (pe_callG0 (ok__law_standards T) (hr.mono (by omega)) hG (by rfl) T.g__law_standards T.F__law_standards.kp T.B__law_standards) (pe_op op_modN (pe_ix ix_seq (pv 1) pe_int (fun _ _ => rfl)) pe_int) (fun _ _ => rfl)))
 (pss_cons (ps_set (i := 6) sc_law.nd rfl (Or.inl rfl) (pe_callG (ok__law_by T) (hr.mono (by omega)) hG (by rfl) T.g__law_by T.F__law_by.kp T.B__law_by (pa_cons (pv 3) (pa_cons (pv 5) pa_nil))))
 (pss_cons (ps_set (i := 7) sc_law.nd rfl (Or.inl rfl) (pe_op op_modN (pe_ix ix_seq (pv 1) pe_int (fun _ _ => rfl)) pe_int))
 (pss_cons (ps_if (PW.pt (pw_or (pt_not (pt_val (pe_callG (ok__law_told T) (hr.mono (by omega)) hG (by rfl) T.g__law_told T.F__law_told.kp T.B__law_told (pa_cons (pv 6) (pa_cons (pv 5) pa_nil))))) (pw_or1 (pt_not (pt_val (pe_callG (ok__law_judged T) (hr.mono (by omega)) hG (by rfl) T.g__law_judged T.F__law_judged.kp T.B__law_judged (pa_cons (pv 6) (pa_cons (pv 5) (pa_cons (pv 4) (pa_cons (pv 7) pa_nil))))))))))
  (pss_one (ps_ret pe_bl))
  pss_nil)
 (pss_cons (ps_set (i := 8) sc_law.nd rfl (Or.inl rfl) (pe_callG (ok__law_of_word T) (hr.mono (by omega)) hG (by rfl) T.g__law_of_word T.F__law_of_word.kp T.B__law_of_word (pa_cons (pe_callG (ok__law_word T) (hr.mono (by omega)) hG (by rfl) T.g__law_word T.F__law_word.kp T.B__law_word (pa_cons (pv 1) (pa_cons pe_int (pa_cons (pe_op op_add4 pe_int (pe_op op_modN (pe_ix ix_seq (pv 1) pe_int (fun _ _ => rfl)) pe_int)) (pa_cons pe_int pa_nil))))) pa_nil)))
 (pss_cons (ps_set (i := 9) sc_law.nd rfl (Or.inl rfl) (pe_op op_sub pe_int (pe_op op_mulW pe_int (pe_op op_modN (pe_ix ix_seq (pv 1) pe_int (fun _ _ => rfl)) pe_int))))
 (pss_cons (ps_set (i := 10) sc_law.nd rfl (Or.inl rfl) (pe_callG (ok__law_by T) (hr.mono (by omega)) hG (by rfl) T.g__law_by T.F__law_by.kp T.B__law_by (pa_cons (pv 3) (pa_cons (pe_tup (pa_cons (pv 9) (pa_cons (pe_op op_sub (pe_op op_modN (pe_ix ix_seq (pv 1) pe_int (fun _ _ => rfl)) pe_int) pe_int) (pa_cons pe_int (pa_cons (pv 9) pa_nil))))) pa_nil))))
 (pss_cons (ps_set (i := 11) sc_law.nd rfl (Or.inl rfl) (pe_lst (pa_cons (pv 8) (pa_cons (pe_callG (ok__law_by T) (hr.mono (by omega)) hG (by rfl) T.g__law_by T.F__law_by.kp T.B__law_by (pa_cons (pv 3) (pa_cons (pv 8) pa_nil))) (pa_cons (pv 10) (pa_cons (pe_tup (pa_cons pe_int (pa_cons pe_int (pa_cons pe_int (pa_cons pe_int pa_nil))))) (pa_cons (pe_tup (pa_cons pe_int (pa_cons pe_int (pa_cons pe_int (pa_cons pe_int pa_nil))))) (pa_cons (pe_tup (pa_cons (pe_un un_neg pe_int) (pa_cons pe_int (pa_cons pe_int (pa_cons (pe_un un_neg pe_int) pa_nil))))) pa_nil))))))))
 (pss_cons (ps_for PassesOwn.never rfl (pi_seq (pv 11)) (pg_name (i := 12) sc_law.nd rfl (Or.inl rfl))
  (pss_one (ps_if (pt_not (pt_val (pe_callG (ok__law_told T) (hr.mono (by omega)) hG (by rfl) T.g__law_told T.F__law_told.kp T.B__law_told (pa_cons (pv 12) (pa_cons pe_non pa_nil)))))
  (pss_one (ps_ret pe_bl))
  pss_nil)))
 (pss_cons (ps_for PassesOwn.never rfl (pi_range1 (by rfl) T.z_range (pa_cons pe_int pa_nil)) (pg_name (i := 13) sc_law.nd rfl (Or.inl rfl))
  (pss_one (ps_if (pt_not (pt_val (pe_callG (ok__law_judged T) (hr.mono (by omega)) hG (by rfl) T.g__law_judged T.F__law_judged.kp T.B__law_judged (pa_cons (pe_ix ix_seq (pv 11) (pe_op op_modN (pe_op op_add4 (pe_ix ix_seq (pv 1) pe_int (fun _ _ => rfl)) (pe_op op_mulW pe_int (pv 13))) pe_int) (fun _ _ => rfl)) (pa_cons (pv 5) (pa_cons (pv 4) (pa_cons (pv 7) pa_nil)))))))
  (pss_one (ps_ret pe_bl))
  pss_nil)))
 (pss_cons (ps_for PassesOwn.never rfl (pi_seq (pe_callG0 (ok__law_standards T) (hr.mono (by omega)) hG (by rfl) T.g__law_standards T.F__law_standards.kp T.B__law_standards)) (pg_name (i := 14) sc_law.nd rfl (Or.inl rfl))
  (pss_one (ps_if (PW.pt (pw_or (pt_not (pt_val (pe_callG (ok__law_told T) (hr.mono (by omega)) hG (by rfl) T.g__law_told T.F__law_told.kp T.B__law_told (pa_cons (pv 14) (pa_cons (pv 14) pa_nil))))) (pw_or1 (pt_not (pt_val (pe_callG (ok__law_told T) (hr.mono (by omega)) hG (by rfl) T.g__law_told T.F__law_told.kp T.B__law_told (pa_cons (pe_callG (ok__law_by T) (hr.mono (by omega)) hG (by rfl) T.g__law_by T.F__law_by.kp T.B__law_by (pa_cons (pv 4) (pa_cons (pv 14) pa_nil))) (pa_cons (pv 14) pa_nil))))))))
  (pss_one (ps_ret pe_bl))
  pss_nil)))
 (pss_one (ps_ret (pe_callG (ok__law_told T) (hr.mono (by omega)) hG (by rfl) T.g__law_told T.F__law_told.kp T.B__law_told (pa_cons (pv 6) (pa_cons (pv 5) pa_nil))))))))))))))))))))), ?_⟩
  exact (sok_seq (sok_set 1 (eok_fn (aok_cons (eok_var 0) (aok_cons (eok_int 24) aok_nil)) (an_cons (an_cons an_nil))))
 (sok_seq (sok_set 2 (eok_int 4))
 (sok_seq (sok_if (tok_test (eok_op r2_eq (eok_op r2_mod (eok_op r2_ix (eok_var 1) (eok_int 1)) (eok_int 8)) (eok_int 3)))
  (sok_set 2 (eok_op r2_pow (eok_int 10) (eok_int 3)))
  sok_pass)
 (sok_seq (sok_frz [1] (sok_set 3 (eok_fn (aok_cons (eok_var 1) (aok_cons (eok_int 2) (aok_cons (eok_op r2_mod (eok_op r2_fdiv (eok_op r2_ix (eok_var 1) (eok_int 1)) (eok_int 8)) (eok_int 7)) (aok_cons (eok_var 2) aok_nil)))) (an_cons (an_cons (an_cons (an_cons an_nil)))))))
 (sok_seq (sok_set 4 (eok_tup (aok_cons (eok_op r2_ix (eok_var 3) (eok_int 3)) (aok_cons (eok_un r1_neg (eok_op r2_ix (eok_var 3) (eok_int 1))) (aok_cons (eok_un r1_neg (eok_op r2_ix (eok_var 3) (eok_int 2))) (aok_cons (eok_op r2_ix (eok_var 3) (eok_int 0)) aok_nil))))))
 (sok_seq (sok_set 5 (eok_op r2_ix (eok_fn aok_nil an_nil) (eok_op r2_mod (eok_op r2_ix (eok_var 1) (eok_int 0)) (eok_int 8))))
 (sok_seq (sok_set 6 (eok_fn (aok_cons (eok_var 3) (aok_cons (eok_var 5) aok_nil)) (an_cons (an_cons an_nil))))
 (sok_seq (sok_set 7 (eok_op r2_mod (eok_op r2_ix (eok_var 1) (eok_int 9)) (eok_int 4)))
 (sok_seq (sok_if (tok_or (tok_not (tok_val (eok_fn (aok_cons (eok_var 6) (aok_cons (eok_var 5) aok_nil)) (an_cons (an_cons an_nil))))) (tok_not (tok_val (eok_fn (aok_cons (eok_var 6) (aok_cons (eok_var 5) (aok_cons (eok_var 4) (aok_cons (eok_var 7) aok_nil)))) (an_cons (an_cons (an_cons (an_cons an_nil))))))))
  (sok_ret (eok_bool false))
  sok_pass)
 (sok_seq (sok_frz [1] (sok_set 8 (eok_fn (aok_cons (eok_fn (aok_cons (eok_var 1) (aok_cons (eok_int 10) (aok_cons (eok_op r2_add (eok_int 1) (eok_op r2_mod (eok_op r2_ix (eok_var 1) (eok_int 15)) (eok_int 5))) (aok_cons (eok_int 4) aok_nil)))) (an_cons (an_cons (an_cons (an_cons an_nil))))) aok_nil) (an_cons an_nil))))
 (sok_seq (sok_set 9 (eok_op r2_sub (eok_int 1) (eok_op r2_mulI (eok_int 2) (eok_op r2_mod (eok_op r2_ix (eok_var 1) (eok_int 16)) (eok_int 2)))))
 (sok_seq (sok_set 10 (eok_fn (aok_cons (eok_var 3) (aok_cons (eok_tup (aok_cons (eok_var 9) (aok_cons (eok_op r2_sub (eok_op r2_mod (eok_op r2_ix (eok_var 1) (eok_int 17)) (eok_int 7)) (eok_int 3)) (aok_cons (eok_int 0) (aok_cons (eok_var 9) aok_nil))))) aok_nil)) (an_cons (an_cons an_nil))))
 (sok_seq (sok_set 11 (eok_lst (aok_cons (eok_var 8) (aok_cons (eok_fn (aok_cons (eok_var 3) (aok_cons (eok_var 8) aok_nil)) (an_cons (an_cons an_nil))) (aok_cons (eok_var 10) (aok_cons (eok_tup (aok_cons (eok_int 2) (aok_cons (eok_int 1) (aok_cons (eok_int 1) (aok_cons (eok_int 1) aok_nil))))) (aok_cons (eok_tup (aok_cons (eok_int 1) (aok_cons (eok_int 1) (aok_cons (eok_int 0) (aok_cons (eok_int 1) aok_nil))))) (aok_cons (eok_tup (aok_cons (eok_un r1_neg (eok_int 1)) (aok_cons (eok_int 0) (aok_cons (eok_int 1) (aok_cons (eok_un r1_neg (eok_int 1)) aok_nil))))) aok_nil))))))))
 (sok_seq (sok_frz [11] (sok_fo [12] (sok_pre [12] (sok_for (iok_seq (eok_var 11)) (gok_name 12)
  (sok_fo [12] (sok_if (tok_not (tok_val (eok_fn (aok_cons (eok_var 12) (aok_cons eok_none aok_nil)) (an_cons (an_cons an_nil)))))
  (sok_ret (eok_bool false))
  sok_pass))))))
 (sok_seq (sok_fo [13] (sok_pre [13] (sok_for (iok_rng1 (aok_cons (eok_int 2) aok_nil)) (gok_name 13)
  (sok_fo [13] (sok_if (tok_not (tok_val (eok_fn (aok_cons (eok_op r2_ix (eok_var 11) (eok_op r2_mod (eok_op r2_add (eok_op r2_ix (eok_var 1) (eok_int 18)) (eok_op r2_mulI (eok_int 3) (eok_var 13))) (eok_int 6))) (aok_cons (eok_var 5) (aok_cons (eok_var 4) (aok_cons (eok_var 7) aok_nil)))) (an_cons (an_cons (an_cons (an_cons an_nil)))))))
  (sok_ret (eok_bool false))
  sok_pass)))))
 (sok_seq (sok_fo [14] (sok_pre [14] (sok_for (iok_seq (eok_fn aok_nil an_nil)) (gok_name 14)
  (sok_fo [14] (sok_if (tok_or (tok_not (tok_val (eok_fn (aok_cons (eok_var 14) (aok_cons (eok_var 14) aok_nil)) (an_cons (an_cons an_nil))))) (tok_not (tok_val (eok_fn (aok_cons (eok_fn (aok_cons (eok_var 4) (aok_cons (eok_var 14) aok_nil)) (an_cons (an_cons an_nil))) (aok_cons (eok_var 14) aok_nil)) (an_cons (an_cons an_nil))))))
  (sok_ret (eok_bool false))
  sok_pass)))))
 (sok_ret (eok_fn (aok_cons (eok_var 6) (aok_cons (eok_var 5) aok_nil)) (an_cons (an_cons an_nil))))))))))))))))))))
end
end Lk76
set_option maxRecDepth 100000
set_option maxHeartbeats 1000000
namespace Lk76
open PySem L2 F3
theorem mulOks {n m : Nat} {x y : M} (hx : x.bd n) (hy : y.bd m) (h : n + m < 1000000) :
    mulOk x.a y.a ∧ mulOk x.b y.c ∧ mulOk x.a y.b ∧ mulOk x.b y.d ∧ mulOk x.c y.a ∧ mulOk x.d y.c ∧ mulOk x.c y.b ∧ mulOk x.d y.d := by
  obtain ⟨h1, h2, h3, h4⟩ := hx
  obtain ⟨g1, g2, g3, g4⟩ := hy
  exact ⟨mulOk_of h1 g1 h, mulOk_of h2 g3 h, mulOk_of h1 g2 h, mulOk_of h2 g4 h, mulOk_of h3 g1 h, mulOk_of h4 g3 h, mulOk_of h3 g2 h, mulOk_of h4 g4 h⟩
theorem e_turn_product {n m : Nat} {x y : M} (hx : x.bd n) (hy : y.bd m) (h : n + m < 1000000) : f_turn_product [x.D, y.D] = some (.sh (x * y).D) := by
  obtain ⟨h1, h2, h3, h4, h5, h6, h7, h8⟩ := mulOks hx hy h
  simp [f_turn_product, b_turn_product, M.D, M.mul_def, *]
theorem e_law_times {n m : Nat} {x y : M} (hx : x.bd n) (hy : y.bd m) (h : n + m < 1000000) : f__law_times [x.D, y.D] = some (.sh (x * y).D) := by
  obtain ⟨h1, h2, h3, h4, h5, h6, h7, h8⟩ := mulOks hx hy h
  simp [f__law_times, b__law_times, M.D, M.mul_def, *]
theorem e_turn_back (x : M) : f_turn_back [x.D] = some (.sh x.inv.D) := by
  simp [f_turn_back, b_turn_back, M.D, M.inv]
theorem e_turned_by {n m : Nat} {x h : M} (hx : x.bd n) (hh : h.bd m) (hs : n + m + m + 1 < 1000000) : f_turned_by [x.D, h.D] = some (.sh (M.by_ h x).D) := by
  have e1 := e_turn_product hh hx (by omega)
  have e2 := e_turn_product (hh.mul hx) hh.inv (by omega)
  simp [f_turned_by, b_turned_by, e_turn_back, e1, e2, M.by_]
theorem e_law_by {n m : Nat} {x h : M} (hx : x.bd n) (hh : h.bd m) (hs : n + m + m + 1 < 1000000) : f__law_by [h.D, x.D] = some (.sh (M.by_ h x).D) := by
  have e1 := e_law_times hh hx (by omega)
  have e2 := e_law_times (hh.mul hx) hh.inv (by omega)
  simp [f__law_by, b__law_by, e1]
  simp [M.D, M.inv] at e2 ⊢
  simp [e2, M.by_, M.inv]
theorem e_leads {n m k : Nat} {x y h : M} (hx : x.bd n) (hy : y.bd m) (hh : h.bd k) (h1 : k + n < 1000000) (h2 : m + k < 1000000) : f_leads [x.D, y.D, h.D] = some (.sh (.bool (decide (h * x = y * h)))) := by
  have e1 := e_turn_product hh hx h1
  have e2 := e_turn_product hy hh h2
  simp [f_leads, b_leads, e1, e2, eqD_M]
theorem e_law_leads {n m k : Nat} {x y h : M} (hx : x.bd n) (hy : y.bd m) (hh : h.bd k) (h1 : k + n < 1000000) (h2 : m + k < 1000000) : f__law_leads [x.D, y.D, h.D] = some (.sh (.bool (decide (h * x = y * h)))) := by
  have e1 := e_law_times hh hx h1
  have e2 := e_law_times hy hh h2
  simp [f__law_leads, b__law_leads, e1, e2, eqD_M]
def isNum : PyData → Bool
  | .int _ => true
  | _ => false
theorem e_is_number (d : PyData) : f_is_number [d] = some (.sh (.bool (isNum d))) := by
  cases d <;> simp [f_is_number, b_is_number, isNum]
theorem e_law_is_number (d : PyData) : f__law_is_number [d] = some (.sh (.bool (isNum d))) := by
  cases d <;> simp [f__law_is_number, b__law_is_number, isNum]
theorem nums_of : ∀ {ds : List PyData}, ds.all isNum = true → ∃ ns : List Int, ds = ns.map .int
  | [], _ => ⟨[], rfl⟩
  | d :: ds, h => by
    simp only [List.all_cons, Bool.and_eq_true] at h
    obtain ⟨ns, rfl⟩ := nums_of h.2
    cases d with
    | int i => exact ⟨i :: ns, rfl⟩
    | _ => exact absurd h.1 (by simp [isNum])
theorem all_nums (ns : List Int) : (ns.map PyData.int).all isNum = true := by
  simp [isNum]
theorem for_all {g : PyData → Rh → Option Rh} {b : Rh → Option Out} {p : PyData → Bool} {ρ : Rh} (h : ∀ d, ((g d ρ).bind b) = some (if p d = true then .nx ρ else .rt (.sh (.bool false)))) :
    ∀ ds : List PyData, forD g b ds ρ = some (if ds.all p = true then .nx ρ else .rt (.sh (.bool false)))
  | [] => by simp [forD]
  | d :: ds => by
    have hd := h d
    obtain ⟨ρ1, e1, e2⟩ := bind_some hd
    have ih := for_all h ds
    unfold forD
    rw [e1, Option.bind_some, e2, Option.bind_some]
    by_cases hp : p d = true
    · simp only [hp, if_true, List.all_cons, Bool.true_and]
      exact ih
    · simp [hp]
def isTupN (k : Nat) : PyData → Bool
  | .tuple ds => decide (ds.length = k) && ds.all isNum
  | _ => false
theorem e_is_number_tuple (d : PyData) (k : Nat) : f_is_number_tuple [d, .int k] = some (.sh (.bool (isTupN k d))) := by
  cases d with
  | tuple ds =>
    have := for_all (g := gNm 2) (b := sFo [2] (sIf (tNotD (tOf (eFn f_is_number (aCons (eVar 2) aNil)))) (sRet (eC (.bool false))) sPass)) (p := isNum) (ρ := [some (.sh (.tuple ds)), some (.sh (.int k)), none]) (fun d => by
      simp [e_is_number]
      cases isNum d <;> first | rfl | simp) ds
    by_cases hk : ds.length = k
    · cases hb : ds.all isNum <;> rw [hb] at this <;> simp [f_is_number_tuple, b_is_number_tuple, this, isTupN, hk, hb]
    · have hk' : ¬ (ds.length : Int) = (k : Int) := by omega
      simp [f_is_number_tuple, b_is_number_tuple, isTupN, hk, hk']
  | _ => simp [f_is_number_tuple, b_is_number_tuple, isTupN]
theorem e_law_is_tuple (d : PyData) (k : Nat) : f__law_is_tuple [d, .int k] = some (.sh (.bool (isTupN k d))) := by
  cases d with
  | tuple ds =>
    have := for_all (g := gNm 2) (b := sFo [2] (sIf (tNotD (tOf (eFn f__law_is_number (aCons (eVar 2) aNil)))) (sRet (eC (.bool false))) sPass)) (p := isNum) (ρ := [some (.sh (.tuple ds)), some (.sh (.int k)), none]) (fun d => by
      simp [e_law_is_number]
      cases isNum d <;> first | rfl | simp) ds
    by_cases hk : ds.length = k
    · cases hb : ds.all isNum <;> rw [hb] at this <;> simp [f__law_is_tuple, b__law_is_tuple, this, isTupN, hk, hb]
    · have hk' : ¬ (ds.length : Int) = (k : Int) := by omega
      simp [f__law_is_tuple, b__law_is_tuple, isTupN, hk, hk']
  | _ => simp [f__law_is_tuple, b__law_is_tuple, isTupN]
def isTurn : PyData → Bool
  | .tuple [.int a, .int b, .int c, .int e] => decide ((M.mk a b c e).det = 1)
  | _ => false
theorem isTurn_M (m : M) : isTurn m.D = decide (m.det = 1) := rfl
theorem tup4 {d : PyData} (h : isTupN 4 d = true) : ∃ m : M, d = m.D := by
  cases d with
  | tuple ds =>
    simp only [isTupN, Bool.and_eq_true, decide_eq_true_eq] at h
    obtain ⟨ns, rfl⟩ := nums_of h.2
    have hl := h.1
    rw [List.length_map] at hl
    match ns, hl with
    | [a, b, c, e], _ => exact ⟨⟨a, b, c, e⟩, rfl⟩
  | _ => simp [isTupN] at h
theorem isTurn_no {d : PyData} (h : isTupN 4 d = false) : isTurn d = false := by
  unfold isTurn
  split
  · simp [isTupN, isNum] at h
  · rfl
theorem gd_M {m : M} (h : Gd m.D) : m.bd IB := by
  have := h.ok
  simp only [M.D, okB_t, okL_c, okB_i, okL_n, Bool.and_eq_true, decide_eq_true_eq] at this
  exact ⟨this.1, this.2.1, this.2.2.1, this.2.2.2.1⟩
theorem e_is_turn {d : PyData} (h : Gd d) : f_is_turn [d] = some (.sh (.bool (isTurn d))) := by
  have e : f_is_number_tuple [d, .int 4] = _ := e_is_number_tuple d 4
  cases ht : isTupN 4 d with
  | false => simp [f_is_turn, b_is_turn, e, ht, isTurn_no ht]
  | true =>
    obtain ⟨m, rfl⟩ := tup4 ht
    obtain ⟨h1, h2, h3, h4⟩ := gd_M h
    have m1 := mulOk_of h1 h4 (by decide)
    have m2 := mulOk_of h2 h3 (by decide)
    rw [ht] at e
    rw [isTurn_M]
    simp only [M.D] at e
    simp [f_is_turn, b_is_turn, e, M.D, m1, m2, M.det]
    by_cases hh : m.a * m.d - m.b * m.c = 1 <;> simp [hh]
theorem e_law_is_turn {d : PyData} (h : Gd d) : f__law_is_turn [d] = some (.sh (.bool (isTurn d))) := by
  have e : f__law_is_tuple [d, .int 4] = _ := e_law_is_tuple d 4
  cases ht : isTupN 4 d with
  | false => simp [f__law_is_turn, b__law_is_turn, e, ht, isTurn_no ht]
  | true =>
    obtain ⟨m, rfl⟩ := tup4 ht
    obtain ⟨h1, h2, h3, h4⟩ := gd_M h
    have m1 := mulOk_of h1 h4 (by decide)
    have m2 := mulOk_of h2 h3 (by decide)
    rw [ht] at e
    rw [isTurn_M]
    simp only [M.D] at e
    simp [f__law_is_turn, b__law_is_turn, e, M.D, m1, m2, M.det]
    by_cases hh : m.a * m.d - m.b * m.c = 1 <;> simp [hh]
theorem isTurn_yes {d : PyData} (h : isTurn d = true) : ∃ m : M, d = m.D ∧ m.det = 1 := by
  unfold isTurn at h
  split at h
  · exact ⟨_, rfl, of_decide_eq_true h⟩
  · cases h
theorem rOk_nat {n : Nat} (h : n ≤ 1000000) : rOk (n : Int) := by
  unfold rOk
  omega
def isS (t : Str) : PyData → Bool
  | .str x => decide (x = t)
  | _ => false
theorem e_same_str (n : Nat) (d : PyData) (t : Str) : f__law_same (n + 1) [d, .str t] = some (.sh (.bool (isS t d))) := by
  cases d <;> simp [f__law_same, isS]
theorem e_same_bool (n : Nat) (p q : Bool) : f__law_same (n + 1) [.bool p, .bool q] = some (.sh (.bool (p == q))) := by
  cases p <;> cases q <;> simp [f__law_same, eqD, PyData.eqv]
theorem e_same_two (n : Nat) (p q : Bool) : f__law_same (n + 2) [.list [.bool p, .bool q], .list [.bool p, .bool q]] = some (.sh (.bool true)) := by
  have h1 := e_same_bool n p p
  have h2 := e_same_bool n q q
  have r : rOk 2 := rOk_nat (n := 2) (by decide)
  have e2 : rangeD 0 1 2 = [.int 0, .int 1] := rfl
  rw [f__law_same]
  simp [r, e2, forD, h1, h2]
def frs : PyData → Res
  | .list ds => .fr ds
  | d => .sh d
theorem frs_shr (d : PyData) : (frs d).shr = some d := by cases d <;> rfl
theorem lc_all {elt : Rh → Option Res} {i : Nat} {ρ : Rh} {r : PyData → Res} (hr : ∀ d, (r d).shr = some d) : ∀ ds : List PyData, (∀ d ∈ ds, elt (ρ.set i (some (.sh d))) = some (r d)) → lcD (gNm i) tYesD elt ρ ds = some ds
  | [], _ => by simp [lcD]
  | d :: ds, h => by
    have h1 := h d List.mem_cons_self
    have h2 := lc_all hr ds fun e he => h e (List.mem_cons_of_mem _ he)
    simp [lcD, h1, h2, hr]
theorem e_fresh : ∀ (n : Nat) (d : PyData), Gd d → d.depth < n → f__law_fresh n [d] = some (frs d)
  | 0, _, _, h => absurd h (Nat.not_lt_zero _)
  | n + 1, d, g, h => by
    rw [f__law_fresh]
    cases d with
    | list ds =>
      have hl : ds.length ≤ LIM := by
        have := g.few; have := cnL_len ds; simp only [cn_l] at *; unfold LIM; omega
      have := lc_all (elt := eFn (f__law_fresh n) (aCons (eVar 1) aNil)) (i := 1) (ρ := [some (.sh (.list ds)), none]) frs_shr ds fun d hd => by
        have h1 := dpA_mem hd
        have e := e_fresh n d (g.item hd) (by simp only [dp_l] at h; omega)
        simp [e]
      simp [hl, this, frs, wipeD]
    | tuple ds =>
      have hl : ds.length ≤ LIM := by
        have := g.few; have := cnL_len ds; simp only [cn_t] at *; unfold LIM; omega
      have := lc_all (elt := eFn (f__law_fresh n) (aCons (eVar 1) aNil)) (i := 1) (ρ := [some (.sh (.tuple ds)), none]) frs_shr ds fun d hd => by
        have h1 := dpA_mem hd
        have e := e_fresh n d (g.itemT hd) (by simp only [dp_t] at h; omega)
        simp [e]
      simp [hl, this, frs, wipeD]
    | _ => simp [frs]
def lt (k : Nat) (t : Int) : M := if k % 2 = 0 then ⟨1, t, 0, 1⟩ else ⟨1, 0, t, 1⟩
def a0 (ns : List Int) (k : Nat) : Int := ns[k]?.getD 0
def cyP (ns : List Int) : Nat → M
  | 0 => M.one
  | k + 1 => cyP ns k * lt k (a0 ns k)
def cyc (ns : List Int) : M := cyP ns ns.length
theorem one_bd : M.one.bd 1 := by simp [M.bd, M.one, Bd]
theorem lt_bd {n : Nat} {t : Int} (h : Bd n t) (k : Nat) : (lt k t).bd (n + 1) := by
  have h1 : Bd (n + 1) 1 := by
    show (1 : Nat) < 2 ^ (n + 1)
    exact Nat.one_lt_two_pow (by omega)
  have h0 : Bd (n + 1) 0 := by
    show (0 : Nat) < 2 ^ (n + 1)
    exact Nat.two_pow_pos _
  have ht := h.mono (Nat.le_succ n)
  unfold lt
  split <;> simp only [M.bd, h1, h0, ht, and_self]
theorem a0_bd {n : Nat} {ns : List Int} (h : ∀ i ∈ ns, Bd n i) (k : Nat) : Bd n (a0 ns k) := by
  unfold a0
  by_cases hk : k < ns.length
  · rw [List.getElem?_eq_getElem hk]
    exact h _ (List.getElem_mem hk)
  · rw [List.getElem?_eq_none (by omega)]
    exact Nat.two_pow_pos _
theorem cyP_bd {n : Nat} {ns : List Int} (h : ∀ i ∈ ns, Bd n i) : ∀ k : Nat, (cyP ns k).bd (1 + k * (n + 2))
  | 0 => one_bd.mono (by omega)
  | k + 1 => by
    have := (cyP_bd h k).mul (lt_bd (a0_bd h k) k)
    exact this.mono (by rw [Nat.succ_mul]; omega)
theorem for_rng {g : PyData → Rh → Option Rh} {b : Rh → Option Out} (S : Nat → Rh) {n : Nat} (h : ∀ k, k < n → (g (.int (k : Int)) (S k)).bind b = some (.nx (S (k + 1)))) : forD g b (rangeD 0 1 n) (S 0) = some (.nx (S n)) := by
  have : ∀ (m k : Nat), k + m = n → forD g b ((List.range' k m).map fun (j : Nat) => PyData.int (0 + (j : Int) * 1)) (S k) = some (.nx (S n)) := by
    intro m
    induction m with
    | zero =>
      intro k hk
      have : k = n := by omega
      subst this
      simp [forD]
    | succ m ih =>
      intro k hk
      rw [List.range'_succ, List.map_cons, forD]
      have e := h k (by omega)
      rw [show (0 + (k : Int) * 1) = (k : Int) by omega]
      obtain ⟨ρ1, e1, e2⟩ := bind_some e
      rw [e1, Option.bind_some, e2, Option.bind_some]
      exact ih (k + 1) (by omega)
  have := this n 0 (by omega)
  unfold rangeD
  rw [List.range_eq_range']
  exact this
theorem mod2 (k : Nat) : ((k : Int) % 2 == 0) = decide (k % 2 = 0) := by
  rw [Bool.eq_iff_iff, beq_iff_eq, decide_eq_true_eq]
  omega
theorem ints_at (ns : List Int) {k : Nat} (hk : k < ns.length) : (ns.map PyData.int)[k]? = some (.int (a0 ns k)) := by
  unfold a0
  rw [List.getElem?_map, List.getElem?_eq_getElem hk]
  rfl
theorem rsize2 {n : Nat} : Builtin.Range.rangeSize 0 (n : Int) 2 = (((n + 1) / 2 : Nat) : Int) := by
  unfold Builtin.Range.rangeSize
  simp only [show (2 : Int) > 0 by decide, if_true]
  split <;> omega
theorem rngD_s2 {n : Nat} (h : n ≤ 1000000) : rngD [0, (n : Int), 2] = some (rangeD 0 2 ((n + 1) / 2)) := by
  have e := rsize2 (n := n)
  have hs : Builtin.Range.small 0 (n : Int) 2 = true := by
    unfold Builtin.Range.small
    rw [e]
    have f : ∀ i : Int, 0 ≤ i → i ≤ 2000000 → Builtin.Range.rangeFitsLong i = true := fun i h0 h1 => by
      unfold Builtin.Range.rangeFitsLong
      rw [Bool.and_eq_true, decide_eq_true_eq, decide_eq_true_eq]
      constructor <;> omega
    rw [f 0 (by decide) (by decide), f _ (by omega) (by omega), f 2 (by decide) (by decide), f _ (by omega) (by omega), if_pos (by decide), f _ (by omega) (by omega), Bool.or_true]
    rfl
  rw [rngD_eq]
  show (if (2 : Int) ≠ 0 ∧ (2 : Int).natAbs < 1073741824 ∧ Builtin.Range.small 0 (n : Int) 2 = true ∧ 0 ≤ Builtin.Range.rangeSize 0 (n : Int) 2 then some (rangeD 0 2 (Builtin.Range.rangeSize 0 (n : Int) 2).toNat) else none) = _
  rw [if_pos ⟨by decide, by decide, hs, by rw [e]; omega⟩, e, Int.toNat_natCast]
theorem cut_from (ds : List PyData) (k : Nat) : cutD ds (some (k : Int)) none = ds.drop k := by
  unfold cutD
  rw [HT.sIx_nat, HT.sIx_none]
  by_cases h : k ≤ ds.length
  · rw [Nat.min_eq_left h, List.take_of_length_le (by rw [List.length_drop]; omega)]
  · rw [Nat.min_eq_right (by omega), List.drop_of_length_le (Nat.le_refl _), List.drop_of_length_le (by omega), List.take_nil]
theorem cut_to (ds : List PyData) (k : Nat) : cutD ds none (some (k : Int)) = ds.take k := by
  unfold cutD
  rw [HT.sIx_nat, HT.sIx_none, Nat.sub_zero, List.drop_zero]
  by_cases h : k ≤ ds.length
  · rw [Nat.min_eq_left h]
  · rw [Nat.min_eq_right (by omega), List.take_of_length_le (Nat.le_refl _), List.take_of_length_le (by omega)]
theorem cut_last (ds : List PyData) : cutD ds (some (-1)) none = ds.drop (ds.length - 1) := by
  unfold cutD
  have e : HT.sIx ds.length 0 (some (-1)) = ds.length - 1 := by
    show (if (-1 : Int) < 0 then ((-1 : Int) + (ds.length : Int)).toNat else min (-1 : Int).toNat ds.length) = _
    rw [if_pos (by decide)]
    omega
  rw [e, HT.sIx_none, List.take_of_length_le (by rw [List.length_drop]; omega)]
theorem cut_front (ds : List PyData) : cutD ds none (some (-1)) = ds.take (ds.length - 1) := by
  unfold cutD
  have e : HT.sIx ds.length ds.length (some (-1)) = ds.length - 1 := by
    show (if (-1 : Int) < 0 then ((-1 : Int) + (ds.length : Int)).toNat else min (-1 : Int).toNat ds.length) = _
    rw [if_pos (by decide)]
    omega
  rw [e, HT.sIx_none, Nat.sub_zero, List.drop_zero]
def rot (ns : List Int) (k : Nat) : List Int := ns.drop k ++ ns.take k
theorem rot_map (ns : List Int) (k : Nat) : (ns.map PyData.int).drop k ++ (ns.map PyData.int).take k = (rot ns k).map PyData.int := by
  unfold rot
  rw [List.map_append, List.map_drop, List.map_take]
theorem rot_len (ns : List Int) (k : Nat) : (rot ns k).length = ns.length := by
  unfold rot
  rw [List.length_append, List.length_drop, List.length_take]
  omega
theorem lens_map (ns : List Int) (k : Nat) (h : ns.length ≤ 1000) : ((ns.map PyData.int).drop k).length + ((ns.map PyData.int).take k).length ≤ LIM := by
  rw [List.length_drop, List.length_take, List.length_map]
  unfold LIM
  omega
theorem for_find {g : PyData → Rh → Option Rh} {b : Rh → Option Out} {p : Nat → Bool} {c : Nat → PyData} {r : Nat → Res} {ρ : Rh} : ∀ ks : List Nat, (∀ k ∈ ks, (g (c k) ρ).bind b = some (if p k = true then .rt (r k) else .nx ρ)) →
    forD g b (ks.map c) ρ = some (match ks.find? p with | some k => .rt (r k) | none => .nx ρ)
  | [], _ => by simp [forD]
  | k :: ks, h => by
    have hd := h k List.mem_cons_self
    obtain ⟨ρ1, e1, e2⟩ := bind_some hd
    have ih := for_find ks fun j hj => h j (List.mem_cons_of_mem _ hj)
    rw [List.map_cons, forD, e1, Option.bind_some, e2, Option.bind_some, List.find?_cons]
    by_cases hp : p k = true
    · simp only [hp, if_true]
    · have hp' : p k = false := by simpa using hp
      simp only [hp', Bool.false_eq_true, if_false]
      exact ih
def mt (ns ms : List Int) : Option Nat := (List.range ((ns.length + 1) / 2)).find? fun j => decide (rot ns (2 * j) = ms)
theorem range2 (n : Nat) : rangeD 0 2 n = (List.range n).map fun k => PyData.int ((2 * k : Nat) : Int) := by
  unfold rangeD
  congr
  funext k
  congr 1
  omega
theorem cyP_U (ns : List Int) (k : Nat) (h : k % 2 = 0) : cyP ns (k + 1) = ⟨(cyP ns k).a, (cyP ns k).b + (cyP ns k).a * a0 ns k, (cyP ns k).c, (cyP ns k).d + (cyP ns k).c * a0 ns k⟩ := by
  show cyP ns k * lt k (a0 ns k) = _
  rw [lt, if_pos h, M.mul_def]
  ext <;> simp only [] <;> omega
theorem cyP_L (ns : List Int) (k : Nat) (h : ¬ k % 2 = 0) : cyP ns (k + 1) = ⟨(cyP ns k).a + (cyP ns k).b * a0 ns k, (cyP ns k).b, (cyP ns k).c + (cyP ns k).d * a0 ns k, (cyP ns k).d⟩ := by
  show cyP ns k * lt k (a0 ns k) = _
  rw [lt, if_neg h, M.mul_def]
  ext <;> simp only [] <;> omega
theorem for_inv {g : PyData → Rh → Option Rh} {b : Rh → Option Out} (I : Nat → Rh → Prop) : ∀ (ds : List PyData) (n : Nat) (ρ : Rh), (∀ k d ρ, ds[k]? = some d → I (n + k) ρ → ∃ ρ', (g d ρ).bind b = some (.nx ρ') ∧ I (n + k + 1) ρ') → I n ρ → ∃ ρ', forD g b ds ρ = some (.nx ρ') ∧ I (n + ds.length) ρ'
  | [], n, ρ, _, h => ⟨ρ, rfl, h⟩
  | d :: ds, n, ρ, hs, h => by
    obtain ⟨ρ', e, h'⟩ := hs 0 d ρ rfl h
    obtain ⟨ρ1, e1, e2⟩ := bind_some e
    obtain ⟨ρ2, e3, h3⟩ := for_inv I ds (n + 1) ρ' (fun k d ρ hk hI => by
      have := hs (k + 1) d ρ (by simpa using hk) (by rw [show n + (k + 1) = n + 1 + k by omega]; exact hI)
      rw [show n + (k + 1) + 1 = n + 1 + k + 1 by omega] at this
      exact this) h'
    refine ⟨ρ2, ?_, by rw [List.length_cons, show n + (ds.length + 1) = n + 1 + ds.length by omega]; exact h3⟩
    rw [forD, e1, Option.bind_some, e2, Option.bind_some]
    exact e3
def Dr (f : List Int) : Prop := ∀ i ∈ f, 0 ≤ i ∧ i < 1000003
theorem Dr.app {f : List Int} {i : Int} (h : Dr f) (h0 : 0 ≤ i) (h1 : i < 1000003) : Dr (f ++ [i]) := fun j hj => by
  rcases List.mem_append.mp hj with hj | hj
  · exact h j hj
  · rcases List.mem_singleton.mp hj with rfl
    exact ⟨h0, h1⟩
theorem sApp_int {ρ : Rh} {k : Nat} {e : Rh → Option Res} {fs : List Int} {i : Int} (h : ρ[k]? = some (some (.bo (fs.map .int)))) (he : e ρ = some (.sh (.int i))) (hl : fs.length < 1000000) : sApp k e ρ = some (.nx (ρ.set k (some (.bo ((fs ++ [i]).map .int))))) := by
  rw [sApp_eq h, he]
  have : (fs.map PyData.int).length < LIM := by rw [List.length_map]; exact hl
  simp only [Option.bind_some, shr_s, this, if_true, List.map_append, List.map_cons, List.map_nil]
theorem rng_get {n k : Nat} {d : PyData} (h : (rangeD 0 1 n)[k]? = some d) : k < n ∧ d = .int (k : Int) := by
  obtain ⟨h1, h2⟩ := rangeD_get h
  refine ⟨h1, ?_⟩
  rw [h2]
  congr 1
  omega
theorem draws_big (q w c : Option Res) (v : Int) (h0 : 0 ≤ v) (fs : List Int) (hf : Dr fs) (n : Nat) (hl : fs.length + n < 900000) :
    ∃ (gs : List Int) (u : Int), forD (gNm 5) (sFo [5] (sIf (tOf (eBin gtR (eVar 4) (eC (.int 0))))
  (sSeq (sApp 2 (eBin modR (eVar 4) (eC (.int 1000003))))
 (sSet 4 (eBin fdivR (eVar 4) (eC (.int 1000003)))))
  sPass)) (rangeD 0 1 n) [q, w, some (.bo (fs.map .int)), c, some (.sh (.int v)), none, none, none] = some (.nx [q, w, some (.bo (gs.map .int)), c, some (.sh (.int u)), none, none, none]) ∧ Dr gs ∧ gs.length ≤ fs.length + n := by
  obtain ⟨ρ', e, gs, u, rfl, h1, h2, h3⟩ := for_inv (g := gNm 5) (b := (sFo [5] (sIf (tOf (eBin gtR (eVar 4) (eC (.int 0))))
  (sSeq (sApp 2 (eBin modR (eVar 4) (eC (.int 1000003))))
 (sSet 4 (eBin fdivR (eVar 4) (eC (.int 1000003)))))
  sPass))) (fun k ρ => ∃ (gs : List Int) (u : Int), ρ = [q, w, some (.bo (gs.map .int)), c, some (.sh (.int u)), none, none, none] ∧ Dr gs ∧ gs.length ≤ fs.length + k ∧ 0 ≤ u) (rangeD 0 1 n) 0 [q, w, some (.bo (fs.map .int)), c, some (.sh (.int v)), none, none, none]
    (fun k d ρ hk hI => by
      obtain ⟨hkn, rfl⟩ := rng_get hk
      obtain ⟨gs, u, rfl, i1, i2, i3⟩ := hI
      by_cases hu : 0 < u
      · have hd : divOk 1000003 := divOk_of (n := 20) (by decide) (by decide) (by decide)
        refine ⟨_, ?_, gs ++ [u % 1000003], u / 1000003, rfl, i1.app (Int.emod_nonneg _ (by decide)) (Int.emod_lt_of_pos _ (by decide)), ?_, ?_⟩
        · have ha := sApp_int (ρ := [q, w, some (.bo (gs.map .int)), c, some (.sh (.int u)), some (.sh (.int (k : Int))), none, none]) (k := 2) (e := eBin modR (eVar 4) (eC (.int 1000003))) (fs := gs) (i := u % 1000003) rfl (by simp) (by omega)
          simp only [gNm, Option.bind_some, sFo_eq, sIf, sSeq_eq, List.set]
          simp [hu, ha, hd]
        · rw [List.length_append]
          simp
          omega
        · omega
      · exact ⟨_, by simp [hu], gs, u, rfl, i1, by omega, i3⟩) ⟨fs, v, rfl, hf, by omega, h0⟩
  rw [rangeD_len] at h2
  exact ⟨gs, u, e, h1, by omega⟩
theorem draws_four (q w c v : Option Res) (m : Int) (h0 : 0 ≤ m) (h1 : m < 2147483647) (fs : List Int) (hf : Dr fs) (n : Nat) (hn : n ≤ 100) (hl : fs.length + n < 900000) :
    ∃ (gs : List Int) (u : Int), forD (gNm 5) (sFo [5] (sSeq (sSet 6 (eBin modR (eBin addR (eBin addR (eBin addR (eBin mulI (eVar 6) (eC (.int 69621))) (eBin fdivR (eVar 6) (eC (.int 65536)))) (eBin mulI (eC (.int 13)) (eVar 5))) (eC (.int 5))) (eC (.int 2147483629))))
 (sApp 2 (eBin modR (eBin fdivR (eVar 6) (eC (.int 8))) (eC (.int 1000003)))))) (rangeD 0 1 n) [q, w, some (.bo (fs.map .int)), c, v, none, some (.sh (.int m)), none] = some (.nx [q, w, some (.bo (gs.map .int)), c, v, none, some (.sh (.int u)), none]) ∧ Dr gs ∧ gs.length ≤ fs.length + n := by
  obtain ⟨ρ', e, gs, u, rfl, h1, h2, h3⟩ := for_inv (g := gNm 5) (b := (sFo [5] (sSeq (sSet 6 (eBin modR (eBin addR (eBin addR (eBin addR (eBin mulI (eVar 6) (eC (.int 69621))) (eBin fdivR (eVar 6) (eC (.int 65536)))) (eBin mulI (eC (.int 13)) (eVar 5))) (eC (.int 5))) (eC (.int 2147483629))))
 (sApp 2 (eBin modR (eBin fdivR (eVar 6) (eC (.int 8))) (eC (.int 1000003))))))) (fun k ρ => ∃ (gs : List Int) (u : Int), ρ = [q, w, some (.bo (gs.map .int)), c, v, none, some (.sh (.int u)), none] ∧ Dr gs ∧ gs.length ≤ fs.length + k ∧ 0 ≤ u ∧ u < 2147483647) (rangeD 0 1 n) 0 [q, w, some (.bo (fs.map .int)), c, v, none, some (.sh (.int m)), none]
    (fun k d ρ hk hI => by
      obtain ⟨hkn, rfl⟩ := rng_get hk
      obtain ⟨gs, u, rfl, i1, i2, i3, i4⟩ := hI
      have bu : Bd 32 u := bd_of (by omega) (by omega)
      have bk : Bd 32 (k : Int) := bd_of (by omega) (by omega)
      have m1 : mulOk u 69621 := mulOk_of bu (show Bd 32 69621 by decide) (by decide)
      have m2 : mulOk 13 (k : Int) := mulOk_of (show Bd 32 13 by decide) bk (by decide)
      have d1 : divOk 65536 := divOk_of (n := 20) (by decide) (by decide) (by decide)
      have d2 : divOk 8 := divOk_of (n := 20) (by decide) (by decide) (by decide)
      obtain ⟨z, hz⟩ : ∃ z : Int, z = (u * 69621 + u / 65536 + 13 * (k : Int) + 5) % 2147483629 := ⟨_, rfl⟩
      have z0 : 0 ≤ z := by rw [hz]; exact Int.emod_nonneg _ (by decide)
      have z1 : z < 2147483629 := by rw [hz]; exact Int.emod_lt_of_pos _ (by decide)
      have ha := sApp_int (ρ := [q, w, some (.bo (gs.map .int)), c, v, some (.sh (.int (k : Int))), some (.sh (.int z)), none]) (k := 2) (e := eBin modR (eBin fdivR (eVar 6) (eC (.int 8))) (eC (.int 1000003))) (fs := gs) (i := z / 8 % 1000003) rfl (by simp [d2]) (by omega)
      refine ⟨_, ?_, gs ++ [z / 8 % 1000003], z, rfl, i1.app (Int.emod_nonneg _ (by decide)) (Int.emod_lt_of_pos _ (by decide)), ?_, z0, by omega⟩
      · simp [m1, m2, d1, ← hz, ha]
      · rw [List.length_append]
        simp
        omega) ⟨fs, m, rfl, hf, by omega, h0, h1⟩
  rw [rangeD_len] at h2
  exact ⟨gs, u, e, h1, by omega⟩
theorem draws_fill (q c v x : Option Res) (fs : List Int) (hf : Dr fs) (n : Nat) (hn : n ≤ 100) (hl : fs.length < 800000) :
    ∃ (gs : List Int), forD (gNm 5) (sFo [5, 7] (sFo [7] (sIf (tOf (eBin ltR (eCall (on1 lenR) (aCons (eVar 2) aNil)) (eVar 1)))
  (sSeq (sSet 7 (eC (.int 0)))
 (sSeq (sIf (tOf (eBin gtR (eCall (on1 lenR) (aCons (eVar 2) aNil)) (eC (.int 0))))
  (sSet 7 (eBin ixR (eVar 2) (eBin modR (eVar 5) (eCall (on1 lenR) (aCons (eVar 2) aNil)))))
  sPass)
 (sApp 2 (eBin modR (eBin addR (eBin addR (eBin mulI (eVar 7) (eC (.int 16807))) (eBin mulI (eC (.int 31)) (eCall (on1 lenR) (aCons (eVar 2) aNil)))) (eC (.int 17))) (eC (.int 1000003))))))
  sPass))) (rangeD 0 1 n) [q, some (.sh (.int (n : Int))), some (.bo (fs.map .int)), c, v, none, x, none] = some (.nx [q, some (.sh (.int (n : Int))), some (.bo (gs.map .int)), c, v, none, x, none]) ∧ Dr gs ∧ gs.length ≤ fs.length + n ∧ n ≤ gs.length := by
  obtain ⟨ρ', e, gs, rfl, h1, h2, h3⟩ := for_inv (g := gNm 5) (b := (sFo [5, 7] (sFo [7] (sIf (tOf (eBin ltR (eCall (on1 lenR) (aCons (eVar 2) aNil)) (eVar 1)))
  (sSeq (sSet 7 (eC (.int 0)))
 (sSeq (sIf (tOf (eBin gtR (eCall (on1 lenR) (aCons (eVar 2) aNil)) (eC (.int 0))))
  (sSet 7 (eBin ixR (eVar 2) (eBin modR (eVar 5) (eCall (on1 lenR) (aCons (eVar 2) aNil)))))
  sPass)
 (sApp 2 (eBin modR (eBin addR (eBin addR (eBin mulI (eVar 7) (eC (.int 16807))) (eBin mulI (eC (.int 31)) (eCall (on1 lenR) (aCons (eVar 2) aNil)))) (eC (.int 17))) (eC (.int 1000003))))))
  sPass)))) (fun k ρ => ∃ (gs : List Int), ρ = [q, some (.sh (.int (n : Int))), some (.bo (gs.map .int)), c, v, none, x, none] ∧ Dr gs ∧ gs.length ≤ fs.length + k ∧ (n ≤ gs.length ∨ k ≤ gs.length)) (rangeD 0 1 n) 0 [q, some (.sh (.int (n : Int))), some (.bo (fs.map .int)), c, v, none, x, none]
    (fun k d ρ hk hI => by
      obtain ⟨hkn, rfl⟩ := rng_get hk
      obtain ⟨gs, rfl, i1, i2, i3⟩ := hI
      by_cases hu : gs.length < n
      · obtain ⟨b, hb⟩ : ∃ b : Int, b = if 0 < gs.length then a0 gs (k % gs.length) else 0 := ⟨_, rfl⟩
        have hbd : 0 ≤ b ∧ b < 1000003 := by
          rw [hb]
          split
          · rename_i hp
            have hm := Nat.mod_lt k hp
            unfold a0
            rw [List.getElem?_eq_getElem hm]
            exact i1 _ (List.getElem_mem hm)
          · exact ⟨by decide, by decide⟩
        have m1 : mulOk b 16807 := mulOk_of (bd_of (n := 32) (by omega) (by omega)) (show Bd 32 16807 by decide) (by decide)
        have m2 : mulOk 31 (gs.length : Int) := mulOk_of (show Bd 32 31 by decide) (bd_of (n := 32) (by omega) (by omega)) (by decide)
        have ha := sApp_int (ρ := [q, some (.sh (.int (n : Int))), some (.bo (gs.map .int)), c, v, some (.sh (.int (k : Int))), x, some (.sh (.int b))]) (k := 2) (e := (eBin modR (eBin addR (eBin addR (eBin mulI (eVar 7) (eC (.int 16807))) (eBin mulI (eC (.int 31)) (eCall (on1 lenR) (aCons (eVar 2) aNil)))) (eC (.int 17))) (eC (.int 1000003)))) (fs := gs) (i := (b * 16807 + 31 * (gs.length : Int) + 17) % 1000003) rfl (by simp [m1, m2]) (by omega)
        refine ⟨_, ?_, gs ++ [(b * 16807 + 31 * (gs.length : Int) + 17) % 1000003], rfl, i1.app (Int.emod_nonneg _ (by decide)) (Int.emod_lt_of_pos _ (by decide)), ?_, ?_⟩
        · by_cases hp : 0 < gs.length
          · rw [if_pos hp] at hb
            have hm := Nat.mod_lt k hp
            have e2 := ints_at gs hm
            have hp' : (0 : Int) < gs.length := by omega
            have e3 : atI (gs.map PyData.int) ((k : Int) % (gs.length : Int)) = some (.int b) := by
              rw [show ((k : Int) % (gs.length : Int)) = ((k % gs.length : Nat) : Int) by omega, atI_nat', e2, hb]
            simp [hu, hp', hp, e3, ha]
          · rw [if_neg hp] at hb
            have hg : gs = [] := List.eq_nil_of_length_eq_zero (by omega)
            subst hb hg
            have hn0 : 0 < n := by simpa using hu
            simp at ha
            simp [hn0, ha]
        · rw [List.length_append]
          simp
          omega
        · rw [List.length_append]
          simp
          omega
      · exact ⟨_, by simp [hu], gs, rfl, i1, by omega, by omega⟩) ⟨fs, rfl, hf, by omega, Or.inr (Nat.zero_le _)⟩
  rw [rangeD_len] at h2 h3
  exact ⟨gs, e, h1, by omega, by omega⟩
theorem e_draws (ns : List Int) : ∃ ds : List Int, f__law_draws [.list (ns.map .int), .int 24] = some (.fr (ds.map .int)) ∧ ds.length = 24 ∧ Dr ds := by
  have hcut : cutD (ns.map PyData.int) none (some 63) = (ns.take 63).map PyData.int := by
    rw [show (some 63 : Option Int) = some ((63 : Nat) : Int) from rfl, cut_to, List.map_take]
  have hlen : (ns.take 63).length ≤ 63 := by rw [List.length_take]; omega
  obtain ⟨ρ', e, fs, rfl, f1, f2⟩ := for_inv (g := gNm 3) (b := (sFo [3, 4, 5, 6] (sSeq (sSet 4 (eCall (on1 absR) (aCons (eCall (on1 intR) (aCons (eVar 3) aNil)) aNil)))
 (sFo [4, 5, 6] (sIf (tOf (eBin geR (eVar 4) (eBin powR (eC (.int 10)) (eC (.int 18)))))
  (sFo [4, 5] (sPre [5] (sFor (itRng (aCons (eC (.int 60)) aNil)) (gNm 5)
  (sFo [5] (sIf (tOf (eBin gtR (eVar 4) (eC (.int 0))))
  (sSeq (sApp 2 (eBin modR (eVar 4) (eC (.int 1000003))))
 (sSet 4 (eBin fdivR (eVar 4) (eC (.int 1000003)))))
  sPass)))))
  (sSeq (sSet 6 (eBin modR (eBin addR (eBin addR (eBin mulI (eVar 4) (eC (.int 48271))) (eBin mulI (eC (.int 7)) (eCall (on1 lenR) (aCons (eVar 2) aNil)))) (eC (.int 11))) (eC (.int 2147483647))))
 (sFo [5, 6] (sPre [5] (sFor (itRng (aCons (eC (.int 4)) aNil)) (gNm 5)
  (sFo [5] (sSeq (sSet 6 (eBin modR (eBin addR (eBin addR (eBin addR (eBin mulI (eVar 6) (eC (.int 69621))) (eBin fdivR (eVar 6) (eC (.int 65536)))) (eBin mulI (eC (.int 13)) (eVar 5))) (eC (.int 5))) (eC (.int 2147483629))))
 (sApp 2 (eBin modR (eBin fdivR (eVar 6) (eC (.int 8))) (eC (.int 1000003))))))))))))))) (fun k ρ => ∃ (gs : List Int), ρ = [some (.sh (.list (ns.map .int))), some (.sh (.int 24)), some (.bo (gs.map .int)), none, none, none, none, none] ∧ Dr gs ∧ gs.length ≤ 60 * k) ((ns.take 63).map PyData.int) 0
     [some (.sh (.list (ns.map .int))), some (.sh (.int 24)), some (.bo []), none, none, none, none, none] (fun k d ρ hk hI => by
      obtain ⟨gs, rfl, i1, i2⟩ := hI
      have hk63 : k < 63 := by
        have := (List.getElem?_eq_some_iff.mp hk).1
        rw [List.length_map] at this
        omega
      obtain ⟨x, hx, rfl⟩ : ∃ x : Int, x ∈ ns.take 63 ∧ d = .int x := by
        rw [List.getElem?_map] at hk
        obtain ⟨x, hx, hd⟩ := Option.map_eq_some_iff.mp hk
        exact ⟨x, List.mem_of_getElem? hx, hd.symm⟩
      obtain ⟨v, hv⟩ : ∃ v : Int, v = if x < 0 then -x else x := ⟨_, rfl⟩
      have v0 : 0 ≤ v := by rw [hv]; split <;> omega
      have r60 : rOk 60 := rOk_nat (n := 60) (by decide)
      have r4 : rOk 4 := rOk_nat (n := 4) (by decide)
      by_cases hb : 1000000000000000000 ≤ v
      · obtain ⟨hs, u, e, h1, h2⟩ := draws_big (some (.sh (.list (ns.map .int)))) (some (.sh (.int 24))) (some (.sh (.int x))) v v0 gs i1 60 (by omega)
        refine ⟨_, ?_, hs, rfl, h1, by omega⟩
        simp [← hv, hb, r60, e]
      · obtain ⟨m, hm⟩ : ∃ m : Int, m = (v * 48271 + 7 * (gs.length : Int) + 11) % 2147483647 := ⟨_, rfl⟩
        obtain ⟨hs, u, e, h1, h2⟩ := draws_four (some (.sh (.list (ns.map .int)))) (some (.sh (.int 24))) (some (.sh (.int x))) (some (.sh (.int v))) m (by rw [hm]; exact Int.emod_nonneg _ (by decide)) (by rw [hm]; exact Int.emod_lt_of_pos _ (by decide)) gs i1 4 (by decide) (by omega)
        have m1 : mulOk v 48271 := mulOk_of (bd_of (n := 64) (by omega) (by omega)) (show Bd 32 48271 by decide) (by decide)
        have m2 : mulOk 7 (gs.length : Int) := mulOk_of (show Bd 32 7 by decide) (bd_of (n := 32) (by omega) (by omega)) (by decide)
        refine ⟨_, ?_, hs, rfl, h1, by omega⟩
        simp [← hv, hb, m1, m2, ← hm, r4, e]) ⟨[], rfl, nofun, Nat.zero_le _⟩
  rw [List.length_map] at f2
  obtain ⟨gs, e2, g1, g2, g3⟩ := draws_fill (some (.sh (.list (ns.map .int)))) none none none fs f1 24 (by decide) (by omega)
  have r24 : rOk 24 := rOk_nat (n := 24) (by decide)
  have hc2 : cutD (gs.map PyData.int) none (some 24) = (gs.take 24).map PyData.int := by
    rw [show (some 24 : Option Int) = some ((24 : Nat) : Int) from rfl, cut_to, List.map_take]
  refine ⟨gs.take 24, ?_, by rw [List.length_take]; omega, fun i hi => g1 i (List.mem_of_mem_take hi)⟩
  rw [show ((24 : Nat) : Int) = 24 from rfl] at e2
  rw [List.map_take] at e hcut hc2
  simp [f__law_draws, b__law_draws, hcut, e, r24, e2, hc2]
theorem step_bd {n : Nat} {x y t : Int} (hx : Bd n x) (hy : Bd n y) (h0 : -3 ≤ t) (h1 : t ≤ 3) : Bd (n + 2) (x + t * y) := by
  have ht : t.natAbs ≤ 3 := by omega
  have h2 : (t * y).natAbs ≤ 3 * y.natAbs := by rw [Int.natAbs_mul]; exact Nat.mul_le_mul_right _ ht
  have h3 := Int.natAbs_add_le x (t * y)
  unfold Bd at *
  rw [Nat.pow_succ, Nat.pow_succ]
  omega
theorem strOk_of (s : String) : PyData.strOk (Str.ofString s) = true := by
  unfold PyData.strOk
  rw [Str.ofString_eq_toList]
  simp only [List.all_toArray, List.all_map, List.all_eq_true]
  intro c hc
  have h2 : c.toNat < 1114112 := by
    have e : c.toNat = c.val.toNat := rfl
    rcases c.valid with h | h <;> omega
  simpa using h2
theorem text_len {i : Int} (h : Bd 300 i) : (Str.ofString (toString i)).length ≤ 302 := by
  rw [PySem.ofString_length]
  have := PySem.int_text_length_le (a := i) (k := 301) (by decide) (Nat.lt_succ_of_le h.log')
  omega
def asBo : Res → Option (List PyData)
  | .bo ds => some ds
  | _ => none
@[simp] theorem asBo_b {ds : List PyData} : asBo (.bo ds) = some ds := rfl
theorem sApp_run {ρ : Rh} {k : Nat} {e : Rh → Option Res} : sApp k e ρ = ((ρ[k]?).bind id).bind fun r => (asBo r).bind fun ds => (e ρ).bind fun x => x.shr.bind fun d => if ds.length < LIM then some (.nx (ρ.set k (some (.bo (ds ++ [d]))))) else none := by
  unfold sApp
  cases ρ[k]? with
  | none => rfl
  | some o =>
    cases o with
    | none => rfl
    | some r => cases r <;> rfl
structure Sd (w k : Nat) (d : PyData) : Prop where
  ok : okB d = true
  few : cn d ≤ w
  deep : d.depth ≤ k
theorem Sd.gd {w k : Nat} {d : PyData} (h : Sd w k d) (hw : w ≤ 500) (hk : k ≤ 20) : Gd d := ⟨h.ok, Nat.le_trans h.few hw, Nat.le_trans h.deep hk⟩
theorem Sd.mono {w k w' k' : Nat} {d : PyData} (h : Sd w k d) (hw : w ≤ w') (hk : k ≤ k') : Sd w' k' d := ⟨h.ok, Nat.le_trans h.few hw, Nat.le_trans h.deep hk⟩
theorem sd_int {n : Nat} {i : Int} (h : Bd n i) (hn : n ≤ IB) : Sd 1 0 (.int i) := ⟨by rw [okB_i]; exact decide_eq_true (h.mono hn), by simp, by simp⟩
theorem sd_M {n : Nat} {m : M} (h : m.bd n) (hn : n ≤ IB) : Sd 5 1 m.D := by
  obtain ⟨h1, h2, h3, h4⟩ := h
  refine ⟨?_, by simp [M.D], by simp [M.D]⟩
  simp [M.D, h1.mono hn, h2.mono hn, h3.mono hn, h4.mono hn]
def Al (p : PyData → Prop) (ds : List PyData) : Prop := ∀ d ∈ ds, p d
theorem Al.nil {p : PyData → Prop} : Al p [] := nofun
theorem Al.cons {p : PyData → Prop} {d : PyData} {ds : List PyData} (h : p d) (hs : Al p ds) : Al p (d :: ds) := fun e he => by
  rcases List.mem_cons.mp he with rfl | he
  · exact h
  · exact hs e he
theorem Al.app {p : PyData → Prop} {ds es : List PyData} (h : Al p ds) (hs : Al p es) : Al p (ds ++ es) := fun e he => by
  rcases List.mem_append.mp he with he | he
  · exact h e he
  · exact hs e he
theorem sd_s {x : Str} {w : Nat} (h : PyData.strOk x = true) (hl : x.length ≤ 600) (hw : 1 + x.length ≤ w) (k : Nat) : Sd w k (.str x) := ⟨by rw [okB_s, h, Bool.and_true]; exact decide_eq_true hl, by rw [cn_s]; exact hw, by simp⟩
theorem sd_none (w k : Nat) (h : 1 ≤ w) : Sd w k .none := ⟨by simp, by simpa using h, by simp⟩
theorem sd_bool (b : Bool) (w k : Nat) (h : 1 ≤ w) : Sd w k (.bool b) := ⟨by simp, by simpa using h, by simp⟩
structure Ro (w k : Nat) (ds : List PyData) : Prop where
  ok : okL ds = true
  few : cnL ds ≤ w
  deep : PyData.depthAll ds ≤ k
theorem Ro.nil {w k : Nat} : Ro w k [] := ⟨by simp, by simp, by simp⟩
theorem Ro.cons {w v k : Nat} {d : PyData} {ds : List PyData} (h : Sd w k d) (hs : Ro v k ds) : Ro (w + v) k (d :: ds) := by
  obtain ⟨h1, h2, h3⟩ := h
  obtain ⟨g1, g2, g3⟩ := hs
  exact ⟨by rw [okL_c, h1, g1]; rfl, by rw [cnL_c]; omega, by rw [dpA_c]; omega⟩
theorem Ro.tup {w k : Nat} {ds : List PyData} (h : Ro w k ds) : Sd (w + 1) (k + 1) (.tuple ds) := ⟨by rw [okB_t]; exact h.ok, by rw [cn_t]; have := h.few; omega, by rw [dp_t]; have := h.deep; omega⟩
theorem Ro.lst {w k : Nat} {ds : List PyData} (h : Ro w k ds) : Sd (w + 1) (k + 1) (.list ds) := ⟨by rw [okB_l]; exact h.ok, by rw [cn_l]; have := h.few; omega, by rw [dp_l]; have := h.deep; omega⟩
theorem Ro.app {w v k : Nat} {ds es : List PyData} (h : Ro w k ds) (g : Ro v k es) : Ro (w + v) k (ds ++ es) := by
  obtain ⟨h1, h2, h3⟩ := h
  obtain ⟨g1, g2, g3⟩ := g
  exact ⟨by rw [okL_app, h1, g1]; rfl, by rw [cnL_app]; omega, by rw [dpA_app]; omega⟩
theorem Ro.take {w k : Nat} {ds : List PyData} (n : Nat) (h : Ro w k ds) : Ro w k (ds.take n) :=
  ⟨okL_iff.mpr fun d hd => okL_iff.mp h.ok d (List.mem_of_mem_take hd), Nat.le_trans (cnL_take n ds) h.few, dpA_le fun d hd => Nat.le_trans (dpA_mem (List.mem_of_mem_take hd)) h.deep⟩
theorem Ro.drop {w k : Nat} {ds : List PyData} (n : Nat) (h : Ro w k ds) : Ro w k (ds.drop n) :=
  ⟨okL_iff.mpr fun d hd => okL_iff.mp h.ok d (List.mem_of_mem_drop hd), Nat.le_trans (cnL_drop n ds) h.few, dpA_le fun d hd => Nat.le_trans (dpA_mem (List.mem_of_mem_drop hd)) h.deep⟩
theorem Ro.mono {w k w' k' : Nat} {ds : List PyData} (h : Ro w k ds) (hw : w ≤ w') (hk : k ≤ k') : Ro w' k' ds := ⟨h.ok, Nat.le_trans h.few hw, Nat.le_trans h.deep hk⟩
theorem ro_cy {l : List Int} (h : ∀ i ∈ l, Bd 14 i) : Ro l.length 0 (l.map .int) := by
  refine ⟨?_, by rw [cnL_ints]; exact Nat.le_refl _, by rw [dpA_ints]; exact Nat.le_refl _⟩
  rw [okL_ints, List.all_eq_true]
  exact fun i hi => decide_eq_true ((h i hi).mono (by decide))
theorem Sd.row {w k : Nat} {ds : List PyData} (h : Sd w (k + 1) (.tuple ds)) : Ro w k ds := by
  obtain ⟨h1, h2, h3⟩ := h
  rw [okB_t] at h1
  rw [cn_t] at h2
  rw [dp_t] at h3
  exact ⟨h1, by omega, by omega⟩
@[simp] theorem c_to0 {ds : List PyData} : cutD ds none (some 0) = ds.take 0 := cut_to ds 0
@[simp] theorem c_to1 {ds : List PyData} : cutD ds none (some 1) = ds.take 1 := cut_to ds 1
@[simp] theorem c_to2 {ds : List PyData} : cutD ds none (some 2) = ds.take 2 := cut_to ds 2
@[simp] theorem c_to3 {ds : List PyData} : cutD ds none (some 3) = ds.take 3 := cut_to ds 3
@[simp] theorem c_fr1 {ds : List PyData} : cutD ds (some 1) none = ds.drop 1 := cut_from ds 1
@[simp] theorem c_fr2 {ds : List PyData} : cutD ds (some 2) none = ds.drop 2 := cut_from ds 2
@[simp] theorem c_fr3 {ds : List PyData} : cutD ds (some 3) none = ds.drop 3 := cut_from ds 3
@[simp] theorem c_fr4 {ds : List PyData} : cutD ds (some 4) none = ds.drop 4 := cut_from ds 4
@[simp] theorem c_tom {ds : List PyData} : cutD ds none (some (-1)) = ds.take (ds.length - 1) := cut_front ds
theorem hs_at (m : M) {n : Nat} (hb : m.bd n) {k : Nat} (hk : k < 4) : ∃ x : Int, Bd n x ∧ atI [PyData.int m.a, .int m.b, .int m.c, .int m.d] (k : Int) = some (.int x) := by
  obtain ⟨h1, h2, h3, h4⟩ := hb
  rw [atI_nat']
  match k, hk with
  | 0, _ => exact ⟨_, h1, rfl⟩
  | 1, _ => exact ⟨_, h2, rfl⟩
  | 2, _ => exact ⟨_, h3, rfl⟩
  | 3, _ => exact ⟨_, h4, rfl⟩
theorem ro_M {n : Nat} {m : M} (h : m.bd n) (hn : n ≤ IB) : Ro 4 0 [.int m.a, .int m.b, .int m.c, .int m.d] := by
  obtain ⟨h1, h2, h3, h4⟩ := h
  refine ⟨?_, by simp, by simp⟩
  simp [h1.mono hn, h2.mono hn, h3.mono hn, h4.mono hn]
theorem one_loop {hs : List PyData} (q0 q2 q3 : Option Res) {k : Nat} (hq2 : q2 = some (.sh (.int k))) (hh : Ro 4 0 hs) (hl : hs.length = 4) (items : List PyData) (hi : Al (Sd 303 1) items) (hn : items.length ≤ 20) (ps : List PyData) (hp : Al Gd ps) (hpl : ps.length ≤ 50) :
    ∃ ps', forD (gNm 5) (sFo [5] (sApp 4 (eTup (aCons (eC (.str "one")) (aCons (eBin addR (eBin addR (eSl (eVar 1) oNo (oIs (eVar 2))) (eTup (aCons (eVar 5) aNil))) (eSl (eVar 1) (oIs (eBin addR (eVar 2) (eC (.int 1)))) oNo)) aNil))))) items
      [q0, some (.sh (.tuple hs)), q2, q3, some (.bo ps), none, none, none, none, none, none] = some (.nx [q0, some (.sh (.tuple hs)), q2, q3, some (.bo ps'), none, none, none, none, none, none]) ∧ Al Gd ps' ∧ ps'.length = ps.length + items.length := by
  subst hq2
  have hto : cutD hs none (some (k : Int)) = hs.take k := cut_to _ k
  have hfr : cutD hs (some ((k : Int) + 1)) none = hs.drop (k + 1) := cut_from _ (k + 1)
  obtain ⟨ρ', e, ps', rfl, h1, h2⟩ := for_inv (g := gNm 5) (b := (sFo [5] (sApp 4 (eTup (aCons (eC (.str "one")) (aCons (eBin addR (eBin addR (eSl (eVar 1) oNo (oIs (eVar 2))) (eTup (aCons (eVar 5) aNil))) (eSl (eVar 1) (oIs (eBin addR (eVar 2) (eC (.int 1)))) oNo)) aNil)))))) (fun j ρ => ∃ ps', ρ = [q0, some (.sh (.tuple hs)), some (.sh (.int k)), q3, some (.bo ps'), none, none, none, none, none, none] ∧ Al Gd ps' ∧ ps'.length = ps.length + j) items 0 [q0, some (.sh (.tuple hs)), some (.sh (.int k)), q3, some (.bo ps), none, none, none, none, none, none]
    (fun j d ρ hj hI => by
      obtain ⟨ps', rfl, i1, i2⟩ := hI
      have hd := hi d (List.mem_of_getElem? hj)
      have hjl := (List.getElem?_eq_some_iff.mp hj).1
      have c1 : ps'.length < 1000000 := by omega
      have c2 : (hs.take k).length + 1 ≤ 1000000 := by rw [List.length_take]; omega
      have c3 : (hs.take k).length + 1 + (hs.drop (k + 1)).length ≤ 1000000 := by rw [List.length_take, List.length_drop]; omega
      have g : Gd (.tuple [.str "one", .tuple (hs.take k ++ [d] ++ hs.drop (k + 1))]) := by
        have r1 : Ro (4 + (303 + 0) + 4) 1 (hs.take k ++ [d] ++ hs.drop (k + 1)) := Ro.app (Ro.app ((hh.take k).mono (Nat.le_refl _) (by decide)) (Ro.cons hd Ro.nil)) ((hh.drop (k + 1)).mono (Nat.le_refl _) (by decide))
        exact (Ro.cons (sd_s (x := "one") (w := 10) (strOk_of _) (by rw [show ("one" : Str).length = 3 from rfl]; decide) (by rw [show ("one" : Str).length = 3 from rfl]; decide) 2) (Ro.cons r1.tup Ro.nil (v := 0))).tup.gd (by decide) (by decide)
      refine ⟨_, ?_, ps' ++ [.tuple [.str "one", .tuple (hs.take k ++ [d] ++ hs.drop (k + 1))]], rfl, i1.app (Al.cons g Al.nil), by rw [List.length_append]; simp; omega⟩
      rw [List.length_take] at c2
      rw [List.length_take, List.length_drop] at c3
      simp [sApp_run, hto, hfr, c1, c2, c3]) ⟨ps, rfl, hp, rfl⟩
  exact ⟨ps', e, h1, by omega⟩
theorem inv_by {g x : M} (hd : g.det = 1) : g.inv * M.by_ g x = x * g.inv := by
  unfold M.by_
  rw [← M.mul_assoc, ← M.mul_assoc, M.inv_mul hd, M.one_mul]
theorem mt_some {a b : List Int} {j : Nat} (h : mt a b = some j) : j < (a.length + 1) / 2 ∧ rot a (2 * j) = b := by
  unfold mt at h
  have h1 := List.find?_some h
  have h2 := List.mem_of_find?_eq_some h
  exact ⟨List.mem_range.mp h2, of_decide_eq_true h1⟩
theorem while_inv {k : Rh → Option Bool} {b : Rh → Option Out} (I : Nat → Rh → Prop) (Q : Rh → Prop) (h : ∀ n ρ, I n ρ → (k ρ = some false ∧ Q ρ) ∨ (k ρ = some true ∧ ∃ ρ', b ρ = some (.nx ρ') ∧ ∃ m, m < n ∧ I m ρ')) (n : Nat) (ρ : Rh) (hI : I n ρ) : ∃ ρ', sWhile k b ρ = some (.nx ρ') ∧ Q ρ' := by
  have : ∀ n, ∀ ρ, I n ρ → ∃ ρ' f, whileN k b f ρ = some (.nx ρ') ∧ Q ρ' := by
    intro n
    induction n using Nat.strongRecOn with
    | _ n ih =>
      intro ρ hI
      rcases h n ρ hI with ⟨h1, h2⟩ | ⟨h1, ρ', h2, m, hm, h3⟩
      · exact ⟨ρ, 1, by rw [whileN, h1]; rfl, h2⟩
      · obtain ⟨ρ'', f, e, q⟩ := ih m hm ρ' h3
        refine ⟨ρ'', f + 1, ?_, q⟩
        rw [whileN, h1, Option.bind_some, if_pos rfl, h2]
        exact e
  obtain ⟨ρ', f, e, q⟩ := this n ρ hI
  exact ⟨ρ', sWhile_of e, q⟩
theorem near_pos {f s : Int} (h : 0 < s) : 2 * (f - (2 * f + s) / (2 * s) * s).natAbs ≤ s.natAbs := by
  have h1 := Int.mul_ediv_add_emod (2 * f + s) (2 * s)
  have h2 := Int.emod_nonneg (2 * f + s) (show 2 * s ≠ 0 by omega)
  have h3 := Int.emod_lt_of_pos (2 * f + s) (show 0 < 2 * s by omega)
  generalize (2 * f + s) / (2 * s) = k at *
  generalize (2 * f + s) % (2 * s) = r at *
  have h4 : 2 * s * k = 2 * (k * s) := by rw [Int.mul_assoc, Int.mul_comm s k]
  rw [h4] at h1
  generalize k * s = p at *
  omega
theorem off_ne {m : M} (hd : m.det = 1) (ht : 3 ≤ m.tr) : m.b ≠ 0 ∧ m.c ≠ 0 := by
  unfold M.det at hd
  unfold M.tr at ht
  have key : m.a * m.d = 1 → False := fun h => by
    have h1 : m.a.natAbs * m.d.natAbs = 1 := by rw [← Int.natAbs_mul, h]; rfl
    have h2 := Nat.eq_one_of_mul_eq_one_right h1
    have h3 := Nat.eq_one_of_mul_eq_one_left h1
    omega
  constructor
  · intro h
    rw [h, Int.zero_mul, Int.sub_zero] at hd
    exact key hd
  · intro h
    rw [h, Int.mul_zero, Int.sub_zero] at hd
    exact key hd
theorem sq_abs (x : Int) : x * x = ((x.natAbs * x.natAbs : Nat) : Int) := (Int.natAbs_mul_self' x ▸ by simp)
theorem shrink {m : M} (hd : m.det = 1) (ht : 3 ≤ m.tr) (h : (m.a - m.d).natAbs ≤ m.c.natAbs) (hn : m.b * m.c < 0) : 4 * m.b.natAbs < m.c.natAbs := by
  unfold M.det at hd
  unfold M.tr at ht
  have e1 : (m.a - m.d) * (m.a - m.d) = (m.a + m.d) * (m.a + m.d) - 4 * (m.a * m.d) := by
    simp only [Int.sub_mul, Int.mul_sub, Int.add_mul, Int.mul_add, Int.mul_comm m.d m.a]
    omega
  have e2 : 9 ≤ (m.a + m.d) * (m.a + m.d) := Int.mul_le_mul ht ht (by decide) (by omega)
  have e3 := sq_abs (m.a - m.d)
  have e4 : (m.a - m.d).natAbs * (m.a - m.d).natAbs ≤ m.c.natAbs * m.c.natAbs := Nat.mul_le_mul h h
  have e5 : m.b * m.c = -((m.b.natAbs * m.c.natAbs : Nat) : Int) := by
    have := Int.natAbs_mul m.b m.c
    omega
  apply Nat.lt_of_not_le
  intro hc
  have e6 : m.c.natAbs * m.c.natAbs ≤ 4 * m.b.natAbs * m.c.natAbs := Nat.mul_le_mul_right _ hc
  rw [Nat.mul_assoc] at e6
  omega
def qt : M := ⟨0, -1, 1, 0⟩
theorem by_mul (x y m : M) : M.by_ (x * y) m = M.by_ x (M.by_ y m) := by
  unfold M.by_
  rw [M.inv_mul_rev]
  simp only [M.mul_assoc]
theorem by_qt (m : M) : M.by_ qt m = ⟨m.d, -m.c, -m.b, m.a⟩ := by
  unfold M.by_ qt
  simp only [M.mul_def, M.inv]
  ext <;> simp only [] <;> omega
def cen (k : Int) : M := ⟨1, -k, 0, 1⟩
theorem by_cen (k : Int) (m : M) : (M.by_ (cen k) m).c = m.c ∧ (M.by_ (cen k) m).a - (M.by_ (cen k) m).d = m.a - m.d - k * (2 * m.c) := by
  unfold M.by_ cen
  simp only [M.mul_def, M.inv]
  have h1 : -k * m.c = -(k * m.c) := Int.neg_mul k m.c
  have h2 : m.c * k = k * m.c := Int.mul_comm _ _
  have h3 : k * (2 * m.c) = 2 * (k * m.c) := by rw [← Int.mul_assoc, Int.mul_comm k 2, Int.mul_assoc]
  simp only [Int.zero_mul, Int.one_mul, Int.zero_add, Int.neg_neg, Int.mul_one, Int.mul_zero, Int.add_zero, Int.neg_zero]
  exact ⟨by first | trivial | omega, by omega⟩
theorem cen_det (k : Int) : (cen k).det = 1 := by
  unfold cen M.det
  simp
theorem qt_det : qt.det = 1 := by decide
end Lk76
set_option maxRecDepth 100000
set_option maxHeartbeats 1000000
namespace Lk76
open PySem L2 F3
/-! ### the nearest int, with wider bounds -/
theorem e_nearest {f s : Int} (h : s ≠ 0) (bf : Bd 800 f) (bs : Bd 800 s) : ∃ k : Int, f_nearest [.int f, .int s] = some (.sh (.int k)) ∧ 2 * (f - k * s).natAbs ≤ s.natAbs := by
  by_cases h0 : s < 0
  · have m1 : mulOk 2 (-f) := mulOk_of (show Bd 3 2 by decide) bf.neg (by decide)
    have m2 : mulOk 2 (-s) := mulOk_of (show Bd 3 2 by decide) bs.neg (by decide)
    have hd : divOk (2 * (-s)) := divOk_of (by omega) ((show Bd 3 2 by decide).mul bs.neg) (by decide)
    have hn := near_pos (f := -f) (s := -s) (by omega)
    refine ⟨(2 * (-f) + (-s)) / (2 * (-s)), ?_, ?_⟩
    · clear hn
      obtain ⟨f', hf'⟩ : ∃ f', -f = f' := ⟨_, rfl⟩
      obtain ⟨s', hs'⟩ : ∃ s', -s = s' := ⟨_, rfl⟩
      rw [hf'] at m1 ⊢
      rw [hs'] at m2 hd ⊢
      simp [f_nearest, b_nearest, h0, hf', hs', m1, m2, hd]
    · generalize (2 * (-f) + (-s)) / (2 * (-s)) = k at *
      rw [Int.mul_neg] at hn
      generalize k * s = p at *
      omega
  · have m1 : mulOk 2 f := mulOk_of (show Bd 3 2 by decide) bf (by decide)
    have m2 : mulOk 2 s := mulOk_of (show Bd 3 2 by decide) bs (by decide)
    have hd : divOk (2 * s) := divOk_of (by omega) ((show Bd 3 2 by decide).mul bs) (by decide)
    refine ⟨(2 * f + s) / (2 * s), ?_, near_pos (by omega)⟩
    simp [f_nearest, b_nearest, h0, m1, m2, hd]
theorem e_centring {m : M} (hc : m.c ≠ 0) (b1 : Bd 700 (m.a - m.d)) (b2 : Bd 700 m.c) : ∃ k : Int, f_centring [m.D] = some (.sh (cen k).D) ∧ 2 * (m.a - m.d - k * (2 * m.c)).natAbs ≤ (2 * m.c).natAbs := by
  have m2 : mulOk 2 m.c := mulOk_of (show Bd 3 2 by decide) b2 (by decide)
  obtain ⟨k, e, hk⟩ := e_nearest (f := m.a - m.d) (s := 2 * m.c) (by omega) (b1.mono (by decide)) (((show Bd 3 2 by decide).mul b2).mono (by decide))
  refine ⟨k, ?_, hk⟩
  simp [f_centring, b_centring, M.D, m2, e, cen]
/-! ### turns with a trace between minus one and one -/
structure El (m : M) : Prop where
  det : m.det = 1
  lo : -1 ≤ m.tr
  hi : m.tr ≤ 1
theorem El.ne {m : M} (h : El m) : m.b ≠ 0 ∧ m.c ≠ 0 := by
  obtain ⟨hd, h1, h2⟩ := h
  unfold M.det at hd
  unfold M.tr at h1 h2
  have key : m.a * m.d = 1 → False := fun h => by
    have h1 : m.a.natAbs * m.d.natAbs = 1 := by rw [← Int.natAbs_mul, h]; rfl
    have h2 := Nat.eq_one_of_mul_eq_one_right h1
    have h3 := Nat.eq_one_of_mul_eq_one_left h1
    have h4 : m.a = 1 ∨ m.a = -1 := by omega
    have h5 : m.d = 1 ∨ m.d = -1 := by omega
    rcases h4 with h4 | h4 <;> rcases h5 with h5 | h5 <;> first | omega | (rw [h4, h5] at h; revert h; decide)
  constructor
  · intro h
    rw [h, Int.zero_mul, Int.sub_zero] at hd
    exact key hd
  · intro h
    rw [h, Int.mul_zero, Int.sub_zero] at hd
    exact key hd
theorem El.by_ {m g : M} (h : El m) (hg : g.det = 1) : El (M.by_ g m) :=
  ⟨by rw [M.by_det hg]; exact h.det, by rw [M.by_tr hg]; exact h.lo, by rw [M.by_tr hg]; exact h.hi⟩
/-- what the form of a turn tells -/
theorem El.form {m : M} (h : El m) : m.b * m.c < 0 ∧ 4 * (m.b.natAbs * m.c.natAbs) ≤ (m.a - m.d).natAbs * (m.a - m.d).natAbs + 4 := by
  obtain ⟨hd, h1, h2⟩ := h
  unfold M.det at hd
  unfold M.tr at h1 h2
  have e1 : (m.a - m.d) * (m.a - m.d) = (m.a + m.d) * (m.a + m.d) - 4 * (m.a * m.d) := by
    simp only [Int.sub_mul, Int.mul_sub, Int.add_mul, Int.mul_add, Int.mul_comm m.d m.a]
    omega
  have e2 : (m.a + m.d) * (m.a + m.d) ≤ 1 := by
    have : m.a + m.d = -1 ∨ m.a + m.d = 0 ∨ m.a + m.d = 1 := by omega
    rcases this with e | e | e <;> rw [e] <;> decide
  have e2' : 0 ≤ (m.a + m.d) * (m.a + m.d) := by
    have : m.a + m.d = -1 ∨ m.a + m.d = 0 ∨ m.a + m.d = 1 := by omega
    rcases this with e | e | e <;> rw [e] <;> decide
  have e3 := sq_abs (m.a - m.d)
  have e6 := Int.natAbs_mul m.b m.c
  generalize m.b * m.c = p at *
  generalize m.b.natAbs * m.c.natAbs = q at *
  generalize (m.a - m.d).natAbs * (m.a - m.d).natAbs = r at *
  generalize (m.a + m.d) * (m.a + m.d) = u at *
  generalize m.a * m.d = v at *
  omega
/-- a turn near its standard one -/
def ends : List M := [⟨0, -1, 1, 0⟩, ⟨0, 1, -1, 0⟩, ⟨0, -1, 1, 1⟩, ⟨1, -1, 1, 0⟩, ⟨0, 1, -1, 1⟩, ⟨1, 1, -1, 0⟩, ⟨0, -1, 1, -1⟩, ⟨-1, -1, 1, 0⟩, ⟨0, 1, -1, -1⟩, ⟨-1, 1, -1, 0⟩]
theorem El.end_ {m : M} (h : El m) (ha : (m.a - m.d).natAbs ≤ m.c.natAbs) (hb : m.c.natAbs ≤ m.b.natAbs) : m ∈ ends := by
  obtain ⟨f1, f2⟩ := h.form
  obtain ⟨n1, n2⟩ := h.ne
  have e4 : (m.a - m.d).natAbs * (m.a - m.d).natAbs ≤ m.c.natAbs * m.c.natAbs := Nat.mul_le_mul ha ha
  have e5 : m.c.natAbs * m.c.natAbs ≤ m.b.natAbs * m.c.natAbs := Nat.mul_le_mul_right _ hb
  have c1 : m.c.natAbs = 1 := by
    have : m.c.natAbs < 2 := by
      apply Nat.lt_of_not_le
      intro h2
      have := Nat.mul_le_mul h2 h2
      omega
    omega
  rw [c1] at f2 ha e4
  have b1 : m.b.natAbs = 1 := by omega
  have hc : m.c = 1 ∨ m.c = -1 := by omega
  have hb' : m.b = 1 ∨ m.b = -1 := by omega
  obtain ⟨hd, h1, h2⟩ := h
  obtain ⟨a, b, c, d⟩ := m
  unfold M.det at hd
  unfold M.tr at h1 h2
  simp only at *
  have ra : a = -1 ∨ a = 0 ∨ a = 1 := by omega
  have rd : d = -1 ∨ d = 0 ∨ d = 1 := by omega
  rcases hc with rfl | rfl <;> rcases hb' with rfl | rfl <;> rcases ra with rfl | rfl | rfl <;> rcases rd with rfl | rfl | rfl <;> first | exact absurd f1 (by decide) | exact absurd hd (by decide) | exact absurd ha (by decide) | decide
theorem El.shrink {m : M} (h : El m) (ha : (m.a - m.d).natAbs ≤ m.c.natAbs) (hb : m.b.natAbs < m.c.natAbs) : 2 * m.b.natAbs ≤ m.c.natAbs := by
  obtain ⟨f1, f2⟩ := h.form
  obtain ⟨n1, n2⟩ := h.ne
  have e4 : (m.a - m.d).natAbs * (m.a - m.d).natAbs ≤ m.c.natAbs * m.c.natAbs := Nat.mul_le_mul ha ha
  apply Nat.le_of_not_lt
  intro hlt
  have e5 : (m.c.natAbs + 1) * m.c.natAbs ≤ (2 * m.b.natAbs) * m.c.natAbs := Nat.mul_le_mul_right _ hlt
  have c2 : 2 ≤ m.c.natAbs := by omega
  have c4 : 2 * m.c.natAbs ≤ m.c.natAbs * m.c.natAbs := Nat.mul_le_mul_right _ c2
  rw [Nat.mul_assoc, Nat.add_mul] at e5
  omega
/-- sizes, from the size of c -/
theorem El.bd {m : M} (h : El m) {n : Nat} (ha : (m.a - m.d).natAbs ≤ m.c.natAbs) (hc : m.c.natAbs < 2 ^ n) : m.bd (n + 3) := by
  obtain ⟨f1, f2⟩ := h.form
  obtain ⟨n1, n2⟩ := h.ne
  obtain ⟨hd, h1, h2⟩ := h
  unfold M.tr at h1 h2
  have e4 : (m.a - m.d).natAbs * (m.a - m.d).natAbs ≤ m.c.natAbs * m.c.natAbs := Nat.mul_le_mul ha ha
  have hb : m.b.natAbs ≤ m.c.natAbs + 4 := by
    apply Nat.le_of_not_lt
    intro hlt
    have e5 : (m.c.natAbs + 5) * m.c.natAbs ≤ m.b.natAbs * m.c.natAbs := Nat.mul_le_mul_right _ hlt
    rw [Nat.add_mul] at e5
    have : 1 ≤ m.c.natAbs := by omega
    omega
  have p : 2 ^ (n + 3) = 8 * 2 ^ n := by rw [Nat.pow_add]; omega
  have p0 := Nat.two_pow_pos n
  unfold M.bd Bd
  rw [p]
  refine ⟨?_, ?_, ?_, ?_⟩ <;> omega
end Lk76
set_option maxRecDepth 100000
set_option maxHeartbeats 1000000
set_option exponentiation.threshold 2000
namespace Lk76
open PySem L2 F3
theorem abs_le_mul {x y : Int} (hy : y ≠ 0) : x.natAbs ≤ (x * y).natAbs := by
  rw [Int.natAbs_mul]
  exact Nat.le_mul_of_pos_right _ (by omega)
theorem qt_bd : qt.bd 1 := by unfold qt; exact ⟨by decide, by decide, by decide, by decide⟩
/-- one centring -/
theorem El.cen {m : M} (h : El m) {n : Nat} (ha : (m.a - m.d).natAbs < 2 ^ n) (hc : m.c.natAbs < 2 ^ n) {k : Int} (hk : 2 * (m.a - m.d - k * (2 * m.c)).natAbs ≤ (2 * m.c).natAbs) :
    (Lk76.cen k).bd (n + 2) ∧ El (M.by_ (Lk76.cen k) m) ∧ (M.by_ (Lk76.cen k) m).c = m.c ∧ ((M.by_ (Lk76.cen k) m).a - (M.by_ (Lk76.cen k) m).d).natAbs ≤ m.c.natAbs := by
  obtain ⟨_, c0⟩ := h.ne
  obtain ⟨e1, e2⟩ := by_cen k m
  have hkk := abs_le_mul (x := k) (y := 2 * m.c) (by omega)
  have E := h.by_ (cen_det k)
  generalize M.by_ (Lk76.cen k) m = m1 at *
  have p : 2 ^ (n + 2) = 4 * 2 ^ n := by rw [Nat.pow_add]; omega
  have p0 := Nat.two_pow_pos n
  refine ⟨?_, E, e1, ?_⟩
  · unfold Lk76.cen M.bd Bd
    rw [p]
    generalize k * (2 * m.c) = q at *
    refine ⟨?_, ?_, ?_, ?_⟩ <;> simp only <;> omega
  · rw [e2]
    generalize k * (2 * m.c) = q at *
    omega
/-- the state of the loop -/
structure Se (x : M) (n : Nat) (m h : M) : Prop where
  el : El m
  hd : h.det = 1
  lead : M.by_ h x = m
  n600 : n ≤ 600
  hb : h.bd (610 + 610 * (600 - n))
  ad : (m.a - m.d).natAbs ≤ m.c.natAbs
  c : m.c.natAbs < 2 ^ n
theorem e_settled {x : M} (hx : El x) (bx : x.bd 599) : ∃ m h : M, f_settled [x.D] = some (.sh (.tuple [m.D, h.D])) ∧ m ∈ ends ∧ h.det = 1 ∧ M.by_ h x = m ∧ h.bd 400000 := by
  obtain ⟨x1, x2⟩ := hx.ne
  have bad : Bd 600 (x.a - x.d) := bx.1.sub bx.2.2.2
  obtain ⟨k, ek, hk⟩ := e_centring x2 (bad.mono (by decide)) (bx.2.2.1.mono (by decide))
  obtain ⟨g1, g2, g3, g4⟩ := hx.cen (n := 600) bad (bx.2.2.1.mono (by decide)) hk
  have et := e_turned_by bx g1 (by decide)
  have start : Se x 600 (M.by_ (cen k) x) (cen k) := ⟨g2, cen_det k, rfl, by decide, g1.mono (by decide), by rw [g3]; exact g4, by rw [g3]; exact bx.2.2.1.mono (by decide)⟩
  generalize M.by_ (cen k) x = m0 at *
  generalize cen k = h0 at *
  have cq : c_QUARTER = qt.D := rfl
  obtain ⟨ρ', e, m, h, q1, q2, q3, q4, rfl⟩ := while_inv (k := w_settled_2) (b := l_settled_1) (fun n ρ => ∃ m h : M, ρ = [some (.sh x.D), some (.sh h.D), some (.sh m.D), none, none] ∧ Se x n m h)
    (fun ρ => ∃ m h : M, m ∈ ends ∧ h.det = 1 ∧ M.by_ h x = m ∧ h.bd 400000 ∧ ρ = [some (.sh x.D), some (.sh h.D), some (.sh m.D), none, none])
    (fun n ρ hI => by
      obtain ⟨m, h, rfl, P⟩ := hI
      obtain ⟨p1, p2, p3, p4, p5, p6, p7⟩ := P
      by_cases hg : m.b.natAbs < m.c.natAbs
      · refine Or.inr ⟨?_, ?_⟩
        · have : (if m.b < 0 then -m.b else m.b) < (if m.c < 0 then -m.c else m.c) := by split <;> split <;> omega
          simp [w_settled_2, M.D, this]
        · obtain ⟨b0, c0⟩ := p1.ne
          have sh := p1.shrink p6 hg
          have bm := p1.bd p6 p7
          have hn : 1 ≤ n := by
            apply Nat.pos_of_ne_zero
            intro h0
            rw [h0] at p7
            omega
          have hpow : 2 ^ n = 2 * 2 ^ (n - 1) := by
            rw [← Nat.pow_succ']
            congr 1
            omega
          have E1 := p1.by_ qt_det
          have et1 := e_turned_by bm qt_bd (by omega)
          have bq : (M.by_ qt m).bd (n + 3) := by rw [by_qt]; exact ⟨bm.2.2.2, bm.2.2.1.neg, bm.2.1.neg, bm.1⟩
          have qc : (M.by_ qt m).c = -m.b := by rw [by_qt]
          have qad : (M.by_ qt m).a - (M.by_ qt m).d = m.d - m.a := by rw [by_qt]
          have lead2 : ∀ k, M.by_ (cen k * qt * h) x = M.by_ (cen k) (M.by_ qt m) := fun k => by rw [M.mul_assoc, by_mul, by_mul, p3]
          have et2' : ∀ k, M.by_ (cen k * qt) m = M.by_ (cen k) (M.by_ qt m) := fun k => by_mul _ _ _
          generalize M.by_ qt m = q at *
          have lt1 : (q.a - q.d).natAbs < 2 ^ n := by rw [qad]; omega
          have lt2 : q.c.natAbs < 2 ^ n := by rw [qc]; omega
          obtain ⟨k, ek, hk⟩ := e_centring (m := q) (by rw [qc]; omega) (Bd.mono (n := n) lt1 (by omega)) (Bd.mono (n := n) lt2 (by omega))
          obtain ⟨f1, f2, f3, f4⟩ := E1.cen lt1 lt2 hk
          have ep := e_turn_product f1 qt_bd (by omega)
          have bs := f1.mul qt_bd
          have et2 := e_turned_by bm bs (by omega)
          have eh := e_turn_product bs p5 (by omega)
          have bh := bs.mul p5
          rw [et2'] at et2
          have l2 := lead2 k
          have hdet : (cen k * qt * h).det = 1 := by rw [M.det_mul, M.det_mul, cen_det, qt_det, p2]; rfl
          refine ⟨[some (.sh x.D), some (.sh (cen k * qt * h).D), some (.sh (M.by_ (cen k) q).D), none, none], ?_, n - 1, by omega, M.by_ (cen k) q, cen k * qt * h, rfl, ?_⟩
          · simp [l_settled_1, cq, et1, ek, ep, et2, eh]
          · refine ⟨f2, hdet, l2, by omega, bh.mono (by omega), by rw [f3]; exact f4, ?_⟩
            rw [f3, qc]
            omega
      · refine Or.inl ⟨?_, m, h, p1.end_ p6 (by omega), p2, p3, p5.mono (by omega), rfl⟩
        have : ¬ (if m.b < 0 then -m.b else m.b) < (if m.c < 0 then -m.c else m.c) := by split <;> split <;> omega
        simp [w_settled_2, M.D, this]) 600 [some (.sh x.D), some (.sh h0.D), some (.sh m0.D), none, none] ⟨m0, h0, rfl, start⟩
  refine ⟨m, h, ?_, q1, q2, q3, q4⟩
  simp [f_settled, b_settled, ek, et, e]
end Lk76
set_option maxRecDepth 100000
set_option maxHeartbeats 1000000
namespace Lk76
open PySem L2 F3
/-! ### the eight standards -/
def negone : M := ⟨-1, 0, 0, -1⟩
def stds : List M := [⟨1, 0, 0, 1⟩, ⟨-1, 0, 0, -1⟩, ⟨0, -1, 1, 0⟩, ⟨0, 1, -1, 0⟩, ⟨0, -1, 1, 1⟩, ⟨1, 1, -1, 0⟩, ⟨0, -1, 1, -1⟩, ⟨-1, 1, -1, 0⟩]
def sh1 : List M := [⟨1, 0, 0, 1⟩, ⟨1, -1, 0, 1⟩, ⟨1, 1, 0, 1⟩]
theorem stds_D : c_STANDARDS = .tuple (stds.map M.D) := rfl
theorem sh1_D : c_SHIFTS = .tuple (sh1.map M.D) := rfl
theorem law_stds : f__law_standards [] = some (.fr (stds.map M.D)) := by
  simp [f__law_standards, b__law_standards, stds, M.D, fnD, finD]
theorem sp_M (x : M) : SeqAt.shaped x.D = true := by simp [M.D, PyData.canLayAll0, PyData.canLay0, PyData.depthAll, PyData.depth]
theorem eqv_M (x y : M) : PyData.eqv x.D y.D = decide (x = y) := by
  have h := eqD_M x y
  have e : eqD x.D y.D = some (PyData.eqv x.D y.D) := by simp [eqD, M.D, PyData.canLayAll0, PyData.canLay0, PyData.depthAll, PyData.depth]
  rw [e] at h
  exact Option.some.inj h
theorem any_M (x : M) : ∀ ms : List M, (ms.map M.D).any (fun z => PyData.eqv z x.D) = decide (x ∈ ms)
  | [] => by simp
  | m :: ms => by
    rw [List.map_cons, List.any_cons, any_M x ms, eqv_M, Bool.eq_iff_iff]
    simp only [Bool.or_eq_true, decide_eq_true_eq, List.mem_cons]
    exact or_congr_left eq_comm
theorem sp_stds : SeqAt.shaped (.list (stds.map M.D)) = true := by
  simp [stds, M.D, PyData.canLayAll0, PyData.canLay0, PyData.depthAll, PyData.depth]
theorem inR_t (x : M) : inR false (.sh x.D) (.sh (.tuple (stds.map M.D))) = some (.sh (.bool (decide (x ∈ stds)))) := by
  simp only [inR, seq_t, Res.dat, sp_M, sp_stds, and_self, if_true, any_M, Bool.false_eq_true, if_false]
theorem inR_tn (x : M) : inR true (.sh x.D) (.sh (.tuple (stds.map M.D))) = some (.sh (.bool (!decide (x ∈ stds)))) := by
  simp only [inR, seq_t, Res.dat, sp_M, sp_stds, and_self, if_true, any_M]
theorem inR_fn (x : M) : inR true (.sh x.D) (.fr (stds.map M.D)) = some (.sh (.bool (!decide (x ∈ stds)))) := by
  simp only [inR, seq_f, Res.dat, sp_M, sp_stds, and_self, if_true, any_M]
theorem stds_bd {s : M} (h : s ∈ stds) : s.bd 1 := by
  unfold stds at h
  simp only [List.mem_cons, List.not_mem_nil, or_false] at h
  rcases h with rfl | rfl | rfl | rfl | rfl | rfl | rfl | rfl <;> exact ⟨by decide, by decide, by decide, by decide⟩
theorem sh1_bd {s : M} (h : s ∈ sh1) : s.bd 1 := by
  unfold sh1 at h
  simp only [List.mem_cons, List.not_mem_nil, or_false] at h
  rcases h with rfl | rfl | rfl <;> exact ⟨by decide, by decide, by decide, by decide⟩
theorem ends_bd {s : M} (h : s ∈ ends) : s.bd 1 := by
  unfold ends at h
  simp only [List.mem_cons, List.not_mem_nil, or_false] at h
  rcases h with rfl | rfl | rfl | rfl | rfl | rfl | rfl | rfl | rfl | rfl <;> exact ⟨by decide, by decide, by decide, by decide⟩
theorem stds_det : ∀ s ∈ stds, s.det = 1 := by decide
theorem sh1_det : ∀ s ∈ sh1, s.det = 1 := by decide
theorem shift_some : ∀ m ∈ ends, ∃ s ∈ sh1, (sh1.filter (fun i => decide (M.by_ i m ∈ stds)))[0]? = some s ∧ M.by_ s m ∈ stds := by decide
/-! ### the order -/
/-- the turns of finite order -/
def Fi (x : M) : Prop := x = M.one ∨ x = negone ∨ (-1 ≤ x.tr ∧ x.tr ≤ 1)
instance (x : M) : Decidable (Fi x) := inferInstanceAs (Decidable (_ ∨ _ ∨ (_ ∧ _)))
theorem e_turn_order (x : M) : ∃ o : Int, f_turn_order [x.D] = some (.sh (.int o)) ∧ (o = 0 ↔ ¬ Fi x) := by
  have c1 : c_STILL = M.one.D := rfl
  have c2 : c_HALF = negone.D := rfl
  have q1 := eqD_M x M.one
  have q2 := eqD_M x negone
  by_cases h1 : x = M.one
  · refine ⟨1, ?_, by simp [Fi, h1]⟩
    subst h1
    simp [f_turn_order, b_turn_order, c1, q1, finD]
  by_cases h2 : x = negone
  · refine ⟨2, ?_, by simp [Fi, h2]⟩
    subst h2
    simp [f_turn_order, b_turn_order, c1, c2, q1, q2, h1, finD]
  refine ⟨(atKey [(-1, 3), (0, 4), (1, 6)] x.tr).getD 0, ?_, ?_⟩
  · have : f_turn_order [x.D] = some (.sh (.int ((atKey [(-1, 3), (0, 4), (1, 6)] (x.a + x.d)).getD 0))) := by
      simp [f_turn_order, b_turn_order, c1, c2, q1, q2, h1, h2, finD]
      simp [M.D]
    exact this
  · rw [show atKey [(-1, 3), (0, 4), (1, 6)] x.tr = if -1 = x.tr then some 3 else if 0 = x.tr then some 4 else if 1 = x.tr then some 6 else none from rfl]
    unfold Fi
    simp only [h1, h2, false_or]
    by_cases t1 : (-1 : Int) = x.tr
    · simp [← t1]
    by_cases t2 : (0 : Int) = x.tr
    · simp [← t2]
    by_cases t3 : (1 : Int) = x.tr
    · simp [← t3]
    rw [if_neg t1, if_neg t2, if_neg t3]
    simp
    omega
end Lk76
set_option maxRecDepth 100000
set_option maxHeartbeats 1000000
namespace Lk76
open PySem L2 F3
theorem lc_shift {m : M} (bm : m.bd 5) (q0 q2 q3 : Option Res) : ∀ items : List M, (∀ i ∈ items, i.bd 1) → lcD (gNm 4) (tOf (eBin (inR false) (eFn f_turned_by (aCons (eVar 1) (aCons (eVar 4) aNil))) (eC (.tuple (stds.map M.D))))) (eVar 4) [q0, some (.sh m.D), q2, q3, none] (items.map M.D) = some ((items.filter (fun i => decide (M.by_ i m ∈ stds))).map M.D)
  | [], _ => rfl
  | i :: items, h => by
    have ih := lc_shift bm q0 q2 q3 items fun j hj => h j (List.mem_cons_of_mem _ hj)
    have e := e_turned_by bm (h i List.mem_cons_self) (by decide)
    have n := inR_t (M.by_ i m)
    rw [List.map_cons, lcD]
    by_cases hk : M.by_ i m ∈ stds
    · rw [decide_eq_true hk] at n
      simp only [List.filter_cons, hk, decide_true, if_true, List.map_cons]
      simp [e, n, ih]
    · rw [decide_eq_false hk] at n
      simp only [List.filter_cons, hk, decide_false, if_false, Bool.false_eq_true]
      simp [e, n, ih]
theorem one_std : M.one ∈ stds := by decide
theorem negone_std : negone ∈ stds := by decide
theorem one_inv : M.one.inv = M.one := by decide
theorem by_one (x : M) : M.by_ M.one x = x := by unfold M.by_; rw [one_inv, M.one_mul, M.mul_one]
theorem c0_of {x : M} (hd : x.det = 1) (hc : x.c = 0) (h : Fi x) : x = M.one ∨ x = negone := by
  rcases h with h | h | h
  · exact Or.inl h
  · exact Or.inr h
  · exact absurd hc (El.ne ⟨hd, h.1, h.2⟩).2
theorem e_finite_no {x : M} (h : ¬ Fi x) : f_finite_paper [x.D] = some (.ex "EndlessOrder") := by
  obtain ⟨o, e, ho⟩ := e_turn_order x
  rw [ho.mpr h] at e
  simp [f_finite_paper, b_finite_paper, fnDX, e]
theorem e_finite {x : M} (hd : x.det = 1) (bx : x.bd 599) (h : Fi x) : ∃ s k : M, f_finite_paper [x.D] = some (.ok (.sh (.tuple [s.D, k.D]))) ∧ s ∈ stds ∧ k.det = 1 ∧ M.by_ k x = s ∧ k.bd 400010 := by
  obtain ⟨o, e, ho⟩ := e_turn_order x
  have o0 : ¬ o = 0 := fun z => (ho.mp z) h
  have c1 : c_STILL = M.one.D := rfl
  by_cases hc : x.c = 0
  · have hx : x ∈ stds := by
      rcases c0_of hd hc h with rfl | rfl
      · exact one_std
      · exact negone_std
    refine ⟨x, M.one, ?_, hx, rfl, by_one x, one_bd.mono (by decide)⟩
    have hxc : ixR (.sh x.D) (.sh (.int 2)) = some (.sh (.int 0)) := by simp [M.D, hc]
    simp [f_finite_paper, b_finite_paper, fnDX, e, o0, hxc, c1]
  · have hel : El x := by
      rcases h with h | h | h
      · rw [h] at hc; exact absurd rfl hc
      · rw [h] at hc; exact absurd rfl hc
      · exact ⟨hd, h.1, h.2⟩
    obtain ⟨m, k, es, hm, hk, hl, bk⟩ := e_settled hel bx
    obtain ⟨s, hs, h0, hst⟩ := shift_some m hm
    have bm := (ends_bd hm).mono (show 1 ≤ 5 by decide)
    have bs := sh1_bd hs
    have ef := lc_shift bm (some (.sh x.D)) (some (.sh k.D)) none sh1 fun i hi => sh1_bd hi
    have et := e_turned_by bm bs (by decide)
    have ep := e_turn_product bs bk (by decide)
    refine ⟨M.by_ s m, s * k, ?_, hst, by rw [M.det_mul, sh1_det s hs, hk]; rfl, by rw [by_mul, hl], (bs.mul bk).mono (by decide)⟩
    have ehd : atI ((sh1.filter (fun i => decide (M.by_ i m ∈ stds))).map M.D) 0 = some s.D := by
      rw [show (0 : Int) = ((0 : Nat) : Int) from rfl, atI_nat', List.getElem?_map, h0]
      rfl
    have hxc : ixR (.sh x.D) (.sh (.int 2)) = some (.sh (.int x.c)) := by simp [M.D]
    simp only [f_finite_paper, b_finite_paper, fnDX, stds_D, sh1_D]
    simp [e, o0, hxc, hc, es, ef, ehd, et, ep, show sh1.length = 3 from rfl, wipeD]
/-! ### the first twelve powers -/
def pwr (x : M) : Nat → M
  | 0 => x
  | k + 1 => pwr x k * x
theorem pwr_bd {n : Nat} {x : M} (h : x.bd n) : ∀ k, (pwr x k).bd (n + k * (n + 1))
  | 0 => h.mono (by omega)
  | k + 1 => ((pwr_bd h k).mul h).mono (by rw [Nat.succ_mul]; omega)
theorem fin_no {n : Nat} {x : M} (bx : x.bd n) (hn : n ≤ 1000) : ∀ (ds : List PyData) (k : Nat), k + ds.length ≤ 20 → (∀ j, pwr x j ≠ M.one) → forD (gNm 2) l__law_finite_1 ds [some (.sh x.D), some (.sh (pwr x k).D), none] = some (.nx [some (.sh x.D), some (.sh (pwr x (k + ds.length)).D), none])
  | [], k, _, _ => rfl
  | d :: ds, k, hk, h => by
    rw [List.length_cons] at hk
    have ih := fin_no bx hn ds (k + 1) (by omega) h
    have hb : k * (n + 1) ≤ 20 * 1001 := Nat.mul_le_mul (by omega) (by omega)
    have et := e_law_times (pwr_bd bx k) bx (by omega)
    have q := eqD_M (pwr x k) M.one
    rw [decide_eq_false (h k)] at q
    have e1 : (M.one.D : PyData) = .tuple [.int 1, .int 0, .int 0, .int 1] := rfl
    rw [e1] at q
    rw [show pwr x k * x = pwr x (k + 1) from rfl] at et
    rw [show k + 1 + ds.length = k + (ds.length + 1) by omega] at ih
    rw [forD]
    simp [l__law_finite_1, q, et]
    simpa [l__law_finite_1] using ih
theorem fin_yes {n : Nat} {x : M} (bx : x.bd n) (hn : n ≤ 1000) : ∀ (ds : List PyData) (k j : Nat), k + ds.length ≤ 20 → j < ds.length → pwr x (k + j) = M.one → forD (gNm 2) l__law_finite_1 ds [some (.sh x.D), some (.sh (pwr x k).D), none] = some (.rt (.sh (.bool true)))
  | [], k, j, _, hj, _ => absurd hj (Nat.not_lt_zero _)
  | d :: ds, k, j, hk, hj, h => by
    rw [List.length_cons] at hk hj
    have hb : k * (n + 1) ≤ 20 * 1001 := Nat.mul_le_mul (by omega) (by omega)
    have et := e_law_times (pwr_bd bx k) bx (by omega)
    have q := eqD_M (pwr x k) M.one
    have e1 : (M.one.D : PyData) = .tuple [.int 1, .int 0, .int 0, .int 1] := rfl
    rw [e1] at q
    by_cases h1 : pwr x k = M.one
    · rw [decide_eq_true h1] at q
      rw [forD]
      simp [l__law_finite_1, q]
    · have hj0 : j ≠ 0 := fun z => h1 (by rw [← h, z]; rfl)
      have ih := fin_yes bx hn ds (k + 1) (j - 1) (by omega) (by omega) (by rw [← h]; congr 1; omega)
      rw [decide_eq_false h1] at q
      rw [show pwr x k * x = pwr x (k + 1) from rfl] at et
      rw [forD]
      simp [l__law_finite_1, q, et]
      simpa [l__law_finite_1] using ih
end Lk76
set_option maxRecDepth 100000
set_option maxHeartbeats 1000000
namespace Lk76
open PySem L2 F3
theorem sq_of {x : M} (hd : x.det = 1) : x * x = ⟨x.tr * x.a - 1, x.tr * x.b, x.tr * x.c, x.tr * x.d - 1⟩ := by
  unfold M.det at hd
  simp only [M.mul_def, M.tr]
  ext <;> simp only [] <;> grind
theorem negone_mul (x : M) : negone * x = ⟨-x.a, -x.b, -x.c, -x.d⟩ := by
  simp only [negone, M.mul_def]
  ext <;> simp only [] <;> omega
theorem pwr_yes {x : M} (hd : x.det = 1) (h : Fi x) : ∃ j, j < 6 ∧ pwr x j = M.one := by
  rcases h with h | h | h
  · exact ⟨0, by decide, h⟩
  · exact ⟨1, by decide, by rw [h]; decide⟩
  · have h2 := sq_of hd
    have ht : x.tr = -1 ∨ x.tr = 0 ∨ x.tr = 1 := by omega
    have hd' := hd
    unfold M.det at hd'
    rcases ht with ht | ht | ht
    · refine ⟨2, by decide, ?_⟩
      show x * x * x = M.one
      rw [h2, ht]
      unfold M.tr at ht
      simp only [M.mul_def, M.one]
      ext <;> simp only [] <;> grind
    · refine ⟨3, by decide, ?_⟩
      show x * x * x * x = M.one
      rw [ht] at h2
      have h3 : x * x = negone := by rw [h2]; ext <;> simp [negone]
      rw [h3, M.mul_assoc, h3]
      decide
    · refine ⟨5, by decide, ?_⟩
      show x * x * x * x * x * x = M.one
      have h3 : x * x * x = negone := by
        rw [h2, ht]
        unfold M.tr at ht
        simp only [M.mul_def, negone]
        ext <;> simp only [] <;> grind
      rw [h3, M.mul_assoc, M.mul_assoc, ← M.mul_assoc x x x, h3]
      decide
theorem pwr_form {x : M} (hd : x.det = 1) (ht : 2 ≤ x.tr.natAbs) : ∀ k, ∃ u v : Int, pwr x k = ⟨u * x.a + v, u * x.b, u * x.c, u * x.d + v⟩ ∧ v.natAbs < u.natAbs
  | 0 => ⟨1, 0, by show x = _; ext <;> simp, by decide⟩
  | k + 1 => by
    obtain ⟨u, v, e, h⟩ := pwr_form hd ht k
    refine ⟨u * x.tr + v, -u, ?_, ?_⟩
    · show pwr x k * x = _
      rw [e]
      unfold M.det at hd
      simp only [M.mul_def, M.tr]
      ext <;> simp only [] <;> grind
    · have h1 : (u * x.tr).natAbs = u.natAbs * x.tr.natAbs := Int.natAbs_mul _ _
      have h2 : u.natAbs * 2 ≤ u.natAbs * x.tr.natAbs := Nat.mul_le_mul_left _ ht
      generalize u * x.tr = p at *
      generalize u.natAbs * x.tr.natAbs = q at *
      omega
theorem pwr_no {x : M} (hd : x.det = 1) (h : ¬ Fi x) (k : Nat) : pwr x k ≠ M.one := fun hk => by
  unfold Fi at h
  have ht : 2 ≤ x.tr.natAbs := by omega
  obtain ⟨u, v, e, hu⟩ := pwr_form hd ht k
  rw [e] at hk
  have ha := congrArg M.a hk
  have hb := congrArg M.b hk
  have hc := congrArg M.c hk
  have hdd := congrArg M.d hk
  simp only [M.one] at ha hb hc hdd
  have u0 : u ≠ 0 := by omega
  have hb0 : x.b = 0 := (Int.mul_eq_zero.mp hb).resolve_left u0
  have hc0 : x.c = 0 := (Int.mul_eq_zero.mp hc).resolve_left u0
  have had : x.a = x.d := by
    have : u * x.a = u * x.d := by omega
    exact Int.eq_of_mul_eq_mul_left u0 this
  unfold M.det at hd
  rw [hb0, Int.zero_mul, Int.sub_zero, ← had] at hd
  have h1 : x.a.natAbs * x.a.natAbs = 1 := by rw [← Int.natAbs_mul, hd]; rfl
  have h2 := Nat.eq_one_of_mul_eq_one_right h1
  apply h
  have : x.a = 1 ∨ x.a = -1 := by omega
  rcases this with h3 | h3
  · exact Or.inl (by ext <;> simp [M.one] <;> omega)
  · exact Or.inr (Or.inl (by ext <;> simp [negone] <;> omega))
theorem e_law_finite {x : M} (hd : x.det = 1) (bx : x.bd 700) : f__law_finite [x.D] = some (.sh (.bool (decide (Fi x)))) := by
  have r12 : rOk 12 := rOk_nat (n := 12) (by decide)
  have hl : (rangeD 0 1 12).length = 12 := rangeD_len _ _ _
  by_cases h : Fi x
  · obtain ⟨j, j6, hj⟩ := pwr_yes hd h
    have e := fin_yes bx (by decide) (rangeD 0 1 12) 0 j (by rw [hl]; decide) (by rw [hl]; omega) (by rw [← hj]; congr 1; omega)
    rw [show pwr x 0 = x from rfl] at e
    simp [f__law_finite, b__law_finite, r12, e, h]
  · have e := fin_no bx (by decide) (rangeD 0 1 12) 0 (by rw [hl]; decide) (pwr_no hd h)
    rw [show pwr x 0 = x from rfl] at e
    simp [f__law_finite, b__law_finite, r12, e, h]
/-! ### one standard alone fits -/
theorem c_sign {x g : M} (h : El x) (hg : g.det = 1) : 0 < x.c * (M.by_ g x).c := by
  obtain ⟨_, c0⟩ := h.ne
  obtain ⟨hd, h1, h2⟩ := h
  have key : 4 * (x.c * (M.by_ g x).c) = (2 * x.c * g.d + (x.a - x.d) * g.c) * (2 * x.c * g.d + (x.a - x.d) * g.c) + (4 - x.tr * x.tr) * (g.c * g.c) := by
    unfold M.det at hd
    simp only [M.by_, M.mul_def, M.inv, M.tr]
    grind
  have ht : x.tr * x.tr ≤ 1 := by
    have : x.tr = -1 ∨ x.tr = 0 ∨ x.tr = 1 := by omega
    rcases this with e | e | e <;> rw [e] <;> decide
  have s1 := sq_abs (2 * x.c * g.d + (x.a - x.d) * g.c)
  by_cases r0 : g.c = 0
  · unfold M.det at hg
    rw [r0] at key hg s1
    have s0 : g.d ≠ 0 := fun z => by rw [z] at hg; simp at hg
    have hne : 2 * x.c * g.d + (x.a - x.d) * 0 ≠ 0 := by
      rw [Int.mul_zero, Int.add_zero]
      exact Int.mul_ne_zero (Int.mul_ne_zero (by decide) c0) s0
    have : 0 < (2 * x.c * g.d + (x.a - x.d) * 0).natAbs := Int.natAbs_pos.mpr hne
    have := Nat.mul_pos this this
    simp only [Int.mul_zero, Int.add_zero] at *
    omega
  · have h3 : 0 < g.c * g.c := by
      have := sq_abs g.c
      have p : 0 < g.c.natAbs := by omega
      have := Nat.mul_pos p p
      omega
    have h4 : 0 < (4 - x.tr * x.tr) * (g.c * g.c) := Int.mul_pos (by omega) h3
    omega
theorem stds_cases : ∀ s ∈ stds, s.c = 0 ∨ (s.det = 1 ∧ -1 ≤ s.tr ∧ s.tr ≤ 1) := by decide
theorem stds_eq : ∀ s ∈ stds, ∀ r ∈ stds, s.tr = r.tr → (s.c = 0 ∨ 0 < s.c * r.c) → s = r := by decide
theorem stds_uniq {s r g : M} (hs : s ∈ stds) (hr : r ∈ stds) (hg : g.det = 1) (h : M.by_ g s = r) : s = r := by
  refine stds_eq s hs r hr (by rw [← h, M.by_tr hg]) ?_
  rcases stds_cases s hs with h0 | h0
  · exact Or.inl h0
  · exact Or.inr (by rw [← h]; exact c_sign ⟨h0.1, h0.2.1, h0.2.2⟩ hg)
end Lk76
set_option maxRecDepth 100000
set_option maxHeartbeats 1000000
namespace Lk76
open PySem L2 F3
/-! ### what shows a standard -/
def isStd : PyData → Bool
  | .tuple [.int a, .int b, .int c, .int e] => decide ((M.mk a b c e) ∈ stds)
  | _ => false
theorem isStd_M (m : M) : isStd m.D = decide (m ∈ stds) := rfl
theorem e_is_turn_M {n : Nat} {m : M} (h : m.bd n) (hn : n + n < 1000000) : f_is_turn [m.D] = some (.sh (.bool (decide (m.det = 1)))) ∧ f__law_is_turn [m.D] = some (.sh (.bool (decide (m.det = 1)))) := by
  have e : f_is_number_tuple [m.D, .int 4] = _ := e_is_number_tuple m.D 4
  have e' : f__law_is_tuple [m.D, .int 4] = _ := e_law_is_tuple m.D 4
  have ht : isTupN 4 m.D = true := by simp [isTupN, M.D, isNum]
  obtain ⟨h1, h2, h3, h4⟩ := h
  have m1 := mulOk_of h1 h4 hn
  have m2 := mulOk_of h2 h3 hn
  rw [ht] at e e'
  simp only [M.D] at e e'
  constructor
  · simp [f_is_turn, b_is_turn, e, M.D, m1, m2, M.det]
    by_cases hh : m.a * m.d - m.b * m.c = 1 <;> simp [hh]
  · simp [f__law_is_turn, b__law_is_turn, e', M.D, m1, m2, M.det]
    by_cases hh : m.a * m.d - m.b * m.c = 1 <;> simp [hh]
/-- two turns as papers -/
theorem e_pair {x s k : M} {n : Nat} (bx : x.bd 700) (bk : k.bd n) (hn : n ≤ 499000) (hs : s ∈ stds) (hk : k.det = 1) :
    f_shows_finite [x.D, s.D, k.D] = some (.sh (.bool (decide (k * x = s * k)))) ∧ f__law_right [x.D, s.D, k.D] = some (.sh (.bool (decide (k * x = s * k)))) := by
  have e : f_is_number_tuple [s.D, .int 4] = _ := e_is_number_tuple s.D 4
  have e' : f__law_is_tuple [s.D, .int 4] = _ := e_law_is_tuple s.D 4
  have ht : isTupN 4 s.D = true := by simp [isTupN, M.D, isNum]
  rw [ht] at e e'
  obtain ⟨t1, t2⟩ := e_is_turn_M bk (by omega)
  rw [decide_eq_true hk] at t1 t2
  have l1 := e_leads bx (stds_bd hs) bk (by omega) (by omega)
  have l2 := e_law_leads bx (stds_bd hs) bk (by omega) (by omega)
  have i1 := inR_tn s
  have i2 := inR_fn s
  rw [decide_eq_true hs] at i1 i2
  constructor
  · simp [f_shows_finite, b_shows_finite, stds_D, e, t1, l1, i1]
  · simp [f__law_right, b__law_right, law_stds, e', t2, l2, i2]
theorem gd_shaped {d : PyData} (h : Gd d) : SeqAt.shaped d = true := h.shaped
/-- any two papers -/
theorem e_any {x : M} (bx : x.bd 700) {s k : PyData} (gs : Gd s) (gk : Gd k) : ∃ b, f_shows_finite [x.D, s, k] = some (.sh (.bool b)) ∧ f__law_right [x.D, s, k] = some (.sh (.bool b)) := by
  have e : f_is_number_tuple [s, .int 4] = _ := e_is_number_tuple s 4
  have e' : f__law_is_tuple [s, .int 4] = _ := e_law_is_tuple s 4
  cases ht : isTupN 4 s with
  | false =>
    rw [ht] at e e'
    exact ⟨false, by simp [f_shows_finite, b_shows_finite, e], by simp [f__law_right, b__law_right, e']⟩
  | true =>
    obtain ⟨m, rfl⟩ := tup4 ht
    rw [ht] at e e'
    have i1 := inR_tn m
    have i2 := inR_fn m
    have t1 := e_is_turn gk
    have t2 := e_law_is_turn gk
    cases hk : isTurn k with
    | false =>
      rw [hk] at t1 t2
      refine ⟨false, ?_, by simp [f__law_right, b__law_right, e', t2]⟩
      by_cases hm : m ∈ stds
      · rw [decide_eq_true hm] at i1
        simp [f_shows_finite, b_shows_finite, stds_D, e, i1, t1]
      · rw [decide_eq_false hm] at i1
        simp [f_shows_finite, b_shows_finite, stds_D, e, i1]
    | true =>
      rw [hk] at t1 t2
      by_cases hm : m ∈ stds
      · obtain ⟨q, rfl, hq⟩ := isTurn_yes hk
        obtain ⟨r1, r2⟩ := e_pair bx (gd_M gk) (by decide) hm hq
        exact ⟨_, r1, r2⟩
      · rw [decide_eq_false hm] at i1 i2
        exact ⟨false, by simp [f_shows_finite, b_shows_finite, stds_D, e, i1], by simp [f__law_right, b__law_right, law_stds, e', t2, i2]⟩
/-! ### sameness of turns -/
theorem e_same_int (n : Nat) (a b : Int) : f__law_same (n + 1) [.int a, .int b] = some (.sh (.bool (a == b))) := by
  have h := e_law_is_number (.int a)
  simp [f__law_same, h, isNum]
theorem e_same_M (m : M) : f__law_same 24 [m.D, m.D] = some (.sh (.bool true)) := by
  have h : ∀ a : Int, f__law_same 23 [.int a, .int a] = some (.sh (.bool true)) := fun a => by rw [e_same_int]; simp
  have r : rOk 4 := rOk_nat (n := 4) (by decide)
  have e4 : rangeD 0 1 4 = [.int 0, .int 1, .int 2, .int 3] := rfl
  rw [f__law_same]
  simp [M.D, r, e4, forD, h]
/-! ### the answer told -/
theorem e_told_no {x : M} (hd : x.det = 1) (bx : x.bd 599) (h : ¬ Fi x) (due : PyData) : f__law_told [x.D, due] = some (.sh (.bool true)) := by
  have e := e_finite_no h
  have f := e_law_finite hd (bx.mono (by decide))
  rw [decide_eq_false h] at f
  simp [f__law_told, b__law_told, sTry, isFree, e, f]
theorem e_told {x : M} (hd : x.det = 1) (bx : x.bd 599) : f__law_told [x.D, .none] = some (.sh (.bool true)) := by
  by_cases h : Fi x
  · obtain ⟨s, k, e, hs, hk, hl, bk⟩ := e_finite hd bx h
    have f := e_law_finite hd (bx.mono (by decide))
    rw [decide_eq_true h] at f
    obtain ⟨r1, r2⟩ := e_pair (bx.mono (by decide)) bk (by decide) hs hk
    have hlead : k * x = s * k := by rw [← hl]; exact M.by_lead hk
    rw [decide_eq_true hlead] at r1 r2
    simp [f__law_told, b__law_told, sTry, isFree, e, f, r1, r2]
  · exact e_told_no hd bx h _
theorem e_told_due {x s0 g : M} (hg : g.det = 1) (hs0 : s0 ∈ stds) (hx : M.by_ g s0 = x) (bx : x.bd 599) : f__law_told [x.D, s0.D] = some (.sh (.bool true)) := by
  have hd : x.det = 1 := by rw [← hx, M.by_det hg]; exact stds_det s0 hs0
  by_cases h : Fi x
  · obtain ⟨s, k, e, hs, hk, hl, bk⟩ := e_finite hd bx h
    have f := e_law_finite hd (bx.mono (by decide))
    rw [decide_eq_true h] at f
    obtain ⟨r1, r2⟩ := e_pair (bx.mono (by decide)) bk (by decide) hs hk
    have hlead : k * x = s * k := by rw [← hl]; exact M.by_lead hk
    rw [decide_eq_true hlead] at r1 r2
    have hu : s0 = s := stds_uniq (g := k * g) hs0 hs (by rw [M.det_mul, hk, hg]; rfl) (by rw [by_mul, hx, hl])
    subst hu
    have sm := e_same_M s0
    have nn : (Res.sh s0.D).isNone = false := rfl
    simp [f__law_told, b__law_told, sTry, isFree, e, f, r1, r2, sm, nn]
  · exact e_told_no hd bx h _
end Lk76
set_option maxRecDepth 100000
set_option maxHeartbeats 1000000
namespace Lk76
open PySem L2 F3
/-- a pair of papers of seemly size -/
def Pr (p : PyData) : Prop := ∃ a b, p = .tuple [a, b] ∧ Gd p
theorem gd_list {a b : PyData} (h : Gd (.tuple [a, b])) : Gd (.list [a, b]) :=
  ⟨by have := h.ok; simpa using this, by have := h.few; simpa using this, by have := h.deep; simpa using this⟩
/-- a loop that changes nothing -/
theorem for_still {g : PyData → Rh → Option Rh} {b : Rh → Option Out} {ρ : Rh} : ∀ ds : List PyData, (∀ d ∈ ds, (g d ρ).bind b = some (.nx ρ)) → forD g b ds ρ = some (.nx ρ)
  | [], _ => rfl
  | d :: ds, h => by
    obtain ⟨ρ1, e1, e2⟩ := bind_some (h d List.mem_cons_self)
    rw [forD, e1, Option.bind_some, e2, Option.bind_some]
    exact for_still ds fun e he => h e (List.mem_cons_of_mem _ he)
theorem shrs_frs (a b : PyData) : shrs [frs a, frs b] = some [a, b] := by
  cases a <;> cases b <;> rfl
theorem jd_main {x : M} (bx : x.bd 700) (q1 q2 q3 q4 q5 q7 q8 q9 q10 : Option Res) (ps : List PyData) (h : Al Pr ps) :
    forD (gTp (gsC (gNm 12) (gsC (gNm 6) gsN))) l__law_judged_5 ps [some (.sh x.D), q1, q2, q3, q4, q5, none, q7, q8, q9, q10, none, none, none, none, none] = some (.nx [some (.sh x.D), q1, q2, q3, q4, q5, none, q7, q8, q9, q10, none, none, none, none, none]) := by
  refine for_still ps fun p hp => ?_
  obtain ⟨a, b, rfl, g⟩ := h p hp
  have ga := g.itemT (d := a) (by simp)
  have gb := g.itemT (d := b) (by simp)
  have f1 := e_fresh 24 a ga (by have := ga.deep; omega)
  have f2 := e_fresh 24 b gb (by have := gb.deep; omega)
  obtain ⟨v, o1, o2⟩ := e_any bx ga gb
  have sm : f__law_same 24 [.bool v, .bool v] = _ := e_same_bool 23 v v
  have rb : reprR (.bo [a, b]) = some (.sh (.str (PyData.list [a, b]).shown)) := (gd_list g).repr
  have rf : reprR (.fr [a, b]) = some (.sh (.str (PyData.list [a, b]).shown)) := (gd_list g).repr
  simp [l__law_judged_5, f1, f2, shrs_frs, o1, o2, sm, rb, rf, Res.dat, frz1]
end Lk76
set_option maxRecDepth 100000
set_option maxHeartbeats 1000000
namespace Lk76
open PySem L2 F3
theorem pr_of {w v k : Nat} {a b : PyData} (ha : Sd w k a) (hb : Sd v k b) (hw : w + v + 1 ≤ 500) (hk : k + 1 ≤ 20) : Pr (.tuple [a, b]) :=
  ⟨a, b, rfl, (Ro.cons ha (Ro.cons hb Ro.nil (v := 0))).tup.gd (by omega) hk⟩
theorem pr_M {a b : M} (ha : a.bd IB) (hb : b.bd IB) : Pr (.tuple [a.D, b.D]) := pr_of (sd_M ha (Nat.le_refl _)) (sd_M hb (Nat.le_refl _)) (by decide) (by decide)
theorem stds_IB {s : M} (h : s ∈ stds) : s.bd IB := (stds_bd h).mono (by decide)
theorem one_IB : M.one.bd IB := one_bd.mono (by decide)
theorem jd1 (q0 q1 q3 : Option Res) {k n : M} (bk : k.bd IB) (bn : n.bd IB) (ms : List M) (hm : ∀ m ∈ ms, m.bd IB) (hl : ms.length ≤ 20) (ps : List PyData) (hp : Al Pr ps) (hpl : ps.length ≤ 50) :
    ∃ ps', forD (gNm 6) l__law_judged_1 (ms.map M.D) [q0, q1, some (.sh k.D), q3, some (.sh n.D), some (.bo ps), none, none, none, none, none, none, none, none, none, none] = some (.nx [q0, q1, some (.sh k.D), q3, some (.sh n.D), some (.bo ps'), none, none, none, none, none, none, none, none, none, none]) ∧ Al Pr ps' ∧ ps'.length = ps.length + 3 * ms.length := by
  obtain ⟨ρ', e, ps', rfl, h1, h2⟩ := for_inv (g := gNm 6) (b := l__law_judged_1) (fun j ρ => ∃ ps', ρ = [q0, q1, some (.sh k.D), q3, some (.sh n.D), some (.bo ps'), none, none, none, none, none, none, none, none, none, none] ∧ Al Pr ps' ∧ ps'.length = ps.length + 3 * j) (ms.map M.D) 0 [q0, q1, some (.sh k.D), q3, some (.sh n.D), some (.bo ps), none, none, none, none, none, none, none, none, none, none]
    (fun j d ρ hj hI => by
      obtain ⟨ps', rfl, i1, i2⟩ := hI
      obtain ⟨m, hmem, rfl⟩ := List.mem_map.mp (List.mem_of_getElem? hj)
      have hjl := (List.getElem?_eq_some_iff.mp hj).1
      rw [List.length_map] at hjl
      have bm := hm m hmem
      have c2 : ps'.length + 3 ≤ 1000000 := by omega
      refine ⟨_, ?_, ps' ++ [.tuple [m.D, k.D], .tuple [m.D, n.D], .tuple [m.D, M.one.D]], rfl, i1.app (Al.cons (pr_M bm bk) (Al.cons (pr_M bm bn) (Al.cons (pr_M bm one_IB) Al.nil))), by rw [List.length_append]; simp; omega⟩
      have o : (M.one.D : PyData) = .tuple [.int 1, .int 0, .int 0, .int 1] := rfl
      simp [l__law_judged_1, c2, o]) ⟨ps, rfl, hp, rfl⟩
  rw [List.length_map] at h2
  exact ⟨ps', e, h1, by omega⟩
theorem jd2 (q0 q2 q3 q4 q7 q8 q9 q10 : Option Res) {s : PyData} (bs : Sd 5 1 s) (items : List PyData) (hi : Al (Sd 400 3) items) (hl : items.length ≤ 20) (ps : List PyData) (hp : Al Pr ps) (hpl : ps.length ≤ 100) :
    ∃ ps', forD (gNm 11) l__law_judged_2 items [q0, some (.sh s), q2, q3, q4, some (.bo ps), none, q7, q8, q9, q10, none, none, none, none, none] = some (.nx [q0, some (.sh s), q2, q3, q4, some (.bo ps'), none, q7, q8, q9, q10, none, none, none, none, none]) ∧ Al Pr ps' ∧ ps'.length = ps.length + items.length := by
  obtain ⟨ρ', e, ps', rfl, h1, h2⟩ := for_inv (g := gNm 11) (b := l__law_judged_2) (fun j ρ => ∃ ps', ρ = [q0, some (.sh s), q2, q3, q4, some (.bo ps'), none, q7, q8, q9, q10, none, none, none, none, none] ∧ Al Pr ps' ∧ ps'.length = ps.length + j) items 0 [q0, some (.sh s), q2, q3, q4, some (.bo ps), none, q7, q8, q9, q10, none, none, none, none, none]
    (fun j d ρ hj hI => by
      obtain ⟨ps', rfl, i1, i2⟩ := hI
      have hd := hi d (List.mem_of_getElem? hj)
      have hjl := (List.getElem?_eq_some_iff.mp hj).1
      have c1 : ps'.length < 1000000 := by omega
      refine ⟨_, ?_, ps' ++ [.tuple [s, d]], rfl, i1.app (Al.cons (pr_of (bs.mono (Nat.le_refl _) (show 1 ≤ 3 by decide)) hd (by decide) (by decide)) Al.nil), by rw [List.length_append]; simp; omega⟩
      simp [l__law_judged_2, sApp_run, c1]) ⟨ps, rfl, hp, rfl⟩
  exact ⟨ps', e, h1, by omega⟩
theorem jd3 (q0 q4 q7 q8 q9 q10 : Option Res) {s : PyData} (bs : Sd 5 1 s) {hs : List PyData} (hh : Ro 4 0 hs) (hl4 : hs.length = 4) (k : Nat) (items : List PyData) (hi : Al (Sd 400 3) items) (hl : items.length ≤ 20) (ps : List PyData) (hp : Al Pr ps) (hpl : ps.length ≤ 100) :
    ∃ ps', forD (gNm 11) l__law_judged_3 items [q0, some (.sh s), some (.sh (.tuple hs)), some (.sh (.int k)), q4, some (.bo ps), none, q7, q8, q9, q10, none, none, none, none, none] = some (.nx [q0, some (.sh s), some (.sh (.tuple hs)), some (.sh (.int k)), q4, some (.bo ps'), none, q7, q8, q9, q10, none, none, none, none, none]) ∧ Al Pr ps' ∧ ps'.length = ps.length + items.length := by
  have hto : cutD hs none (some (k : Int)) = hs.take k := cut_to _ k
  have hfr : cutD hs (some ((k : Int) + 1)) none = hs.drop (k + 1) := cut_from _ (k + 1)
  obtain ⟨ρ', e, ps', rfl, h1, h2⟩ := for_inv (g := gNm 11) (b := l__law_judged_3) (fun j ρ => ∃ ps', ρ = [q0, some (.sh s), some (.sh (.tuple hs)), some (.sh (.int k)), q4, some (.bo ps'), none, q7, q8, q9, q10, none, none, none, none, none] ∧ Al Pr ps' ∧ ps'.length = ps.length + j) items 0 [q0, some (.sh s), some (.sh (.tuple hs)), some (.sh (.int k)), q4, some (.bo ps), none, q7, q8, q9, q10, none, none, none, none, none]
    (fun j d ρ hj hI => by
      obtain ⟨ps', rfl, i1, i2⟩ := hI
      have hd := hi d (List.mem_of_getElem? hj)
      have hjl := (List.getElem?_eq_some_iff.mp hj).1
      have c1 : ps'.length < 1000000 := by omega
      have c2 : min k 4 + 1 ≤ 1000000 := by omega
      have c3 : min k 4 + 1 + (3 - k) ≤ 1000000 := by omega
      have r1 : Ro (4 + (400 + 0) + 4) 3 (hs.take k ++ [d] ++ hs.drop (k + 1)) := Ro.app (Ro.app ((hh.take k).mono (Nat.le_refl _) (by decide)) (Ro.cons hd Ro.nil)) ((hh.drop (k + 1)).mono (Nat.le_refl _) (by decide))
      refine ⟨_, ?_, ps' ++ [.tuple [s, .tuple (hs.take k ++ [d] ++ hs.drop (k + 1))]], rfl, i1.app (Al.cons (pr_of (bs.mono (Nat.le_refl _) (show 1 ≤ 4 by decide)) r1.tup (by decide) (by decide)) Al.nil), by rw [List.length_append]; simp; omega⟩
      simp [l__law_judged_3, sApp_run, hto, hfr, c1, c2, c3, hl4]) ⟨ps, rfl, hp, rfl⟩
  exact ⟨ps', e, h1, by omega⟩
theorem jd4 (q0 q4 q7 q8 q9 q10 : Option Res) {s : PyData} (bs : Sd 5 1 s) {hs : List PyData} (hh : Ro 4 0 hs) (hl4 : hs.length = 4) (k : Nat) (items : List PyData) (hi : Al (Sd 400 3) items) (hl : items.length ≤ 20) (ps : List PyData) (hp : Al Pr ps) (hpl : ps.length ≤ 100) :
    ∃ ps', forD (gNm 11) l__law_judged_4 items [q0, some (.sh (.tuple hs)), some (.sh s), some (.sh (.int k)), q4, some (.bo ps), none, q7, q8, q9, q10, none, none, none, none, none] = some (.nx [q0, some (.sh (.tuple hs)), some (.sh s), some (.sh (.int k)), q4, some (.bo ps'), none, q7, q8, q9, q10, none, none, none, none, none]) ∧ Al Pr ps' ∧ ps'.length = ps.length + items.length := by
  have hto : cutD hs none (some (k : Int)) = hs.take k := cut_to _ k
  have hfr : cutD hs (some ((k : Int) + 1)) none = hs.drop (k + 1) := cut_from _ (k + 1)
  obtain ⟨ρ', e, ps', rfl, h1, h2⟩ := for_inv (g := gNm 11) (b := l__law_judged_4) (fun j ρ => ∃ ps', ρ = [q0, some (.sh (.tuple hs)), some (.sh s), some (.sh (.int k)), q4, some (.bo ps'), none, q7, q8, q9, q10, none, none, none, none, none] ∧ Al Pr ps' ∧ ps'.length = ps.length + j) items 0 [q0, some (.sh (.tuple hs)), some (.sh s), some (.sh (.int k)), q4, some (.bo ps), none, q7, q8, q9, q10, none, none, none, none, none]
    (fun j d ρ hj hI => by
      obtain ⟨ps', rfl, i1, i2⟩ := hI
      have hd := hi d (List.mem_of_getElem? hj)
      have hjl := (List.getElem?_eq_some_iff.mp hj).1
      have c1 : ps'.length < 1000000 := by omega
      have c2 : min k 4 + 1 ≤ 1000000 := by omega
      have c3 : min k 4 + 1 + (3 - k) ≤ 1000000 := by omega
      have r1 : Ro (4 + (400 + 0) + 4) 3 (hs.take k ++ [d] ++ hs.drop (k + 1)) := Ro.app (Ro.app ((hh.take k).mono (Nat.le_refl _) (by decide)) (Ro.cons hd Ro.nil)) ((hh.drop (k + 1)).mono (Nat.le_refl _) (by decide))
      refine ⟨_, ?_, ps' ++ [.tuple [.tuple (hs.take k ++ [d] ++ hs.drop (k + 1)), s]], rfl, i1.app (Al.cons (pr_of r1.tup (bs.mono (Nat.le_refl _) (show 1 ≤ 4 by decide)) (by decide) (by decide)) Al.nil), by rw [List.length_append]; simp; omega⟩
      simp [l__law_judged_4, sApp_run, hto, hfr, c1, c2, c3, hl4]) ⟨ps, rfl, hp, rfl⟩
  exact ⟨ps', e, h1, by omega⟩
end Lk76
set_option maxRecDepth 100000
set_option maxHeartbeats 2000000
namespace Lk76
open PySem L2 F3
theorem text_ok {t : Int} (bt : Bd 300 t) : ∃ txt : Str, txt = Str.ofString t.repr ∧ PyData.strOk txt = true ∧ txt.length ≤ 302 := by
  refine ⟨Str.ofString (toString t), rfl, strOk_of _, text_len bt⟩
theorem e_judged {x s k : M} (bx : x.bd 599) (hs : s ∈ stds) (bk : k.bd 200) {at_ : Nat} (hat : at_ < 4) : f__law_judged [x.D, s.D, k.D, .int at_] = some (.sh (.bool true)) := by
  have bs := stds_bd hs
  have e1 := e_law_times bk bx (by decide)
  have e2 := e_law_times bs bk (by decide)
  have hP := (bk.mul bx).mono (show 200 + 599 + 1 ≤ IB by decide)
  have hR := (bs.mul bk).mono (show 1 + 200 + 1 ≤ IB by decide)
  generalize k * x = P at *
  generalize s * k = R at *
  obtain ⟨t, bt, ht⟩ := hs_at k bk hat
  obtain ⟨u, bu, hu⟩ := hs_at s bs hat
  have hroK := ro_M bk (by decide)
  have hroS := ro_M bs (by decide)
  have sdK := sd_M bk (by decide)
  have sdS := sd_M bs (by decide)
  have m1 : mulOk 2 k.a := mulOk_of (show Bd 3 2 by decide) bk.1 (by decide)
  have m2 : mulOk 2 k.b := mulOk_of (show Bd 3 2 by decide) bk.2.1 (by decide)
  have m3 : mulOk 2 k.c := mulOk_of (show Bd 3 2 by decide) bk.2.2.1 (by decide)
  have m4 : mulOk 2 k.d := mulOk_of (show Bd 3 2 by decide) bk.2.2.2 (by decide)
  have u1 := ((show Bd 3 2 by decide).mul bk.1).mono (show 3 + 200 ≤ IB by decide)
  have u2 := ((show Bd 3 2 by decide).mul bk.2.1).mono (show 3 + 200 ≤ IB by decide)
  have u3 := ((show Bd 3 2 by decide).mul bk.2.2.1).mono (show 3 + 200 ≤ IB by decide)
  have u4 := ((show Bd 3 2 by decide).mul bk.2.2.2).mono (show 3 + 200 ≤ IB by decide)
  have bkI := bk.mono (show 200 ≤ IB by decide)
  have bsI := bs.mono (show 1 ≤ IB by decide)
  have bxI := bx.mono (show 599 ≤ IB by decide)
  have bmI : (M.mk (-k.a) (-k.b) (-k.c) (-k.d)).bd IB := ⟨bkI.1.neg, bkI.2.1.neg, bkI.2.2.1.neg, bkI.2.2.2.neg⟩
  obtain ⟨b1, b2, b3, b4⟩ := bkI
  obtain ⟨c1, c2, c3, c4⟩ := bsI
  obtain ⟨x1, x2, x3, x4⟩ := bxI
  have n1 := b1.neg
  have n2 := b2.neg
  have n3 := b3.neg
  have n4 := b4.neg
  have z0 : Bd IB 0 := (show Bd 3 0 by decide).mono (by decide)
  have z1 : Bd IB 1 := (show Bd 3 1 by decide).mono (by decide)
  have z2 : Bd IB 2 := (show Bd 3 2 by decide).mono (by decide)
  have zm : Bd IB (-1) := (show Bd 3 (-1) by decide).mono (by decide)
  have hlogt : t.natAbs.log2 < 1920 := Nat.lt_of_le_of_lt bt.log' (by decide)
  have hlogu : u.natAbs.log2 < 1920 := Nat.lt_of_le_of_lt bu.log' (by decide)
  obtain ⟨tx, htx, okt, lent⟩ := text_ok (bt.mono (show 200 ≤ 300 by decide))
  obtain ⟨ux, hux, oku, lenu⟩ := text_ok (bu.mono (show 1 ≤ 300 by decide))
  -- the first four
  obtain ⟨n, hn⟩ : ∃ n : M, n = ⟨-k.a, -k.b, -k.c, -k.d⟩ := ⟨_, rfl⟩
  rw [← hn] at bmI
  have g0 : Al Pr [.tuple [s.D, k.D], .tuple [s.D, n.D], .tuple [s.D, P.D], .tuple [s.D, R.D]] :=
    Al.cons (pr_M ⟨c1, c2, c3, c4⟩ ⟨b1, b2, b3, b4⟩) (Al.cons (pr_M ⟨c1, c2, c3, c4⟩ bmI) (Al.cons (pr_M ⟨c1, c2, c3, c4⟩ hP) (Al.cons (pr_M ⟨c1, c2, c3, c4⟩ hR) Al.nil)))
  obtain ⟨ps1, f1, g1, l1⟩ := jd1 (some (.sh x.D)) (some (.sh s.D)) (some (.sh (.int at_))) (k := k) (n := n) ⟨b1, b2, b3, b4⟩ bmI stds (fun m hm => stds_IB hm) (by decide) _ g0 (by simp)
  -- the second loop
  obtain ⟨items2, hi2⟩ : ∃ is : List PyData, is = [.list [.int k.a, .int k.b, .int k.c, .int k.d], .tuple [.int k.a, .int k.b, .int k.c], .tuple [.int k.a, .int k.b, .int k.c, .int k.d, .int 0], .tuple [.int (2 * k.a), .int (2 * k.b), .int (2 * k.c), .int (2 * k.d)], .tuple [.int 0, .int 0, .int 0, .int 0], .tuple [.int k.a, .int k.b, .int (-k.c), .int (-k.d)], .tuple [.int k.d, .int (-k.b), .int (-k.c), .int k.a], .none, .bool true, .str "", .tuple [k.D]] := ⟨_, rfl⟩
  have s0 : PyData.strOk "" = true := strOk_of _
  have l0 : ("" : Str).length = 0 := rfl
  have gi2 : Al (Sd 400 3) items2 := by
    rw [hi2]
    repeat' (first | exact Al.nil | refine Al.cons ?_ ?_)
    all_goals refine ⟨?_, ?_, ?_⟩
    all_goals simp [M.D, s0, l0, b1, b2, b3, b4, n1, n2, n3, n4, z0, u1, u2, u3, u4]
  have len1 : ps1.length = 28 := by rw [l1]; rfl
  obtain ⟨ps2, f2, g2, l2⟩ := jd2 (some (.sh x.D)) (some (.sh k.D)) (some (.sh (.int at_))) (some (.sh n.D)) (some (.sh (.int k.a))) (some (.sh (.int k.b))) (some (.sh (.int k.c))) (some (.sh (.int k.d))) sdS items2 gi2 (by rw [hi2]; simp) ps1 g1 (by omega)
  have len2 : ps2.length = 39 := by rw [l2, len1, hi2]; rfl
  -- the third loop
  obtain ⟨items3, hi3⟩ : ∃ is : List PyData, is = [.int (t + 1), .int (t - 1), .int (-t), .bool true, .bool false, .none, .str tx, .list [.int t]] := ⟨_, rfl⟩
  have gi3 : Al (Sd 400 3) items3 := by
    have t1 := (bt.add (show Bd 200 1 by decide)).mono (show 201 ≤ IB by decide)
    have t2 := (bt.sub (show Bd 200 1 by decide)).mono (show 201 ≤ IB by decide)
    have t3 := bt.neg.mono (show 200 ≤ IB by decide)
    have t4 := bt.mono (show 200 ≤ IB by decide)
    have lent' : tx.length ≤ 600 := by omega
    have lent2 : 1 + tx.length ≤ 400 := by omega
    rw [hi3]
    repeat' (first | exact Al.nil | refine Al.cons ?_ ?_)
    all_goals refine ⟨?_, ?_, ?_⟩
    all_goals simp [t1, t2, t3, t4, okt, lent', lent2]
  obtain ⟨ps3, f3, g3, l3⟩ := jd3 (some (.sh x.D)) (some (.sh n.D)) (some (.sh (.int k.a))) (some (.sh (.int k.b))) (some (.sh (.int k.c))) (some (.sh (.int k.d))) sdS hroK rfl at_ items3 gi3 (by rw [hi3]; simp) ps2 g2 (by omega)
  have len3 : ps3.length = 47 := by rw [l3, len2, hi3]; rfl
  -- the fourth loop
  obtain ⟨items4, hi4⟩ : ∃ is : List PyData, is = [.int (u + 1), .bool true, .bool false, .none, .str ux, .tuple [.int 0]] := ⟨_, rfl⟩
  have gi4 : Al (Sd 400 3) items4 := by
    have t1 := (bu.add (show Bd 1 1 by decide)).mono (show 2 ≤ IB by decide)
    have lent' : ux.length ≤ 600 := by omega
    have lent2 : 1 + ux.length ≤ 400 := by omega
    rw [hi4]
    repeat' (first | exact Al.nil | refine Al.cons ?_ ?_)
    all_goals refine ⟨?_, ?_, ?_⟩
    all_goals simp [t1, oku, lent', lent2, z0]
  obtain ⟨ps4, f4, g4, l4⟩ := jd4 (some (.sh x.D)) (some (.sh n.D)) (some (.sh (.int k.a))) (some (.sh (.int k.b))) (some (.sh (.int k.c))) (some (.sh (.int k.d))) sdK hroS rfl at_ items4 gi4 (by rw [hi4]; simp) ps3 g3 (by omega)
  have len4 : ps4.length = 53 := by rw [l4, len3, hi4]; rfl
  -- the last ones
  obtain ⟨qs, hqs⟩ : ∃ qs : List PyData, qs = [.tuple [.list [.int s.a, .int s.b, .int s.c, .int s.d], k.D], .tuple [.tuple [.int s.a, .int s.b, .int s.c], k.D], .tuple [.none, k.D], .tuple [x.D, M.one.D], .tuple [x.D, k.D], .tuple [k.D, s.D], .tuple [.tuple [], k.D], .tuple [.int 1, k.D]] := ⟨_, rfl⟩
  obtain ⟨rs, hrs⟩ : ∃ rs : List PyData, rs = [.tuple [.tuple [.bool true, .int 0, .int 0, .bool true], k.D], .tuple [.tuple [.int 1, .int 0, .bool false, .int 1], k.D], .tuple [.tuple [.bool false, .int (-1), .int 1, .int 0], k.D], .tuple [.str "turn", k.D], .tuple [.tuple [.int 2, .int 1, .int 1, .int 1], k.D]] := ⟨_, rfl⟩
  have s4 : PyData.strOk "turn" = true := strOk_of _
  have l5 : ("turn" : Str).length = 4 := rfl
  have gq : Al Pr qs := by
    rw [hqs]
    repeat' (first | exact Al.nil | refine Al.cons ?_ ?_)
    all_goals refine ⟨_, _, rfl, ⟨?_, ?_, ?_⟩⟩
    all_goals simp [M.D, M.one, b1, b2, b3, b4, c1, c2, c3, c4, x1, x2, x3, x4, z0, z1]
  have gr : Al Pr rs := by
    rw [hrs]
    repeat' (first | exact Al.nil | refine Al.cons ?_ ?_)
    all_goals refine ⟨_, _, rfl, ⟨?_, ?_, ?_⟩⟩
    all_goals simp [M.D, b1, b2, b3, b4, z0, z1, z2, zm, s4, l5]
  have fm := jd_main (bx.mono (show 599 ≤ 700 by decide)) (some (.sh s.D)) (some (.sh k.D)) (some (.sh (.int at_))) (some (.sh n.D)) (some (.sh (.list (ps4 ++ qs ++ rs)))) (some (.sh (.int k.a))) (some (.sh (.int k.b))) (some (.sh (.int k.c))) (some (.sh (.int k.d))) (ps4 ++ qs ++ rs) ((g4.app gq).app gr)
  rw [hqs, hrs] at fm
  rw [hi2] at f2
  rw [hi3, htx] at f3
  rw [hi4, hux] at f4
  rw [hn] at *
  simp only [M.D, M.one] at e1 e2 f1 f2 f3 f4 fm ⊢
  simp only [List.append_assoc, List.cons_append, List.nil_append] at fm
  simp [f__law_judged, b__law_judged, lcD, wipeD, e1, e2, law_stds, f1, f2, f3, f4, fm, ht, hu, hlogt, hlogu, m1, m2, m3, m4, len1, len2, len3, len4, frz1]
end Lk76
set_option maxRecDepth 100000
set_option maxHeartbeats 1000000
namespace Lk76
open PySem L2 F3
theorem lc_rng {elt : Rh → Option Res} {i : Nat} {ρ : Rh} (c : Nat → Int) (n : Nat) (h : ∀ k, k < n → elt (ρ.set i (some (.sh (.int (k : Int))))) = some (.sh (.int (c k)))) : lcD (gNm i) tYesD elt ρ (rangeD 0 1 n) = some (((List.range n).map c).map .int) := by
  have : ∀ (m k : Nat), k + m = n → lcD (gNm i) tYesD elt ρ ((List.range' k m).map fun (j : Nat) => PyData.int (0 + (j : Int) * 1)) = some (((List.range' k m).map c).map .int) := by
    intro m
    induction m with
    | zero => intro k hk; simp [lcD]
    | succ m ih =>
      intro k hk
      have e := h k (by omega)
      have e2 := ih (k + 1) (by omega)
      rw [List.range'_succ, List.map_cons, List.map_cons, List.map_cons, lcD]
      rw [show (0 + (k : Int) * 1) = (k : Int) by omega]
      simp only [gNm, Option.bind_some, tYesD, if_true, e, shr_s, e2]
  have := this n 0 (by omega)
  unfold rangeD
  rw [List.range_eq_range']
  exact this
theorem e_even {ds : List Int} (hl : ds.length = 24) (n : Nat) (hn : n ≤ 6) {mo : Int} (m0 : 0 < mo) (m1 : mo ≤ 1000) : ∃ m : M, f__law_even [.list (ds.map .int), .int 2, .int n, .int mo] = some (.sh m.D) ∧ m.det = 1 ∧ m.bd 67 := by
  have rn : rOk (n : Int) := rOk_nat (by omega)
  have bmo : Bd 10 mo := bd_of (by omega) (by omega)
  have m23 : mulOk 2 mo := mulOk_of (show Bd 3 2 by decide) bmo (by decide)
  obtain ⟨w, hw⟩ : ∃ w : Int, w = 2 * mo + 1 := ⟨_, rfl⟩
  have dv : 0 < w := by omega
  obtain ⟨ρ', e, m, rfl, h1, h2⟩ := for_inv (g := gNm 8) (b := l__law_even_1) (fun k ρ => ∃ m : M, ρ = [some (.sh (.list (ds.map .int))), some (.sh (.int 2)), some (.sh (.int n)), some (.sh (.int mo)), some (.sh (.int m.a)), some (.sh (.int m.b)), some (.sh (.int m.c)), some (.sh (.int m.d)), none, none] ∧ m.det = 1 ∧ m.bd (1 + 11 * k)) (rangeD 0 1 n) 0
    [some (.sh (.list (ds.map .int))), some (.sh (.int 2)), some (.sh (.int n)), some (.sh (.int mo)), some (.sh (.int 1)), some (.sh (.int 0)), some (.sh (.int 0)), some (.sh (.int 1)), none, none] (fun k d ρ hk hI => by
      obtain ⟨hkn, rfl⟩ := rng_get hk
      obtain ⟨m, rfl, i1, i2, i3, i4, i5⟩ := hI
      have e := ints_at ds (k := 2 + k) (by omega)
      have e2 : atI (ds.map PyData.int) (2 + (k : Int)) = some (.int (a0 ds (2 + k))) := by
        rw [show (2 + (k : Int)) = ((2 + k : Nat) : Int) by omega, atI_nat', e]
      obtain ⟨t, ht⟩ : ∃ t : Int, t = a0 ds (2 + k) % w - mo := ⟨_, rfl⟩
      have t0 := Int.emod_nonneg (a0 ds (2 + k)) (show w ≠ 0 by omega)
      have t1 := Int.emod_lt_of_pos (a0 ds (2 + k)) (show 0 < w by omega)
      have bt : Bd 10 t := bd_of (by omega) (by omega)
      clear t0 t1
      have n1 := mulOk_of bt i2 (by omega)
      have n2 := mulOk_of bt i3 (by omega)
      have n3 := mulOk_of bt i4 (by omega)
      have n4 := mulOk_of bt i5 (by omega)
      have st : ∀ {p q : Int}, Bd (1 + 11 * (0 + k)) p → Bd (1 + 11 * (0 + k)) q → Bd (1 + 11 * (0 + k + 1)) (p + t * q) := fun hp hq => ((hp.mono (show 1 + 11 * (0 + k) ≤ 10 + (1 + 11 * (0 + k)) by omega)).add (bt.mul hq)).mono (by omega)
      by_cases hp : k % 2 = 0
      · refine ⟨_, ?_, ⟨m.a + t * m.c, m.b + t * m.d, m.c, m.d⟩, rfl, ?_, st i2 i4, st i3 i5, i4.mono (by omega), i5.mono (by omega)⟩
        · simp [l__law_even_1, mod2, hp, e2, m23, ← hw, dv, ← ht, n1, n2, n3, n4]
        · unfold M.det at i1 ⊢
          simp only [Int.add_mul, Int.mul_assoc, Int.mul_comm m.d m.c]
          omega
      · refine ⟨_, ?_, ⟨m.a, m.b, m.c + t * m.a, m.d + t * m.b⟩, rfl, ?_, i2.mono (by omega), i3.mono (by omega), st i4 i2, st i5 i3⟩
        · simp [l__law_even_1, mod2, hp, e2, m23, ← hw, dv, ← ht, n1, n2, n3, n4]
        · unfold M.det at i1 ⊢
          simp only [Int.mul_add]
          have c1 : m.a * (t * m.b) = m.b * (t * m.a) := by ac_rfl
          omega) ⟨M.one, rfl, by decide, one_bd⟩
  rw [rangeD_len] at h2
  refine ⟨m, ?_, h1, h2.mono (by omega)⟩
  simp [f__law_even, b__law_even, rn, e, M.D]
theorem e_word {ds : List Int} (hl : ds.length = 24) (n : Nat) (hn : n ≤ 5) : f__law_word [.list (ds.map .int), .int 10, .int n, .int 4] = some (.fr (((List.range n).map (fun k => a0 ds (10 + k) % 9 - 4)).map .int)) := by
  have rn : rOk (n : Int) := rOk_nat (by omega)
  have m23 : mulOk 2 4 := by decide
  have dv : divOk 9 := divOk_of (n := 20) (by decide) (by decide) (by decide)
  have := lc_rng (elt := eBin subR (eBin modR (eBin ixR (eVar 0) (eBin addR (eVar 1) (eVar 4))) (eBin addR (eBin mulI (eC (.int 2)) (eVar 3)) (eC (.int 1)))) (eVar 3)) (i := 4) (ρ := [some (.sh (.list (ds.map .int))), some (.sh (.int 10)), some (.sh (.int n)), some (.sh (.int 4)), none]) (fun k => a0 ds (10 + k) % 9 - 4) n (fun k hk => by
    have e := ints_at ds (k := 10 + k) (by omega)
    have e2 : atI (ds.map PyData.int) (10 + (k : Int)) = some (.int (a0 ds (10 + k))) := by
      rw [show (10 + (k : Int)) = ((10 + k : Nat) : Int) by omega, atI_nat', e]
    simp [e2, m23, dv])
  have hln : (rangeD 0 1 n).length ≤ LIM := by rw [rangeD_len]; unfold LIM; omega
  simp only [f__law_word, b__law_word]
  rw [rangeD_len] at hln
  unfold LIM at hln
  simp [rn, this, wipeD, rangeD_len, hln]
theorem e_of_word {w : List Int} (hw : ∀ i ∈ w, Bd 3 i) (hl : w.length ≤ 5) : ∃ m : M, f__law_of_word [.list (w.map .int)] = some (.sh m.D) ∧ m.det = 1 ∧ m.bd 30 := by
  obtain ⟨ρ', e, m, rfl, h1, h2⟩ := for_inv (g := gNm 2) (b := l__law_of_word_1) (fun k ρ => ∃ m : M, ρ = [some (.sh (.list (w.map .int))), some (.sh m.D), none] ∧ m.det = 1 ∧ m.bd (1 + 4 * k)) (w.map PyData.int) 0
    [some (.sh (.list (w.map .int))), some (.sh M.one.D), none] (fun k d ρ hk hI => by
      obtain ⟨m, rfl, i1, i2, i3, i4, i5⟩ := hI
      obtain ⟨t, ht, rfl⟩ := List.mem_map.mp (List.mem_of_getElem? hk)
      have hkl := (List.getElem?_eq_some_iff.mp hk).1
      rw [List.length_map] at hkl
      have bt := hw t ht
      have n1 := mulOk_of i2 bt (by omega)
      have n2 := mulOk_of i4 bt (by omega)
      have st : ∀ {p q : Int}, Bd (1 + 4 * (0 + k)) p → Bd (1 + 4 * (0 + k)) q → Bd (1 + 4 * (0 + k + 1)) (p * t + q) := fun hp hq => ((hp.mul bt).add (hq.mono (show 1 + 4 * (0 + k) ≤ 1 + 4 * (0 + k) + 3 by omega))).mono (by omega)
      refine ⟨_, ?_, ⟨m.a * t + m.b, -m.a, m.c * t + m.d, -m.c⟩, rfl, ?_, st i2 i3, i2.neg.mono (by omega), st i4 i5, i4.neg.mono (by omega)⟩
      · simp [l__law_of_word_1, M.D, n1, n2]
      · unfold M.det at i1 ⊢
        simp only []
        grind) ⟨M.one, rfl, by decide, one_bd⟩
  rw [List.length_map] at h2
  refine ⟨m, ?_, h1, h2.mono (by omega)⟩
  have o : (M.one.D : PyData) = .tuple [.int 1, .int 0, .int 0, .int 1] := rfl
  rw [o] at e
  simp [f__law_of_word, b__law_of_word, e]
end Lk76
set_option maxRecDepth 100000
set_option maxHeartbeats 2000000
namespace Lk76
open PySem L2 F3
theorem seq_run {a b : Rh → Option Out} {ρ ρ' : Rh} (h : a ρ = some (.nx ρ')) : sSeq a b ρ = b ρ' := by
  rw [sSeq_eq, h]
  rfl
theorem std_at {i : Int} (h0 : 0 ≤ i) (h1 : i < 8) : ∃ s ∈ stds, atI (stds.map M.D) i = some s.D := by
  obtain ⟨k, rfl⟩ : ∃ k : Nat, i = (k : Int) := ⟨i.toNat, by omega⟩
  have hk : k < stds.length := by show k < 8; omega
  refine ⟨stds[k], List.getElem_mem hk, ?_⟩
  rw [atI_nat', List.getElem?_map, List.getElem?_eq_getElem hk]
  rfl
theorem mem_at {ms : List M} {i : Int} (h0 : 0 ≤ i) (h1 : i < ms.length) : ∃ s ∈ ms, atI (ms.map M.D) i = some s.D := by
  obtain ⟨k, rfl⟩ : ∃ k : Nat, i = (k : Int) := ⟨i.toNat, by omega⟩
  have hk : k < ms.length := by omega
  refine ⟨ms[k], List.getElem_mem hk, ?_⟩
  rw [atI_nat', List.getElem?_map, List.getElem?_eq_getElem hk]
  rfl
theorem loop_a {os : List M} (ho : ∀ m ∈ os, m.det = 1 ∧ m.bd 599) (q0 q1 q2 q3 q4 q5 q6 q7 q8 q9 q10 q11 : Option Res) : forD (gNm 12) l_law_1 (os.map M.D) [q0, q1, q2, q3, q4, q5, q6, q7, q8, q9, q10, q11, none, none, none] = some (.nx [q0, q1, q2, q3, q4, q5, q6, q7, q8, q9, q10, q11, none, none, none]) := by
  refine for_still _ fun d hd => ?_
  obtain ⟨m, hm, rfl⟩ := List.mem_map.mp hd
  obtain ⟨h1, h2⟩ := ho m hm
  simp [l_law_1, e_told h1 h2]
theorem loop_c {g : M} (hg : g.det = 1) (bg : g.bd 67) (q0 q1 q2 q3 q5 q6 q7 q8 q9 q10 q11 : Option Res) : forD (gNm 14) l_law_3 (stds.map M.D) [q0, q1, q2, q3, some (.sh g.D), q5, q6, q7, q8, q9, q10, q11, none, none, none] = some (.nx [q0, q1, q2, q3, some (.sh g.D), q5, q6, q7, q8, q9, q10, q11, none, none, none]) := by
  refine for_still _ fun d hd => ?_
  obtain ⟨m, hm, rfl⟩ := List.mem_map.mp hd
  have bm := stds_bd hm
  have eb := e_law_by bm bg (by decide)
  have t1 := e_told_due (g := M.one) rfl hm (by_one m) (bm.mono (by decide))
  have t2 := e_told_due hg hm rfl ((bg.by_ bm).mono (by decide))
  simp [l_law_3, t1, eb, t2]
theorem loop_b {os : List M} (ho : ∀ m ∈ os, m.bd 599) (hl : os.length = 6) {s g : M} (hs : s ∈ stds) (bg : g.bd 200) {at_ : Nat} (hat : at_ < 4) {ds : List Int} {z : Int} (hz : atI (ds.map PyData.int) 18 = some (.int z)) (q0 q2 q3 q6 q8 q9 q10 : Option Res) :
    forD (gNm 13) l_law_2 (rangeD 0 1 2) [q0, some (.sh (.list (ds.map .int))), q2, q3, some (.sh g.D), some (.sh s.D), q6, some (.sh (.int at_)), q8, q9, q10, some (.sh (.list (os.map M.D))), none, none, none] = some (.nx [q0, some (.sh (.list (ds.map .int))), q2, q3, some (.sh g.D), some (.sh s.D), q6, some (.sh (.int at_)), q8, q9, q10, some (.sh (.list (os.map M.D))), none, none, none]) := by
  refine for_still _ fun d hd => ?_
  obtain ⟨j, hj⟩ := List.getElem?_of_mem hd
  obtain ⟨hj2, rfl⟩ := rng_get hj
  have m3 : mulOk 3 (j : Int) := mulOk_of (show Bd 3 3 by decide) (bd_of (n := 3) (by omega) (by omega)) (by decide)
  obtain ⟨w, hw⟩ : ∃ w : Int, w = (z + 3 * (j : Int)) % 6 := ⟨_, rfl⟩
  obtain ⟨m, hm, ha⟩ := mem_at (ms := os) (i := w) (by rw [hw]; exact Int.emod_nonneg _ (by decide)) (by rw [hw, hl]; exact Int.emod_lt_of_pos _ (by decide))
  have e := e_judged (ho m hm) hs bg hat
  simp [l_law_2, hz, m3, ← hw, ha, e]
theorem tail {os : List M} (ho : ∀ m ∈ os, m.det = 1 ∧ m.bd 599) (hl : os.length = 6) {s g x : M} (hs : s ∈ stds) (hg : g.det = 1) (bg : g.bd 67) {at_ : Nat} (hat : at_ < 4) {ds : List Int} {z : Int} (hz : atI (ds.map PyData.int) 18 = some (.int z))
    (tt : f__law_told [x.D, s.D] = some (.sh (.bool true))) (q0 q2 q3 q8 q9 q10 : Option Res) :
    finD ((sSeq (sFrz [11] (sFo [12] (sPre [12] (sFor (itSeq (eVar 11)) (gNm 12) l_law_1))))
            (sSeq (sFo [13] (sPre [13] (sFor (itRng (aCons (eC (PyData.int 2)) aNil)) (gNm 13) l_law_2)))
              (sSeq (sFo [14] (sPre [14] (sFor (itSeq (eFn f__law_standards aNil)) (gNm 14) l_law_3)))
                (sRet (eFn f__law_told (aCons (eVar 6) (aCons (eVar 5) aNil))))))) [q0, some (.sh (.list (ds.map .int))), q2, q3, some (.sh g.D), some (.sh s.D), some (.sh x.D), some (.sh (.int at_)), q8, q9, q10, some (.bo (os.map M.D)), none, none, none]) = some (.sh (.bool true)) := by
  have la := loop_a ho q0 (some (.sh (.list (ds.map .int)))) q2 q3 (some (.sh g.D)) (some (.sh s.D)) (some (.sh x.D)) (some (.sh (.int at_))) q8 q9 q10 (some (.sh (.list (os.map M.D))))
  have lb := loop_b (fun m hm => (ho m hm).2) hl hs (bg.mono (show 67 ≤ 200 by decide)) hat hz q0 q2 q3 (some (.sh x.D)) q8 q9 q10
  have lc := loop_c hg bg q0 (some (.sh (.list (ds.map .int)))) q2 q3 (some (.sh s.D)) (some (.sh x.D)) (some (.sh (.int at_))) q8 q9 q10 (some (.sh (.list (os.map M.D))))
  have r2 : rOk 2 := rOk_nat (n := 2) (by decide)
  simp [la, lb, lc, r2, frz1, law_stds, tt]
theorem law_data (ns : List Int) (hl : ns.length ≤ 63) : f_law [.list (ns.map .int)] = some (.sh (.bool true)) := by
  obtain ⟨ds, ed, dl, _⟩ := e_draws ns
  have at_k : ∀ k : Nat, k < 24 → atI (ds.map PyData.int) (k : Int) = some (.int (a0 ds k)) := fun k hk => by rw [atI_nat', ints_at ds (by omega)]
  have x0 : atI (ds.map PyData.int) 0 = some (.int (a0 ds 0)) := at_k 0 (by decide)
  have x1 : atI (ds.map PyData.int) 1 = some (.int (a0 ds 1)) := at_k 1 (by decide)
  have x9 : atI (ds.map PyData.int) 9 = some (.int (a0 ds 9)) := at_k 9 (by decide)
  have x15 : atI (ds.map PyData.int) 15 = some (.int (a0 ds 15)) := at_k 15 (by decide)
  have x16 : atI (ds.map PyData.int) 16 = some (.int (a0 ds 16)) := at_k 16 (by decide)
  have x17 : atI (ds.map PyData.int) 17 = some (.int (a0 ds 17)) := at_k 17 (by decide)
  have x18 : atI (ds.map PyData.int) 18 = some (.int (a0 ds 18)) := at_k 18 (by decide)
  generalize a0 ds 0 = d0 at *
  generalize a0 ds 1 = d1 at *
  generalize a0 ds 9 = d9 at *
  generalize a0 ds 15 = d15 at *
  generalize a0 ds 16 = d16 at *
  generalize a0 ds 17 = d17 at *
  generalize a0 ds 18 = d18 at *
  obtain ⟨n, hn⟩ : ∃ n : Nat, d1 / 8 % 7 = (n : Int) := ⟨(d1 / 8 % 7).toNat, by omega⟩
  have n6 : n ≤ 6 := by omega
  obtain ⟨mo, hmo, mo0, mo1⟩ : ∃ mo : Int, mo = (if d1 % 8 = 3 then 1000 else 4) ∧ 0 < mo ∧ mo ≤ 1000 := ⟨_, rfl, by split <;> decide, by split <;> decide⟩
  obtain ⟨h, eh, hd, bh⟩ := e_even dl n n6 mo0 mo1
  obtain ⟨s, hs, es⟩ := std_at (i := d0 % 8) (Int.emod_nonneg _ (by decide)) (Int.emod_lt_of_pos _ (by decide))
  have bs := stds_bd hs
  have et := e_law_by bs bh (by decide)
  have bt := (bh.by_ bs).mono (show 67 + 1 + 1 + 67 + 1 ≤ 599 by decide)
  have tt := e_told_due hd hs rfl bt
  obtain ⟨p, hp⟩ : ∃ p : Nat, d9 % 4 = (p : Int) := ⟨(d9 % 4).toNat, by omega⟩
  have p4 : p < 4 := by omega
  have bi := bh.inv
  have di : h.inv.det = 1 := by rw [M.det_inv, hd]
  have jj := e_judged bt hs (bi.mono (show 67 ≤ 200 by decide)) p4
  obtain ⟨l, hl5⟩ : ∃ l : Nat, 1 + d15 % 5 = (l : Int) := ⟨(1 + d15 % 5).toNat, by omega⟩
  have l5 : l ≤ 5 := by omega
  have ew := e_word dl l l5
  obtain ⟨wd, ewd, hwd, bwd⟩ := e_of_word (w := (List.range l).map (fun k => a0 ds (10 + k) % 9 - 4)) (fun i hi => by
    obtain ⟨k, _, rfl⟩ := List.mem_map.mp hi
    have := Int.emod_nonneg (a0 ds (10 + k)) (show (9 : Int) ≠ 0 by decide)
    have := Int.emod_lt_of_pos (a0 ds (10 + k)) (show (0 : Int) < 9 by decide)
    exact bd_of (by omega) (by omega)) (by rw [List.length_map, List.length_range]; exact l5)
  have ewb := e_law_by bwd bh (by decide)
  obtain ⟨sg, hsg⟩ : ∃ sg : Int, sg = 1 - 2 * (d16 % 2) := ⟨_, rfl⟩
  have sg2 : sg = 1 ∨ sg = -1 := by omega
  have msg : mulOk 2 (d16 % 2) := mulOk_of (show Bd 3 2 by decide) (bd_of (n := 3) (by omega) (by omega)) (by decide)
  obtain ⟨e7, he7⟩ : ∃ e7 : Int, e7 = d17 % 7 - 3 := ⟨_, rfl⟩
  have be7 : Bd 3 e7 := bd_of (by omega) (by omega)
  have bsg : Bd 3 sg := bd_of (by omega) (by omega)
  obtain ⟨sm, hsm⟩ : ∃ sm : M, sm = ⟨sg, e7, 0, sg⟩ := ⟨_, rfl⟩
  have bsm : sm.bd 3 := by rw [hsm]; exact ⟨bsg, be7, show Bd 3 0 by decide, bsg⟩
  have dsm : sm.det = 1 := by
    rw [hsm]
    rcases sg2 with h | h <;> rw [h] <;> simp [M.det]
  have esm := e_law_by bsm bh (by decide)
  obtain ⟨os, hos⟩ : ∃ os : List M, os = [wd, M.by_ h wd, M.by_ h sm, ⟨2, 1, 1, 1⟩, ⟨1, 1, 0, 1⟩, ⟨-1, 0, 1, -1⟩] := ⟨_, rfl⟩
  have hos' : ∀ m ∈ os, m.det = 1 ∧ m.bd 599 := by
    rw [hos]
    intro m hm
    simp only [List.mem_cons, List.not_mem_nil, or_false] at hm
    rcases hm with rfl | rfl | rfl | rfl | rfl | rfl
    · exact ⟨hwd, bwd.mono (by decide)⟩
    · exact ⟨by rw [M.by_det hd, hwd], (bh.by_ bwd).mono (by decide)⟩
    · exact ⟨by rw [M.by_det hd, dsm], (bh.by_ bsm).mono (by decide)⟩
    · exact ⟨by decide, show M.bd 599 ⟨2, 1, 1, 1⟩ from M.bd.mono (n := 3) ⟨by decide, by decide, by decide, by decide⟩ (by decide)⟩
    · exact ⟨by decide, show M.bd 599 ⟨1, 1, 0, 1⟩ from M.bd.mono (n := 3) ⟨by decide, by decide, by decide, by decide⟩ (by decide)⟩
    · exact ⟨by decide, show M.bd 599 ⟨-1, 0, 1, -1⟩ from M.bd.mono (n := 3) ⟨by decide, by decide, by decide, by decide⟩ (by decide)⟩
  have los : os.length = 6 := by rw [hos]; rfl
  have dv8 : divOk 8 := divOk_of (n := 20) (by decide) (by decide) (by decide)
  have r2 : rOk 2 := rOk_nat (n := 2) (by decide)
  have hdd : h.D = .tuple [.int h.a, .int h.b, .int h.c, .int h.d] := rfl
  have h3 : ixR (.sh h.D) (.sh (.int 3)) = some (.sh (.int h.d)) := by simp [M.D]
  have h1 : ixR (.sh h.D) (.sh (.int 1)) = some (.sh (.int h.b)) := by simp [M.D]
  have h2 : ixR (.sh h.D) (.sh (.int 2)) = some (.sh (.int h.c)) := by simp [M.D]
  have h0 : ixR (.sh h.D) (.sh (.int 0)) = some (.sh (.int h.a)) := by simp [M.D]
  have fi : PyData.tuple [.int h.d, .int (-h.b), .int (-h.c), .int h.a] = h.inv.D := rfl
  have fs : PyData.tuple [.int sg, .int e7, .int 0, .int sg] = sm.D := by rw [hsm]; rfl
  have fos : [wd.D, (M.by_ h wd).D, (M.by_ h sm).D, .tuple [.int 2, .int 1, .int 1, .int 1], .tuple [.int 1, .int 1, .int 0, .int 1], .tuple [.int (-1), .int 0, .int 1, .int (-1)]] = os.map M.D := by rw [hos]; rfl
  rw [List.map_map] at ew
  rw [List.map_map] at ewd
  have s0 : (sSet 1 (eFn f__law_draws (aCons (eVar 0) (aCons (eC (.int 24)) aNil)))) [some (.sh (.list (ns.map .int))), none, none, none, none, none, none, none, none, none, none, none, none, none, none] = some (.nx [some (.sh (.list (ns.map .int))), some (.bo (ds.map .int)), none, none, none, none, none, none, none, none, none, none, none, none, none]) := by
    simp [ed]
  have s1 : (sSet 2 (eC (.int 4))) [some (.sh (.list (ns.map .int))), some (.bo (ds.map .int)), none, none, none, none, none, none, none, none, none, none, none, none, none] = some (.nx [some (.sh (.list (ns.map .int))), some (.bo (ds.map .int)), some (.sh (.int 4)), none, none, none, none, none, none, none, none, none, none, none, none]) := by
    simp []
  have s2 : (sIf (tOf (eBin eqR (eBin modR (eBin ixR (eVar 1) (eC (.int 1))) (eC (.int 8))) (eC (.int 3))))
  (sSet 2 (eBin powR (eC (.int 10)) (eC (.int 3))))
  sPass) [some (.sh (.list (ns.map .int))), some (.bo (ds.map .int)), some (.sh (.int 4)), none, none, none, none, none, none, none, none, none, none, none, none] = some (.nx [some (.sh (.list (ns.map .int))), some (.bo (ds.map .int)), some (.sh (.int mo)), none, none, none, none, none, none, none, none, none, none, none, none]) := by
    by_cases h8 : d1 % 8 = 3
    · rw [if_pos h8] at hmo
      simp [x1, h8, hmo]
    · rw [if_neg h8] at hmo
      simp [x1, h8, hmo]
  have s3 : (sFrz [1] (sSet 3 (eFn f__law_even (aCons (eVar 1) (aCons (eC (.int 2)) (aCons (eBin modR (eBin fdivR (eBin ixR (eVar 1) (eC (.int 1))) (eC (.int 8))) (eC (.int 7))) (aCons (eVar 2) aNil))))))) [some (.sh (.list (ns.map .int))), some (.bo (ds.map .int)), some (.sh (.int mo)), none, none, none, none, none, none, none, none, none, none, none, none] = some (.nx [some (.sh (.list (ns.map .int))), some (.sh (.list (ds.map .int))), some (.sh (.int mo)), some (.sh h.D), none, none, none, none, none, none, none, none, none, none, none]) := by
    simp [x1, dv8, hn, eh, frz1]
  have s4 : (sSet 4 (eTup (aCons (eBin ixR (eVar 3) (eC (.int 3))) (aCons (eUn negR (eBin ixR (eVar 3) (eC (.int 1)))) (aCons (eUn negR (eBin ixR (eVar 3) (eC (.int 2)))) (aCons (eBin ixR (eVar 3) (eC (.int 0))) aNil)))))) [some (.sh (.list (ns.map .int))), some (.sh (.list (ds.map .int))), some (.sh (.int mo)), some (.sh h.D), none, none, none, none, none, none, none, none, none, none, none] = some (.nx [some (.sh (.list (ns.map .int))), some (.sh (.list (ds.map .int))), some (.sh (.int mo)), some (.sh h.D), some (.sh h.inv.D), none, none, none, none, none, none, none, none, none, none]) := by
    simp [h0, h1, h2, h3, fi]
  have s5 : (sSet 5 (eBin ixR (eFn f__law_standards aNil) (eBin modR (eBin ixR (eVar 1) (eC (.int 0))) (eC (.int 8))))) [some (.sh (.list (ns.map .int))), some (.sh (.list (ds.map .int))), some (.sh (.int mo)), some (.sh h.D), some (.sh h.inv.D), none, none, none, none, none, none, none, none, none, none] = some (.nx [some (.sh (.list (ns.map .int))), some (.sh (.list (ds.map .int))), some (.sh (.int mo)), some (.sh h.D), some (.sh h.inv.D), some (.sh s.D), none, none, none, none, none, none, none, none, none]) := by
    simp [x0, law_stds, es]
  have s6 : (sSet 6 (eFn f__law_by (aCons (eVar 3) (aCons (eVar 5) aNil)))) [some (.sh (.list (ns.map .int))), some (.sh (.list (ds.map .int))), some (.sh (.int mo)), some (.sh h.D), some (.sh h.inv.D), some (.sh s.D), none, none, none, none, none, none, none, none, none] = some (.nx [some (.sh (.list (ns.map .int))), some (.sh (.list (ds.map .int))), some (.sh (.int mo)), some (.sh h.D), some (.sh h.inv.D), some (.sh s.D), some (.sh (M.by_ h s).D), none, none, none, none, none, none, none, none]) := by
    simp [et]
  have s7 : (sSet 7 (eBin modR (eBin ixR (eVar 1) (eC (.int 9))) (eC (.int 4)))) [some (.sh (.list (ns.map .int))), some (.sh (.list (ds.map .int))), some (.sh (.int mo)), some (.sh h.D), some (.sh h.inv.D), some (.sh s.D), some (.sh (M.by_ h s).D), none, none, none, none, none, none, none, none] = some (.nx [some (.sh (.list (ns.map .int))), some (.sh (.list (ds.map .int))), some (.sh (.int mo)), some (.sh h.D), some (.sh h.inv.D), some (.sh s.D), some (.sh (M.by_ h s).D), some (.sh (.int p)), none, none, none, none, none, none, none]) := by
    simp [x9, hp]
  have s8 : (sIf (tOrD (tNotD (tOf (eFn f__law_told (aCons (eVar 6) (aCons (eVar 5) aNil))))) (tNotD (tOf (eFn f__law_judged (aCons (eVar 6) (aCons (eVar 5) (aCons (eVar 4) (aCons (eVar 7) aNil))))))))
  (sRet (eC (.bool false)))
  sPass) [some (.sh (.list (ns.map .int))), some (.sh (.list (ds.map .int))), some (.sh (.int mo)), some (.sh h.D), some (.sh h.inv.D), some (.sh s.D), some (.sh (M.by_ h s).D), some (.sh (.int p)), none, none, none, none, none, none, none] = some (.nx [some (.sh (.list (ns.map .int))), some (.sh (.list (ds.map .int))), some (.sh (.int mo)), some (.sh h.D), some (.sh h.inv.D), some (.sh s.D), some (.sh (M.by_ h s).D), some (.sh (.int p)), none, none, none, none, none, none, none]) := by
    simp [tt, jj]
  have s9 : (sFrz [1] (sSet 8 (eFn f__law_of_word (aCons (eFn f__law_word (aCons (eVar 1) (aCons (eC (.int 10)) (aCons (eBin addR (eC (.int 1)) (eBin modR (eBin ixR (eVar 1) (eC (.int 15))) (eC (.int 5)))) (aCons (eC (.int 4)) aNil))))) aNil)))) [some (.sh (.list (ns.map .int))), some (.sh (.list (ds.map .int))), some (.sh (.int mo)), some (.sh h.D), some (.sh h.inv.D), some (.sh s.D), some (.sh (M.by_ h s).D), some (.sh (.int p)), none, none, none, none, none, none, none] = some (.nx [some (.sh (.list (ns.map .int))), some (.sh (.list (ds.map .int))), some (.sh (.int mo)), some (.sh h.D), some (.sh h.inv.D), some (.sh s.D), some (.sh (M.by_ h s).D), some (.sh (.int p)), some (.sh wd.D), none, none, none, none, none, none]) := by
    simp [x15, hl5, ew, ewd, frz1]
  have s10 : (sSet 9 (eBin subR (eC (.int 1)) (eBin mulI (eC (.int 2)) (eBin modR (eBin ixR (eVar 1) (eC (.int 16))) (eC (.int 2)))))) [some (.sh (.list (ns.map .int))), some (.sh (.list (ds.map .int))), some (.sh (.int mo)), some (.sh h.D), some (.sh h.inv.D), some (.sh s.D), some (.sh (M.by_ h s).D), some (.sh (.int p)), some (.sh wd.D), none, none, none, none, none, none] = some (.nx [some (.sh (.list (ns.map .int))), some (.sh (.list (ds.map .int))), some (.sh (.int mo)), some (.sh h.D), some (.sh h.inv.D), some (.sh s.D), some (.sh (M.by_ h s).D), some (.sh (.int p)), some (.sh wd.D), some (.sh (.int sg)), none, none, none, none, none]) := by
    simp [x16, msg, ← hsg]
  have s11 : (sSet 10 (eFn f__law_by (aCons (eVar 3) (aCons (eTup (aCons (eVar 9) (aCons (eBin subR (eBin modR (eBin ixR (eVar 1) (eC (.int 17))) (eC (.int 7))) (eC (.int 3))) (aCons (eC (.int 0)) (aCons (eVar 9) aNil))))) aNil)))) [some (.sh (.list (ns.map .int))), some (.sh (.list (ds.map .int))), some (.sh (.int mo)), some (.sh h.D), some (.sh h.inv.D), some (.sh s.D), some (.sh (M.by_ h s).D), some (.sh (.int p)), some (.sh wd.D), some (.sh (.int sg)), none, none, none, none, none] = some (.nx [some (.sh (.list (ns.map .int))), some (.sh (.list (ds.map .int))), some (.sh (.int mo)), some (.sh h.D), some (.sh h.inv.D), some (.sh s.D), some (.sh (M.by_ h s).D), some (.sh (.int p)), some (.sh wd.D), some (.sh (.int sg)), some (.sh (M.by_ h sm).D), none, none, none, none]) := by
    simp [x17, ← he7, fs, esm]
  have s12 : (sSet 11 (eLst (aCons (eVar 8) (aCons (eFn f__law_by (aCons (eVar 3) (aCons (eVar 8) aNil))) (aCons (eVar 10) (aCons (eTup (aCons (eC (.int 2)) (aCons (eC (.int 1)) (aCons (eC (.int 1)) (aCons (eC (.int 1)) aNil))))) (aCons (eTup (aCons (eC (.int 1)) (aCons (eC (.int 1)) (aCons (eC (.int 0)) (aCons (eC (.int 1)) aNil))))) (aCons (eTup (aCons (eUn negR (eC (.int 1))) (aCons (eC (.int 0)) (aCons (eC (.int 1)) (aCons (eUn negR (eC (.int 1))) aNil))))) aNil)))))))) [some (.sh (.list (ns.map .int))), some (.sh (.list (ds.map .int))), some (.sh (.int mo)), some (.sh h.D), some (.sh h.inv.D), some (.sh s.D), some (.sh (M.by_ h s).D), some (.sh (.int p)), some (.sh wd.D), some (.sh (.int sg)), some (.sh (M.by_ h sm).D), none, none, none, none] = some (.nx [some (.sh (.list (ns.map .int))), some (.sh (.list (ds.map .int))), some (.sh (.int mo)), some (.sh h.D), some (.sh h.inv.D), some (.sh s.D), some (.sh (M.by_ h s).D), some (.sh (.int p)), some (.sh wd.D), some (.sh (.int sg)), some (.sh (M.by_ h sm).D), some (.bo (os.map M.D)), none, none, none]) := by
    simp [ewb, fos, los]
  have e0 : f_law [.list (ns.map .int)] = finD (b_law [some (.sh (.list (ns.map .int))), none, none, none, none, none, none, none, none, none, none, none, none, none, none]) := fnD_1
  rw [e0, b_law, seq_run s0, seq_run s1, seq_run s2, seq_run s3, seq_run s4, seq_run s5, seq_run s6, seq_run s7, seq_run s8, seq_run s9, seq_run s10, seq_run s11, seq_run s12]
  exact tail hos' los hs di bi p4 x18 tt _ _ _ _ _ _
end Lk76
set_option maxRecDepth 100000
set_option maxHeartbeats 8000000
namespace Lk76
open PySem PySem.Spec PyProof.Rows L2 F3
theorem all_mk {l : PySem.W.OpenLaw} {w : World} {K : PySem.W.Frag} {h : Heap} {mg : Str → Option Value} {fa : Addr} (X : K.In h) (G : h.Ns mainGlobals mg) (hfa : mg "law" = some (.ref fa))
    {f0 : Addr} {od0 an0 : Option Addr} {sl0 : Array (Option Value)} {oc0 kV0 dc0 pm0 cd0 ct0 : Value}
    {f1 : Addr} {od1 an1 : Option Addr} {sl1 : Array (Option Value)} {oc1 kV1 dc1 pm1 cd1 ct1 : Value}
    {f2 : Addr} {od2 an2 : Option Addr} {sl2 : Array (Option Value)} {oc2 kV2 dc2 pm2 cd2 ct2 : Value}
    {f3 : Addr} {od3 an3 : Option Addr} {sl3 : Array (Option Value)} {oc3 kV3 dc3 pm3 cd3 ct3 : Value}
    {f4 : Addr} {od4 an4 : Option Addr} {sl4 : Array (Option Value)} {oc4 kV4 dc4 pm4 cd4 ct4 : Value}
    {f5 : Addr} {od5 an5 : Option Addr} {sl5 : Array (Option Value)} {oc5 kV5 dc5 pm5 cd5 ct5 : Value}
    {f6 : Addr} {od6 an6 : Option Addr} {sl6 : Array (Option Value)} {oc6 kV6 dc6 pm6 cd6 ct6 : Value}
    {f7 : Addr} {od7 an7 : Option Addr} {sl7 : Array (Option Value)} {oc7 kV7 dc7 pm7 cd7 ct7 : Value}
    {f8 : Addr} {od8 an8 : Option Addr} {sl8 : Array (Option Value)} {oc8 kV8 dc8 pm8 cd8 ct8 : Value}
    {f9 : Addr} {od9 an9 : Option Addr} {sl9 : Array (Option Value)} {oc9 kV9 dc9 pm9 cd9 ct9 : Value}
    {f10 : Addr} {od10 an10 : Option Addr} {sl10 : Array (Option Value)} {oc10 kV10 dc10 pm10 cd10 ct10 : Value}
    {f11 : Addr} {od11 an11 : Option Addr} {sl11 : Array (Option Value)} {oc11 kV11 dc11 pm11 cd11 ct11 : Value}
    {f12 : Addr} {od12 an12 : Option Addr} {sl12 : Array (Option Value)} {oc12 kV12 dc12 pm12 cd12 ct12 : Value}
    {f13 : Addr} {od13 an13 : Option Addr} {sl13 : Array (Option Value)} {oc13 kV13 dc13 pm13 cd13 ct13 : Value}
    {f14 : Addr} {od14 an14 : Option Addr} {sl14 : Array (Option Value)} {oc14 kV14 dc14 pm14 cd14 ct14 : Value}
    {f15 : Addr} {od15 an15 : Option Addr} {sl15 : Array (Option Value)} {oc15 kV15 dc15 pm15 cd15 ct15 : Value}
    {f16 : Addr} {od16 an16 : Option Addr} {sl16 : Array (Option Value)} {oc16 kV16 dc16 pm16 cd16 ct16 : Value}
    {f17 : Addr} {od17 an17 : Option Addr} {sl17 : Array (Option Value)} {oc17 kV17 dc17 pm17 cd17 ct17 : Value}
    {f18 : Addr} {od18 an18 : Option Addr} {sl18 : Array (Option Value)} {oc18 kV18 dc18 pm18 cd18 ct18 : Value}
    {f19 : Addr} {od19 an19 : Option Addr} {sl19 : Array (Option Value)} {oc19 kV19 dc19 pm19 cd19 ct19 : Value}
    {f20 : Addr} {od20 an20 : Option Addr} {sl20 : Array (Option Value)} {oc20 kV20 dc20 pm20 cd20 ct20 : Value}
    {f21 : Addr} {od21 an21 : Option Addr} {sl21 : Array (Option Value)} {oc21 kV21 dc21 pm21 cd21 ct21 : Value}
    {f22 : Addr} {od22 an22 : Option Addr} {sl22 : Array (Option Value)} {oc22 kV22 dc22 pm22 cd22 ct22 : Value}
    {f23 : Addr} {od23 an23 : Option Addr} {sl23 : Array (Option Value)} {oc23 kV23 dc23 pm23 cd23 ct23 : Value}
    {f24 : Addr} {od24 an24 : Option Addr} {sl24 : Array (Option Value)} {oc24 kV24 dc24 pm24 cd24 ct24 : Value}
    {f25 : Addr} {od25 an25 : Option Addr} {sl25 : Array (Option Value)} {oc25 kV25 dc25 pm25 cd25 ct25 : Value}
    {f26 : Addr} {od26 an26 : Option Addr} {sl26 : Array (Option Value)} {oc26 kV26 dc26 pm26 cd26 ct26 : Value}
    {f27 : Addr} {od27 an27 : Option Addr} {sl27 : Array (Option Value)} {oc27 kV27 dc27 pm27 cd27 ct27 : Value}
    {f28 : Addr} {od28 an28 : Option Addr} {sl28 : Array (Option Value)} {oc28 kV28 dc28 pm28 cd28 ct28 : Value}
    {f29 : Addr} {od29 an29 : Option Addr} {sl29 : Array (Option Value)} {oc29 kV29 dc29 pm29 cd29 ct29 : Value}
    {f30 : Addr} {od30 an30 : Option Addr} {sl30 : Array (Option Value)} {oc30 kV30 dc30 pm30 cd30 ct30 : Value}
    {t0_0 : Tok}
    {t0_1 : Tok}
    {t0_2 : Tok}
    {t0_3 : Tok}
    {q0 : Addr} {qo0 : Option Addr} {qn0 : Nat} {qs0 : Array (Option Value)}
    {t1_0 : Tok}
    {t1_1 : Tok}
    {t1_2 : Tok}
    {t1_3 : Tok}
    {q1 : Addr} {qo1 : Option Addr} {qn1 : Nat} {qs1 : Array (Option Value)}
    {t2_0 : Tok}
    {t2_1 : Tok}
    {t2_2 : Tok}
    {t2_3 : Tok}
    {q2 : Addr} {qo2 : Option Addr} {qn2 : Nat} {qs2 : Array (Option Value)}
    {t3_0 u3_0 : Tok}
    {t3_1 u3_1 : Tok}
    {t3_2 u3_2 : Tok}
    {q3 : Addr} {qn3 : Nat}
    {t5_0 : Tok}
    {t5_1 : Tok}
    {t5_2 : Tok}
    {t5_3 : Tok}
    {q5 : Addr} {qo5 : Option Addr} {qn5 : Nat} {qs5 : Array (Option Value)}
    {t6_0 : Tok}
    {t6_1 : Tok}
    {t6_2 : Tok}
    {t6_3 : Tok}
    {q6 : Addr} {qo6 : Option Addr} {qn6 : Nat} {qs6 : Array (Option Value)}
    {t7_0 : Tok}
    {t7_1 : Tok}
    {t7_2 : Tok}
    {t7_3 : Tok}
    {q7 : Addr} {qo7 : Option Addr} {qn7 : Nat} {qs7 : Array (Option Value)}
    {t8_0 : Tok}
    {t8_1 : Tok}
    {t8_2 : Tok}
    {t8_3 : Tok}
    {q8 : Addr} {qo8 : Option Addr} {qn8 : Nat} {qs8 : Array (Option Value)}
    {t9_0 : Tok}
    {t9_1 : Tok}
    {t9_2 : Tok}
    {t9_3 : Tok}
    {q9 : Addr} {qo9 : Option Addr} {qn9 : Nat} {qs9 : Array (Option Value)}
    {t10_0 : Tok}
    {t10_1 : Tok}
    {t10_2 : Tok}
    {t10_3 : Tok}
    {q10 : Addr} {qo10 : Option Addr} {qn10 : Nat} {qs10 : Array (Option Value)}
    {t11_0 : Tok}
    {t11_1 : Tok}
    {t11_2 : Tok}
    {t11_3 : Tok}
    {q11 : Addr} {qo11 : Option Addr} {qn11 : Nat} {qs11 : Array (Option Value)}
    {t12_0 : Tok}
    {t12_1 : Tok}
    {t12_2 : Tok}
    {t12_3 : Tok}
    {q12 : Addr} {qo12 : Option Addr} {qn12 : Nat} {qs12 : Array (Option Value)}
    {q4 : Addr} {qo4 : Option Addr} {qn4 : Nat} {qs4 : Array (Option Value)}
    {t14_0 : Tok}
    {t14_1 : Tok}
    {t14_2 : Tok}
    {t14_3 : Tok}
    {q14 : Addr} {qo14 : Option Addr} {qn14 : Nat} {qs14 : Array (Option Value)}
    {t15_0 : Tok}
    {t15_1 : Tok}
    {t15_2 : Tok}
    {t15_3 : Tok}
    {q15 : Addr} {qo15 : Option Addr} {qn15 : Nat} {qs15 : Array (Option Value)}
    {t16_0 : Tok}
    {t16_1 : Tok}
    {t16_2 : Tok}
    {t16_3 : Tok}
    {q16 : Addr} {qo16 : Option Addr} {qn16 : Nat} {qs16 : Array (Option Value)}
    {q13 : Addr} {qo13 : Option Addr} {qn13 : Nat} {qs13 : Array (Option Value)}
    {Xx0 : Addr}
    {Xx1 : Addr}
    {Xx2 : Addr}
    {Xx3 : Addr}
    {f_x1 Ex1 Nx1 ccx1 cdax1 NEx1 : Addr} {nmx1 qnx1 nmEx1 qEx1 : Str} {bsx1 sbx1 bsEx1 sbEx1 : List Value} {snx1 snEx1 : List Str} {abx1 abEx1 hdEx1 dlEx1 : Bool} {colx1 colEx1 : Option Bool} {ddx1 : Option Addr} {k0x1 k1x1 k2x1 k3x1 k5x1 : Option Value}
    {ocx1 dcx1 pmx1 ctx1 clx1 cclx1 : Value} {odx1 anx1 cldx1 cddx1 : Option Addr} {slx1 cslx1 ccsx1 : Array (Option Value)} {vsx1 : Array Value} {flx1 : Str} {tfx1 : Tok}
    {tlx1 : List Value}
    (a0 : PySem.W.nsIn K mainGlobals "nearest" = some (some (.ref f0))) (l0 : K.lookup f0 = some ⟨oc0, od0, .func (PySem.W.fnOf "nearest" "nearest" (defArgs s_nearest) (defBody s_nearest) (defScope s_nearest) .none kV0 dc0 pm0 an0 cd0 ct0), sl0⟩)
    (c0 : PySem.W.codeIn K cd0 "nearest" = true) (k0 : PySem.W.keepIn K (.ref f0) = true)
    (a1 : PySem.W.nsIn K mainGlobals "is_number" = some (some (.ref f1))) (l1 : K.lookup f1 = some ⟨oc1, od1, .func (PySem.W.fnOf "is_number" "is_number" (defArgs s_is_number) (defBody s_is_number) (defScope s_is_number) .none kV1 dc1 pm1 an1 cd1 ct1), sl1⟩)
    (c1 : PySem.W.codeIn K cd1 "is_number" = true) (k1 : PySem.W.keepIn K (.ref f1) = true)
    (a2 : PySem.W.nsIn K mainGlobals "is_number_tuple" = some (some (.ref f2))) (l2 : K.lookup f2 = some ⟨oc2, od2, .func (PySem.W.fnOf "is_number_tuple" "is_number_tuple" (defArgs s_is_number_tuple) (defBody s_is_number_tuple) (defScope s_is_number_tuple) .none kV2 dc2 pm2 an2 cd2 ct2), sl2⟩)
    (c2 : PySem.W.codeIn K cd2 "is_number_tuple" = true) (k2 : PySem.W.keepIn K (.ref f2) = true)
    (a3 : PySem.W.nsIn K mainGlobals "is_turn" = some (some (.ref f3))) (l3 : K.lookup f3 = some ⟨oc3, od3, .func (PySem.W.fnOf "is_turn" "is_turn" (defArgs s_is_turn) (defBody s_is_turn) (defScope s_is_turn) .none kV3 dc3 pm3 an3 cd3 ct3), sl3⟩)
    (c3 : PySem.W.codeIn K cd3 "is_turn" = true) (k3 : PySem.W.keepIn K (.ref f3) = true)
    (a4 : PySem.W.nsIn K mainGlobals "turn_product" = some (some (.ref f4))) (l4 : K.lookup f4 = some ⟨oc4, od4, .func (PySem.W.fnOf "turn_product" "turn_product" (defArgs s_turn_product) (defBody s_turn_product) (defScope s_turn_product) .none kV4 dc4 pm4 an4 cd4 ct4), sl4⟩)
    (c4 : PySem.W.codeIn K cd4 "turn_product" = true) (k4 : PySem.W.keepIn K (.ref f4) = true)
    (a5 : PySem.W.nsIn K mainGlobals "turn_back" = some (some (.ref f5))) (l5 : K.lookup f5 = some ⟨oc5, od5, .func (PySem.W.fnOf "turn_back" "turn_back" (defArgs s_turn_back) (defBody s_turn_back) (defScope s_turn_back) .none kV5 dc5 pm5 an5 cd5 ct5), sl5⟩)
    (c5 : PySem.W.codeIn K cd5 "turn_back" = true) (k5 : PySem.W.keepIn K (.ref f5) = true)
    (a6 : PySem.W.nsIn K mainGlobals "turned_by" = some (some (.ref f6))) (l6 : K.lookup f6 = some ⟨oc6, od6, .func (PySem.W.fnOf "turned_by" "turned_by" (defArgs s_turned_by) (defBody s_turned_by) (defScope s_turned_by) .none kV6 dc6 pm6 an6 cd6 ct6), sl6⟩)
    (c6 : PySem.W.codeIn K cd6 "turned_by" = true) (k6 : PySem.W.keepIn K (.ref f6) = true)
    (a7 : PySem.W.nsIn K mainGlobals "turn_order" = some (some (.ref f7))) (l7 : K.lookup f7 = some ⟨oc7, od7, .func (PySem.W.fnOf "turn_order" "turn_order" (defArgs s_turn_order) (defBody s_turn_order) (defScope s_turn_order) .none kV7 dc7 pm7 an7 cd7 ct7), sl7⟩)
    (c7 : PySem.W.codeIn K cd7 "turn_order" = true) (k7 : PySem.W.keepIn K (.ref f7) = true)
    (a8 : PySem.W.nsIn K mainGlobals "centring" = some (some (.ref f8))) (l8 : K.lookup f8 = some ⟨oc8, od8, .func (PySem.W.fnOf "centring" "centring" (defArgs s_centring) (defBody s_centring) (defScope s_centring) .none kV8 dc8 pm8 an8 cd8 ct8), sl8⟩)
    (c8 : PySem.W.codeIn K cd8 "centring" = true) (k8 : PySem.W.keepIn K (.ref f8) = true)
    (a9 : PySem.W.nsIn K mainGlobals "leads" = some (some (.ref f9))) (l9 : K.lookup f9 = some ⟨oc9, od9, .func (PySem.W.fnOf "leads" "leads" (defArgs s_leads) (defBody s_leads) (defScope s_leads) .none kV9 dc9 pm9 an9 cd9 ct9), sl9⟩)
    (c9 : PySem.W.codeIn K cd9 "leads" = true) (k9 : PySem.W.keepIn K (.ref f9) = true)
    (a10 : PySem.W.nsIn K mainGlobals "settled" = some (some (.ref f10))) (l10 : K.lookup f10 = some ⟨oc10, od10, .func (PySem.W.fnOf "settled" "settled" (defArgs s_settled) (defBody s_settled) (defScope s_settled) .none kV10 dc10 pm10 an10 cd10 ct10), sl10⟩)
    (c10 : PySem.W.codeIn K cd10 "settled" = true) (k10 : PySem.W.keepIn K (.ref f10) = true)
    (a11 : PySem.W.nsIn K mainGlobals "finite_paper" = some (some (.ref f11))) (l11 : K.lookup f11 = some ⟨oc11, od11, .func (PySem.W.fnOf "finite_paper" "finite_paper" (defArgs s_finite_paper) (defBody s_finite_paper) (defScope s_finite_paper) .none kV11 dc11 pm11 an11 cd11 ct11), sl11⟩)
    (c11 : PySem.W.codeIn K cd11 "finite_paper" = true) (k11 : PySem.W.keepIn K (.ref f11) = true)
    (a12 : PySem.W.nsIn K mainGlobals "shows_finite" = some (some (.ref f12))) (l12 : K.lookup f12 = some ⟨oc12, od12, .func (PySem.W.fnOf "shows_finite" "shows_finite" (defArgs s_shows_finite) (defBody s_shows_finite) (defScope s_shows_finite) .none kV12 dc12 pm12 an12 cd12 ct12), sl12⟩)
    (c12 : PySem.W.codeIn K cd12 "shows_finite" = true) (k12 : PySem.W.keepIn K (.ref f12) = true)
    (a13 : PySem.W.nsIn K mainGlobals "_law_draws" = some (some (.ref f13))) (l13 : K.lookup f13 = some ⟨oc13, od13, .func (PySem.W.fnOf "_law_draws" "_law_draws" (defArgs s__law_draws) (defBody s__law_draws) (defScope s__law_draws) .none kV13 dc13 pm13 an13 cd13 ct13), sl13⟩)
    (c13 : PySem.W.codeIn K cd13 "_law_draws" = true) (k13 : PySem.W.keepIn K (.ref f13) = true)
    (a14 : PySem.W.nsIn K mainGlobals "_law_is_number" = some (some (.ref f14))) (l14 : K.lookup f14 = some ⟨oc14, od14, .func (PySem.W.fnOf "_law_is_number" "_law_is_number" (defArgs s__law_is_number) (defBody s__law_is_number) (defScope s__law_is_number) .none kV14 dc14 pm14 an14 cd14 ct14), sl14⟩)
    (c14 : PySem.W.codeIn K cd14 "_law_is_number" = true) (k14 : PySem.W.keepIn K (.ref f14) = true)
    (a15 : PySem.W.nsIn K mainGlobals "_law_is_tuple" = some (some (.ref f15))) (l15 : K.lookup f15 = some ⟨oc15, od15, .func (PySem.W.fnOf "_law_is_tuple" "_law_is_tuple" (defArgs s__law_is_tuple) (defBody s__law_is_tuple) (defScope s__law_is_tuple) .none kV15 dc15 pm15 an15 cd15 ct15), sl15⟩)
    (c15 : PySem.W.codeIn K cd15 "_law_is_tuple" = true) (k15 : PySem.W.keepIn K (.ref f15) = true)
    (a16 : PySem.W.nsIn K mainGlobals "_law_same" = some (some (.ref f16))) (l16 : K.lookup f16 = some ⟨oc16, od16, .func (PySem.W.fnOf "_law_same" "_law_same" (defArgs s__law_same) (defBody s__law_same) (defScope s__law_same) .none kV16 dc16 pm16 an16 cd16 ct16), sl16⟩)
    (c16 : PySem.W.codeIn K cd16 "_law_same" = true) (k16 : PySem.W.keepIn K (.ref f16) = true)
    (a17 : PySem.W.nsIn K mainGlobals "_law_fresh" = some (some (.ref f17))) (l17 : K.lookup f17 = some ⟨oc17, od17, .func (PySem.W.fnOf "_law_fresh" "_law_fresh" (defArgs s__law_fresh) (defBody s__law_fresh) (defScope s__law_fresh) .none kV17 dc17 pm17 an17 cd17 ct17), sl17⟩)
    (c17 : PySem.W.codeIn K cd17 "_law_fresh" = true) (k17 : PySem.W.keepIn K (.ref f17) = true)
    (a18 : PySem.W.nsIn K mainGlobals "_law_even" = some (some (.ref f18))) (l18 : K.lookup f18 = some ⟨oc18, od18, .func (PySem.W.fnOf "_law_even" "_law_even" (defArgs s__law_even) (defBody s__law_even) (defScope s__law_even) .none kV18 dc18 pm18 an18 cd18 ct18), sl18⟩)
    (c18 : PySem.W.codeIn K cd18 "_law_even" = true) (k18 : PySem.W.keepIn K (.ref f18) = true)
    (a19 : PySem.W.nsIn K mainGlobals "_law_times" = some (some (.ref f19))) (l19 : K.lookup f19 = some ⟨oc19, od19, .func (PySem.W.fnOf "_law_times" "_law_times" (defArgs s__law_times) (defBody s__law_times) (defScope s__law_times) .none kV19 dc19 pm19 an19 cd19 ct19), sl19⟩)
    (c19 : PySem.W.codeIn K cd19 "_law_times" = true) (k19 : PySem.W.keepIn K (.ref f19) = true)
    (a20 : PySem.W.nsIn K mainGlobals "_law_word" = some (some (.ref f20))) (l20 : K.lookup f20 = some ⟨oc20, od20, .func (PySem.W.fnOf "_law_word" "_law_word" (defArgs s__law_word) (defBody s__law_word) (defScope s__law_word) .none kV20 dc20 pm20 an20 cd20 ct20), sl20⟩)
    (c20 : PySem.W.codeIn K cd20 "_law_word" = true) (k20 : PySem.W.keepIn K (.ref f20) = true)
    (a21 : PySem.W.nsIn K mainGlobals "_law_of_word" = some (some (.ref f21))) (l21 : K.lookup f21 = some ⟨oc21, od21, .func (PySem.W.fnOf "_law_of_word" "_law_of_word" (defArgs s__law_of_word) (defBody s__law_of_word) (defScope s__law_of_word) .none kV21 dc21 pm21 an21 cd21 ct21), sl21⟩)
    (c21 : PySem.W.codeIn K cd21 "_law_of_word" = true) (k21 : PySem.W.keepIn K (.ref f21) = true)
    (a22 : PySem.W.nsIn K mainGlobals "_law_is_turn" = some (some (.ref f22))) (l22 : K.lookup f22 = some ⟨oc22, od22, .func (PySem.W.fnOf "_law_is_turn" "_law_is_turn" (defArgs s__law_is_turn) (defBody s__law_is_turn) (defScope s__law_is_turn) .none kV22 dc22 pm22 an22 cd22 ct22), sl22⟩)
    (c22 : PySem.W.codeIn K cd22 "_law_is_turn" = true) (k22 : PySem.W.keepIn K (.ref f22) = true)
    (a23 : PySem.W.nsIn K mainGlobals "_law_leads" = some (some (.ref f23))) (l23 : K.lookup f23 = some ⟨oc23, od23, .func (PySem.W.fnOf "_law_leads" "_law_leads" (defArgs s__law_leads) (defBody s__law_leads) (defScope s__law_leads) .none kV23 dc23 pm23 an23 cd23 ct23), sl23⟩)
    (c23 : PySem.W.codeIn K cd23 "_law_leads" = true) (k23 : PySem.W.keepIn K (.ref f23) = true)
    (a24 : PySem.W.nsIn K mainGlobals "_law_by" = some (some (.ref f24))) (l24 : K.lookup f24 = some ⟨oc24, od24, .func (PySem.W.fnOf "_law_by" "_law_by" (defArgs s__law_by) (defBody s__law_by) (defScope s__law_by) .none kV24 dc24 pm24 an24 cd24 ct24), sl24⟩)
    (c24 : PySem.W.codeIn K cd24 "_law_by" = true) (k24 : PySem.W.keepIn K (.ref f24) = true)
    (a25 : PySem.W.nsIn K mainGlobals "_law_standards" = some (some (.ref f25))) (l25 : K.lookup f25 = some ⟨oc25, od25, .func (PySem.W.fnOf "_law_standards" "_law_standards" (defArgs s__law_standards) (defBody s__law_standards) (defScope s__law_standards) .none kV25 dc25 pm25 an25 cd25 ct25), sl25⟩)
    (c25 : PySem.W.codeIn K cd25 "_law_standards" = true) (k25 : PySem.W.keepIn K (.ref f25) = true)
    (a26 : PySem.W.nsIn K mainGlobals "_law_right" = some (some (.ref f26))) (l26 : K.lookup f26 = some ⟨oc26, od26, .func (PySem.W.fnOf "_law_right" "_law_right" (defArgs s__law_right) (defBody s__law_right) (defScope s__law_right) .none kV26 dc26 pm26 an26 cd26 ct26), sl26⟩)
    (c26 : PySem.W.codeIn K cd26 "_law_right" = true) (k26 : PySem.W.keepIn K (.ref f26) = true)
    (a27 : PySem.W.nsIn K mainGlobals "_law_finite" = some (some (.ref f27))) (l27 : K.lookup f27 = some ⟨oc27, od27, .func (PySem.W.fnOf "_law_finite" "_law_finite" (defArgs s__law_finite) (defBody s__law_finite) (defScope s__law_finite) .none kV27 dc27 pm27 an27 cd27 ct27), sl27⟩)
    (c27 : PySem.W.codeIn K cd27 "_law_finite" = true) (k27 : PySem.W.keepIn K (.ref f27) = true)
    (a28 : PySem.W.nsIn K mainGlobals "_law_told" = some (some (.ref f28))) (l28 : K.lookup f28 = some ⟨oc28, od28, .func (PySem.W.fnOf "_law_told" "_law_told" (defArgs s__law_told) (defBody s__law_told) (defScope s__law_told) .none kV28 dc28 pm28 an28 cd28 ct28), sl28⟩)
    (c28 : PySem.W.codeIn K cd28 "_law_told" = true) (k28 : PySem.W.keepIn K (.ref f28) = true)
    (a29 : PySem.W.nsIn K mainGlobals "_law_judged" = some (some (.ref f29))) (l29 : K.lookup f29 = some ⟨oc29, od29, .func (PySem.W.fnOf "_law_judged" "_law_judged" (defArgs s__law_judged) (defBody s__law_judged) (defScope s__law_judged) .none kV29 dc29 pm29 an29 cd29 ct29), sl29⟩)
    (c29 : PySem.W.codeIn K cd29 "_law_judged" = true) (k29 : PySem.W.keepIn K (.ref f29) = true)
    (a30 : PySem.W.nsIn K mainGlobals "law" = some (some (.ref f30))) (l30 : K.lookup f30 = some ⟨oc30, od30, .func (PySem.W.fnOf "law" "law" (defArgs s_law) (defBody s_law) (defScope s_law) .none kV30 dc30 pm30 an30 cd30 ct30), sl30⟩)
    (c30 : PySem.W.codeIn K cd30 "law" = true) (k30 : PySem.W.keepIn K (.ref f30) = true)
    (b_STILL : PySem.W.nsIn K mainGlobals "STILL" = some (some (.ref q0)))
    (m0 : K.lookup q0 = some ⟨.type "tuple", qo0, .seq #[.int 1 t0_0, .int 0 t0_1, .int 0 t0_2, .int 1 t0_3] qn0, qs0⟩)
    (b_HALF : PySem.W.nsIn K mainGlobals "HALF" = some (some (.ref q1)))
    (m1 : K.lookup q1 = some ⟨.type "tuple", qo1, .seq #[.int (-1) t1_0, .int 0 t1_1, .int 0 t1_2, .int (-1) t1_3] qn1, qs1⟩)
    (b_QUARTER : PySem.W.nsIn K mainGlobals "QUARTER" = some (some (.ref q2)))
    (m2 : K.lookup q2 = some ⟨.type "tuple", qo2, .seq #[.int 0 t2_0, .int (-1) t2_1, .int 1 t2_2, .int 0 t2_3] qn2, qs2⟩)
    (b_ORDERS : PySem.W.nsIn K mainGlobals "ORDERS" = some (some (.ref q3)))
    (m3 : K.lookup q3 = some ⟨.type "dict", none, .dict #[⟨(-2), .int (-1) t3_0, .int 3 u3_0⟩, ⟨0, .int 0 t3_1, .int 4 u3_1⟩, ⟨1, .int 1 t3_2, .int 6 u3_2⟩] qn3, #[]⟩)
    (lo3 : (q3 == sysModules) = false)
    (b_STANDARDS : PySem.W.nsIn K mainGlobals "STANDARDS" = some (some (.ref q4)))
    (m4 : K.lookup q4 = some ⟨.type "tuple", qo4, .seq #[.ref q5, .ref q6, .ref q7, .ref q8, .ref q9, .ref q10, .ref q11, .ref q12] qn4, qs4⟩)
    (m5 : K.lookup q5 = some ⟨.type "tuple", qo5, .seq #[.int 1 t5_0, .int 0 t5_1, .int 0 t5_2, .int 1 t5_3] qn5, qs5⟩)
    (m6 : K.lookup q6 = some ⟨.type "tuple", qo6, .seq #[.int (-1) t6_0, .int 0 t6_1, .int 0 t6_2, .int (-1) t6_3] qn6, qs6⟩)
    (m7 : K.lookup q7 = some ⟨.type "tuple", qo7, .seq #[.int 0 t7_0, .int (-1) t7_1, .int 1 t7_2, .int 0 t7_3] qn7, qs7⟩)
    (m8 : K.lookup q8 = some ⟨.type "tuple", qo8, .seq #[.int 0 t8_0, .int 1 t8_1, .int (-1) t8_2, .int 0 t8_3] qn8, qs8⟩)
    (m9 : K.lookup q9 = some ⟨.type "tuple", qo9, .seq #[.int 0 t9_0, .int (-1) t9_1, .int 1 t9_2, .int 1 t9_3] qn9, qs9⟩)
    (m10 : K.lookup q10 = some ⟨.type "tuple", qo10, .seq #[.int 1 t10_0, .int 1 t10_1, .int (-1) t10_2, .int 0 t10_3] qn10, qs10⟩)
    (m11 : K.lookup q11 = some ⟨.type "tuple", qo11, .seq #[.int 0 t11_0, .int (-1) t11_1, .int 1 t11_2, .int (-1) t11_3] qn11, qs11⟩)
    (m12 : K.lookup q12 = some ⟨.type "tuple", qo12, .seq #[.int (-1) t12_0, .int 1 t12_1, .int (-1) t12_2, .int 0 t12_3] qn12, qs12⟩)
    (b_SHIFTS : PySem.W.nsIn K mainGlobals "SHIFTS" = some (some (.ref q13)))
    (m13 : K.lookup q13 = some ⟨.type "tuple", qo13, .seq #[.ref q14, .ref q15, .ref q16] qn13, qs13⟩)
    (m14 : K.lookup q14 = some ⟨.type "tuple", qo14, .seq #[.int 1 t14_0, .int 0 t14_1, .int 0 t14_2, .int 1 t14_3] qn14, qs14⟩)
    (m15 : K.lookup q15 = some ⟨.type "tuple", qo15, .seq #[.int 1 t15_0, .int (-1) t15_1, .int 0 t15_2, .int 1 t15_3] qn15, qs15⟩)
    (m16 : K.lookup q16 = some ⟨.type "tuple", qo16, .seq #[.int 1 t16_0, .int 1 t16_1, .int 0 t16_2, .int 1 t16_3] qn16, qs16⟩)
    (ga0 : PySem.W.nsIn K mainGlobals "EndlessGroup" = some (some (.ref Xx0)))
    (ga1 : PySem.W.nsIn K mainGlobals "EndlessOrder" = some (some (.ref Xx1)))
    (ga2 : PySem.W.nsIn K mainGlobals "GridError" = some (some (.ref Xx2)))
    (ga3 : PySem.W.nsIn K mainGlobals "NotInCone" = some (some (.ref Xx3)))
    (ysup : PySem.W.nsIn K mainGlobals "super" = some none)
    (thr : PySem.W.nsIn K PySem.cStatics "thirdparty.any" = some none)
    (sgt : PySem.W.specialIn K (.builtin "object.__class__") "__get__" = some (some (.builtin "getset_descriptor.__get__")))
    (tkt : PySem.W.takesIn K (.builtin "object.__class__") = some true)
    (htop : (l.prog.main.scope.names.lookup ("super" : Str)).isSome = false)
    (xlx1 : K.lookup Xx1 = some (excClassObj nmx1 qnx1 Xx1 Nx1 bsx1 (.ref Ex1 :: tlx1) true snx1 sbx1 abx1 colx1 ddx1 k0x1 k1x1 k2x1 k3x1 k5x1 "ValueError.__new__"))
    (rvx1 : PySem.HandSPX.refsVE (.ref Ex1 :: tlx1) = true)
    (cex1 : PySem.W.clsIn K Ex1 = some ⟨nmEx1, bsEx1, .ref Ex1 :: tlx1, NEx1, qEx1, hdEx1, snEx1, sbEx1, abEx1, colEx1, dlEx1⟩)
    (fex1 : PySem.W.findIn K (.ref Ex1) "__init__" = some (some (.builtin "ValueError.__init__")))
    (iix1 : PySem.W.findIn K (.ref Xx1) "__init__" = some (some (.ref f_x1)))
    (tix1 : PySem.W.typeIn K (.ref f_x1) = some (.type "function"))
    (kpx1 : PySem.W.keepIn K (.ref Xx1) = true)
    (bex1 : PySem.W.subIn K (.ref Xx1) (.type "BaseException") = some true)
    (tyx1 : PySem.W.typeIn K (.ref Xx1) = some (.type "type"))
    (sax1 : PySem.W.findIn K (.ref Xx1) "__setattr__" = some (some (.builtin "object.__setattr__")))
    (svx1 : PySem.W.subIn K (.ref Xx1) (.type "ValueError") = some true)
    (mcx1 : PySem.W.mroIn K Xx1 (.ref Xx1) = some true)
    (ssx1 : PySem.W.subIn K (.ref Xx1) (.ref Xx1) = some true)
    (hdx1 : PySem.W.hasDictIn K Xx1 = true)
    (hgx1 : PySem.W.findIn K (.ref Xx1) "__getattribute__" = some (some (.builtin "BaseException.__getattribute__")))
    (hkx1 : PySem.W.findIn K (.ref Xx1) "__getattr__" = some none)
    (hax1 : PySem.W.findIn K (.ref Xx1) "__class__" = some (some (.builtin "object.__class__")))
    (mox1 : PySem.W.mroIn K Xx1 (.type "object") = some true)
    (fl_x1 : K.lookup f_x1 = some ⟨ocx1, odx1, .func (PySem.W.ksFn "__init__" "EndlessOrder.__init__" (PySem.Fx.iA0 ⟨51, 17, 51, 21⟩) (eB0 ⟨52, 8, 52, 13⟩ ⟨52, 8, 52, 15⟩ ⟨52, 8, 52, 24⟩ ⟨52, 25, 52, 53⟩ ⟨52, 8, 52, 54⟩ ⟨52, 8, 52, 54⟩ "the turn has endless order" 0) (PySem.Fx.iSc [("self", .local), ("__class__", .free), ("super", .globalImplicit)]) .none .none dcx1 pmx1 anx1 (.ref cdax1) ctx1 ccx1), slx1⟩)
    (cdix1 : PySem.W.codeIn K (.ref cdax1) "EndlessOrder.__init__" = true)
    (celx1 : K.lookup ccx1 = some ⟨clx1, cldx1, .cell (some (.ref Xx1)), cslx1⟩)
    (codx1 : K.lookup cdax1 = some ⟨cclx1, cddx1, .fields vsx1, ccsx1⟩)
    (v2x1 : vsx1[2]? = some (.str flx1 tfx1))
    (filx1 : ((l.prog.main.file : Str) == flx1) = true)
    (s_x1_x0 : PySem.W.subIn K (.ref Xx1) (.ref Xx0) = some false)
    (d_x1_x0 : PySem.W.hasDictIn K Xx0 = true)
    (t_x1_x0 : PySem.W.typeIn K (.ref Xx0) = some (.type "type"))
    (b_x1_x0 : PySem.W.subIn K (.ref Xx0) (.type "BaseException") = some true)
    (s_x1_x2 : PySem.W.subIn K (.ref Xx1) (.ref Xx2) = some true)
    (d_x1_x2 : PySem.W.hasDictIn K Xx2 = true)
    (t_x1_x2 : PySem.W.typeIn K (.ref Xx2) = some (.type "type"))
    (b_x1_x2 : PySem.W.subIn K (.ref Xx2) (.type "BaseException") = some true)
    (s_x1_x3 : PySem.W.subIn K (.ref Xx1) (.ref Xx3) = some false)
    (d_x1_x3 : PySem.W.hasDictIn K Xx3 = true)
    (t_x1_x3 : PySem.W.typeIn K (.ref Xx3) = some (.type "type"))
    (b_x1_x3 : PySem.W.subIn K (.ref Xx3) (.type "BaseException") = some true)
    (s_x1_x1 : PySem.W.subIn K (.ref Xx1) (.ref Xx1) = some true)
    (d_x1_x1 : PySem.W.hasDictIn K Xx1 = true)
    (t_x1_x1 : PySem.W.typeIn K (.ref Xx1) = some (.type "type"))
    (b_x1_x1 : PySem.W.subIn K (.ref Xx1) (.type "BaseException") = some true)
    (y_ValueError : PySem.W.nsIn K mainGlobals "ValueError" = some none)
    (y_abs : PySem.W.nsIn K mainGlobals "abs" = some none)
    (y_bool : PySem.W.nsIn K mainGlobals "bool" = some none)
    (y_int : PySem.W.nsIn K mainGlobals "int" = some none)
    (y_isinstance : PySem.W.nsIn K mainGlobals "isinstance" = some none)
    (y_len : PySem.W.nsIn K mainGlobals "len" = some none)
    (y_list : PySem.W.nsIn K mainGlobals "list" = some none)
    (y_range : PySem.W.nsIn K mainGlobals "range" = some none)
    (y_repr : PySem.W.nsIn K mainGlobals "repr" = some none)
    (y_str : PySem.W.nsIn K mainGlobals "str" = some none)
    (y_tuple : PySem.W.nsIn K mainGlobals "tuple" = some none) :
    ∃ fd : FuncData, (∀ (s : Shared) (v : Value), BindsTo s fd ⟨[v], []⟩ [("script", v)]) ∧ ∀ base : Heap, K.In base → base.Ns mainGlobals mg → FnG l.prog w K mg base 28 fa fd ["script"] (spD K 1 f_law) := by
  have e : f30 = fa := by
    have z := (PySem.W.mg_of X G a30).symm.trans hfa
    injection z with z
    injection z
  subst e
  let T : Top l.prog K mg := {
    a_nearest := f0, fd_nearest := (PySem.W.fnOf "nearest" "nearest" (defArgs s_nearest) (defBody s_nearest) (defScope s_nearest) .none kV0 dc0 pm0 an0 cd0 ct0), F_nearest := fun_mk (st := s_nearest) l0 c0 k0, g_nearest := PySem.W.mg_of X G a0,
    B_nearest := (fun_mk (st := s_nearest) l0 c0 k0).binds fun _ _ _ _ _ _ us hl => match us, hl with | [_, _], _ => rfl,
    a_is_number := f1, fd_is_number := (PySem.W.fnOf "is_number" "is_number" (defArgs s_is_number) (defBody s_is_number) (defScope s_is_number) .none kV1 dc1 pm1 an1 cd1 ct1), F_is_number := fun_mk (st := s_is_number) l1 c1 k1, g_is_number := PySem.W.mg_of X G a1,
    B_is_number := (fun_mk (st := s_is_number) l1 c1 k1).binds fun _ _ _ _ _ _ us hl => match us, hl with | [_], _ => rfl,
    a_is_number_tuple := f2, fd_is_number_tuple := (PySem.W.fnOf "is_number_tuple" "is_number_tuple" (defArgs s_is_number_tuple) (defBody s_is_number_tuple) (defScope s_is_number_tuple) .none kV2 dc2 pm2 an2 cd2 ct2), F_is_number_tuple := fun_mk (st := s_is_number_tuple) l2 c2 k2, g_is_number_tuple := PySem.W.mg_of X G a2,
    B_is_number_tuple := (fun_mk (st := s_is_number_tuple) l2 c2 k2).binds fun _ _ _ _ _ _ us hl => match us, hl with | [_, _], _ => rfl,
    a_is_turn := f3, fd_is_turn := (PySem.W.fnOf "is_turn" "is_turn" (defArgs s_is_turn) (defBody s_is_turn) (defScope s_is_turn) .none kV3 dc3 pm3 an3 cd3 ct3), F_is_turn := fun_mk (st := s_is_turn) l3 c3 k3, g_is_turn := PySem.W.mg_of X G a3,
    B_is_turn := (fun_mk (st := s_is_turn) l3 c3 k3).binds fun _ _ _ _ _ _ us hl => match us, hl with | [_], _ => rfl,
    a_turn_product := f4, fd_turn_product := (PySem.W.fnOf "turn_product" "turn_product" (defArgs s_turn_product) (defBody s_turn_product) (defScope s_turn_product) .none kV4 dc4 pm4 an4 cd4 ct4), F_turn_product := fun_mk (st := s_turn_product) l4 c4 k4, g_turn_product := PySem.W.mg_of X G a4,
    B_turn_product := (fun_mk (st := s_turn_product) l4 c4 k4).binds fun _ _ _ _ _ _ us hl => match us, hl with | [_, _], _ => rfl,
    a_turn_back := f5, fd_turn_back := (PySem.W.fnOf "turn_back" "turn_back" (defArgs s_turn_back) (defBody s_turn_back) (defScope s_turn_back) .none kV5 dc5 pm5 an5 cd5 ct5), F_turn_back := fun_mk (st := s_turn_back) l5 c5 k5, g_turn_back := PySem.W.mg_of X G a5,
    B_turn_back := (fun_mk (st := s_turn_back) l5 c5 k5).binds fun _ _ _ _ _ _ us hl => match us, hl with | [_], _ => rfl,
    a_turned_by := f6, fd_turned_by := (PySem.W.fnOf "turned_by" "turned_by" (defArgs s_turned_by) (defBody s_turned_by) (defScope s_turned_by) .none kV6 dc6 pm6 an6 cd6 ct6), F_turned_by := fun_mk (st := s_turned_by) l6 c6 k6, g_turned_by := PySem.W.mg_of X G a6,
    B_turned_by := (fun_mk (st := s_turned_by) l6 c6 k6).binds fun _ _ _ _ _ _ us hl => match us, hl with | [_, _], _ => rfl,
    a_turn_order := f7, fd_turn_order := (PySem.W.fnOf "turn_order" "turn_order" (defArgs s_turn_order) (defBody s_turn_order) (defScope s_turn_order) .none kV7 dc7 pm7 an7 cd7 ct7), F_turn_order := fun_mk (st := s_turn_order) l7 c7 k7, g_turn_order := PySem.W.mg_of X G a7,
    B_turn_order := (fun_mk (st := s_turn_order) l7 c7 k7).binds fun _ _ _ _ _ _ us hl => match us, hl with | [_], _ => rfl,
    a_centring := f8, fd_centring := (PySem.W.fnOf "centring" "centring" (defArgs s_centring) (defBody s_centring) (defScope s_centring) .none kV8 dc8 pm8 an8 cd8 ct8), F_centring := fun_mk (st := s_centring) l8 c8 k8, g_centring := PySem.W.mg_of X G a8,
    B_centring := (fun_mk (st := s_centring) l8 c8 k8).binds fun _ _ _ _ _ _ us hl => match us, hl with | [_], _ => rfl,
    a_leads := f9, fd_leads := (PySem.W.fnOf "leads" "leads" (defArgs s_leads) (defBody s_leads) (defScope s_leads) .none kV9 dc9 pm9 an9 cd9 ct9), F_leads := fun_mk (st := s_leads) l9 c9 k9, g_leads := PySem.W.mg_of X G a9,
    B_leads := (fun_mk (st := s_leads) l9 c9 k9).binds fun _ _ _ _ _ _ us hl => match us, hl with | [_, _, _], _ => rfl,
    a_settled := f10, fd_settled := (PySem.W.fnOf "settled" "settled" (defArgs s_settled) (defBody s_settled) (defScope s_settled) .none kV10 dc10 pm10 an10 cd10 ct10), F_settled := fun_mk (st := s_settled) l10 c10 k10, g_settled := PySem.W.mg_of X G a10,
    B_settled := (fun_mk (st := s_settled) l10 c10 k10).binds fun _ _ _ _ _ _ us hl => match us, hl with | [_], _ => rfl,
    a_finite_paper := f11, fd_finite_paper := (PySem.W.fnOf "finite_paper" "finite_paper" (defArgs s_finite_paper) (defBody s_finite_paper) (defScope s_finite_paper) .none kV11 dc11 pm11 an11 cd11 ct11), F_finite_paper := fun_mk (st := s_finite_paper) l11 c11 k11, g_finite_paper := PySem.W.mg_of X G a11,
    B_finite_paper := (fun_mk (st := s_finite_paper) l11 c11 k11).binds fun _ _ _ _ _ _ us hl => match us, hl with | [_], _ => rfl,
    a_shows_finite := f12, fd_shows_finite := (PySem.W.fnOf "shows_finite" "shows_finite" (defArgs s_shows_finite) (defBody s_shows_finite) (defScope s_shows_finite) .none kV12 dc12 pm12 an12 cd12 ct12), F_shows_finite := fun_mk (st := s_shows_finite) l12 c12 k12, g_shows_finite := PySem.W.mg_of X G a12,
    B_shows_finite := (fun_mk (st := s_shows_finite) l12 c12 k12).binds fun _ _ _ _ _ _ us hl => match us, hl with | [_, _, _], _ => rfl,
    a__law_draws := f13, fd__law_draws := (PySem.W.fnOf "_law_draws" "_law_draws" (defArgs s__law_draws) (defBody s__law_draws) (defScope s__law_draws) .none kV13 dc13 pm13 an13 cd13 ct13), F__law_draws := fun_mk (st := s__law_draws) l13 c13 k13, g__law_draws := PySem.W.mg_of X G a13,
    B__law_draws := (fun_mk (st := s__law_draws) l13 c13 k13).binds fun _ _ _ _ _ _ us hl => match us, hl with | [_, _], _ => rfl,
    a__law_is_number := f14, fd__law_is_number := (PySem.W.fnOf "_law_is_number" "_law_is_number" (defArgs s__law_is_number) (defBody s__law_is_number) (defScope s__law_is_number) .none kV14 dc14 pm14 an14 cd14 ct14), F__law_is_number := fun_mk (st := s__law_is_number) l14 c14 k14, g__law_is_number := PySem.W.mg_of X G a14,
    B__law_is_number := (fun_mk (st := s__law_is_number) l14 c14 k14).binds fun _ _ _ _ _ _ us hl => match us, hl with | [_], _ => rfl,
    a__law_is_tuple := f15, fd__law_is_tuple := (PySem.W.fnOf "_law_is_tuple" "_law_is_tuple" (defArgs s__law_is_tuple) (defBody s__law_is_tuple) (defScope s__law_is_tuple) .none kV15 dc15 pm15 an15 cd15 ct15), F__law_is_tuple := fun_mk (st := s__law_is_tuple) l15 c15 k15, g__law_is_tuple := PySem.W.mg_of X G a15,
    B__law_is_tuple := (fun_mk (st := s__law_is_tuple) l15 c15 k15).binds fun _ _ _ _ _ _ us hl => match us, hl with | [_, _], _ => rfl,
    a__law_same := f16, fd__law_same := (PySem.W.fnOf "_law_same" "_law_same" (defArgs s__law_same) (defBody s__law_same) (defScope s__law_same) .none kV16 dc16 pm16 an16 cd16 ct16), F__law_same := fun_mk (st := s__law_same) l16 c16 k16, g__law_same := PySem.W.mg_of X G a16,
    B__law_same := (fun_mk (st := s__law_same) l16 c16 k16).binds fun _ _ _ _ _ _ us hl => match us, hl with | [_, _], _ => rfl,
    a__law_fresh := f17, fd__law_fresh := (PySem.W.fnOf "_law_fresh" "_law_fresh" (defArgs s__law_fresh) (defBody s__law_fresh) (defScope s__law_fresh) .none kV17 dc17 pm17 an17 cd17 ct17), F__law_fresh := fun_mk (st := s__law_fresh) l17 c17 k17, g__law_fresh := PySem.W.mg_of X G a17,
    B__law_fresh := (fun_mk (st := s__law_fresh) l17 c17 k17).binds fun _ _ _ _ _ _ us hl => match us, hl with | [_], _ => rfl,
    a__law_even := f18, fd__law_even := (PySem.W.fnOf "_law_even" "_law_even" (defArgs s__law_even) (defBody s__law_even) (defScope s__law_even) .none kV18 dc18 pm18 an18 cd18 ct18), F__law_even := fun_mk (st := s__law_even) l18 c18 k18, g__law_even := PySem.W.mg_of X G a18,
    B__law_even := (fun_mk (st := s__law_even) l18 c18 k18).binds fun _ _ _ _ _ _ us hl => match us, hl with | [_, _, _, _], _ => rfl,
    a__law_times := f19, fd__law_times := (PySem.W.fnOf "_law_times" "_law_times" (defArgs s__law_times) (defBody s__law_times) (defScope s__law_times) .none kV19 dc19 pm19 an19 cd19 ct19), F__law_times := fun_mk (st := s__law_times) l19 c19 k19, g__law_times := PySem.W.mg_of X G a19,
    B__law_times := (fun_mk (st := s__law_times) l19 c19 k19).binds fun _ _ _ _ _ _ us hl => match us, hl with | [_, _], _ => rfl,
    a__law_word := f20, fd__law_word := (PySem.W.fnOf "_law_word" "_law_word" (defArgs s__law_word) (defBody s__law_word) (defScope s__law_word) .none kV20 dc20 pm20 an20 cd20 ct20), F__law_word := fun_mk (st := s__law_word) l20 c20 k20, g__law_word := PySem.W.mg_of X G a20,
    B__law_word := (fun_mk (st := s__law_word) l20 c20 k20).binds fun _ _ _ _ _ _ us hl => match us, hl with | [_, _, _, _], _ => rfl,
    a__law_of_word := f21, fd__law_of_word := (PySem.W.fnOf "_law_of_word" "_law_of_word" (defArgs s__law_of_word) (defBody s__law_of_word) (defScope s__law_of_word) .none kV21 dc21 pm21 an21 cd21 ct21), F__law_of_word := fun_mk (st := s__law_of_word) l21 c21 k21, g__law_of_word := PySem.W.mg_of X G a21,
    B__law_of_word := (fun_mk (st := s__law_of_word) l21 c21 k21).binds fun _ _ _ _ _ _ us hl => match us, hl with | [_], _ => rfl,
    a__law_is_turn := f22, fd__law_is_turn := (PySem.W.fnOf "_law_is_turn" "_law_is_turn" (defArgs s__law_is_turn) (defBody s__law_is_turn) (defScope s__law_is_turn) .none kV22 dc22 pm22 an22 cd22 ct22), F__law_is_turn := fun_mk (st := s__law_is_turn) l22 c22 k22, g__law_is_turn := PySem.W.mg_of X G a22,
    B__law_is_turn := (fun_mk (st := s__law_is_turn) l22 c22 k22).binds fun _ _ _ _ _ _ us hl => match us, hl with | [_], _ => rfl,
    a__law_leads := f23, fd__law_leads := (PySem.W.fnOf "_law_leads" "_law_leads" (defArgs s__law_leads) (defBody s__law_leads) (defScope s__law_leads) .none kV23 dc23 pm23 an23 cd23 ct23), F__law_leads := fun_mk (st := s__law_leads) l23 c23 k23, g__law_leads := PySem.W.mg_of X G a23,
    B__law_leads := (fun_mk (st := s__law_leads) l23 c23 k23).binds fun _ _ _ _ _ _ us hl => match us, hl with | [_, _, _], _ => rfl,
    a__law_by := f24, fd__law_by := (PySem.W.fnOf "_law_by" "_law_by" (defArgs s__law_by) (defBody s__law_by) (defScope s__law_by) .none kV24 dc24 pm24 an24 cd24 ct24), F__law_by := fun_mk (st := s__law_by) l24 c24 k24, g__law_by := PySem.W.mg_of X G a24,
    B__law_by := (fun_mk (st := s__law_by) l24 c24 k24).binds fun _ _ _ _ _ _ us hl => match us, hl with | [_, _], _ => rfl,
    a__law_standards := f25, fd__law_standards := (PySem.W.fnOf "_law_standards" "_law_standards" (defArgs s__law_standards) (defBody s__law_standards) (defScope s__law_standards) .none kV25 dc25 pm25 an25 cd25 ct25), F__law_standards := fun_mk (st := s__law_standards) l25 c25 k25, g__law_standards := PySem.W.mg_of X G a25,
    B__law_standards := (fun_mk (st := s__law_standards) l25 c25 k25).binds fun _ _ _ _ _ _ us hl => match us, hl with | [], _ => rfl,
    a__law_right := f26, fd__law_right := (PySem.W.fnOf "_law_right" "_law_right" (defArgs s__law_right) (defBody s__law_right) (defScope s__law_right) .none kV26 dc26 pm26 an26 cd26 ct26), F__law_right := fun_mk (st := s__law_right) l26 c26 k26, g__law_right := PySem.W.mg_of X G a26,
    B__law_right := (fun_mk (st := s__law_right) l26 c26 k26).binds fun _ _ _ _ _ _ us hl => match us, hl with | [_, _, _], _ => rfl,
    a__law_finite := f27, fd__law_finite := (PySem.W.fnOf "_law_finite" "_law_finite" (defArgs s__law_finite) (defBody s__law_finite) (defScope s__law_finite) .none kV27 dc27 pm27 an27 cd27 ct27), F__law_finite := fun_mk (st := s__law_finite) l27 c27 k27, g__law_finite := PySem.W.mg_of X G a27,
    B__law_finite := (fun_mk (st := s__law_finite) l27 c27 k27).binds fun _ _ _ _ _ _ us hl => match us, hl with | [_], _ => rfl,
    a__law_told := f28, fd__law_told := (PySem.W.fnOf "_law_told" "_law_told" (defArgs s__law_told) (defBody s__law_told) (defScope s__law_told) .none kV28 dc28 pm28 an28 cd28 ct28), F__law_told := fun_mk (st := s__law_told) l28 c28 k28, g__law_told := PySem.W.mg_of X G a28,
    B__law_told := (fun_mk (st := s__law_told) l28 c28 k28).binds fun _ _ _ _ _ _ us hl => match us, hl with | [_, _], _ => rfl,
    a__law_judged := f29, fd__law_judged := (PySem.W.fnOf "_law_judged" "_law_judged" (defArgs s__law_judged) (defBody s__law_judged) (defScope s__law_judged) .none kV29 dc29 pm29 an29 cd29 ct29), F__law_judged := fun_mk (st := s__law_judged) l29 c29 k29, g__law_judged := PySem.W.mg_of X G a29,
    B__law_judged := (fun_mk (st := s__law_judged) l29 c29 k29).binds fun _ _ _ _ _ _ us hl => match us, hl with | [_, _, _, _], _ => rfl,
    a_law := f30, fd_law := (PySem.W.fnOf "law" "law" (defArgs s_law) (defBody s_law) (defScope s_law) .none kV30 dc30 pm30 an30 cd30 ct30), F_law := fun_mk (st := s_law) l30 c30 k30, g_law := PySem.W.mg_of X G a30,
    B_law := (fun_mk (st := s_law) l30 c30 k30).binds fun _ _ _ _ _ _ us hl => match us, hl with | [_], _ => rfl,
    a_STILL := q0, g_STILL := PySem.W.mg_of X G b_STILL, d_STILL := fun H => by unfold c_STILL; exact (.tup (.inr ⟨_, _, _, m0, rfl, rfl, (by show 4 ≤ sizeLine; decide), (.cons (show RelV (.int 1) _ from ⟨_, rfl⟩) (.cons (show RelV (.int 0) _ from ⟨_, rfl⟩) (.cons (show RelV (.int 0) _ from ⟨_, rfl⟩) (.cons (show RelV (.int 1) _ from ⟨_, rfl⟩) Paired.nil))))⟩) (.cons (.int _) (.cons (.int _) (.cons (.int _) (.cons (.int _) DpAll.nil))))),
    a_HALF := q1, g_HALF := PySem.W.mg_of X G b_HALF, d_HALF := fun H => by unfold c_HALF; exact (.tup (.inr ⟨_, _, _, m1, rfl, rfl, (by show 4 ≤ sizeLine; decide), (.cons (show RelV (.int (-1)) _ from ⟨_, rfl⟩) (.cons (show RelV (.int 0) _ from ⟨_, rfl⟩) (.cons (show RelV (.int 0) _ from ⟨_, rfl⟩) (.cons (show RelV (.int (-1)) _ from ⟨_, rfl⟩) Paired.nil))))⟩) (.cons (.int _) (.cons (.int _) (.cons (.int _) (.cons (.int _) DpAll.nil))))),
    a_QUARTER := q2, g_QUARTER := PySem.W.mg_of X G b_QUARTER, d_QUARTER := fun H => by unfold c_QUARTER; exact (.tup (.inr ⟨_, _, _, m2, rfl, rfl, (by show 4 ≤ sizeLine; decide), (.cons (show RelV (.int 0) _ from ⟨_, rfl⟩) (.cons (show RelV (.int (-1)) _ from ⟨_, rfl⟩) (.cons (show RelV (.int 1) _ from ⟨_, rfl⟩) (.cons (show RelV (.int 0) _ from ⟨_, rfl⟩) Paired.nil))))⟩) (.cons (.int _) (.cons (.int _) (.cons (.int _) (.cons (.int _) DpAll.nil))))),
    a_ORDERS := q3, g_ORDERS := PySem.W.mg_of X G b_ORDERS, k_ORDERS := ⟨⟨_, _, m3, (.cons (by decide +kernel) (.cons (by decide +kernel) (.cons (by decide +kernel) .nil)))⟩, by decide, lo3⟩,
    a_STANDARDS := q4, g_STANDARDS := PySem.W.mg_of X G b_STANDARDS, d_STANDARDS := fun H => by unfold c_STANDARDS; exact (.tup (.inr ⟨_, _, _, m4, rfl, rfl, (by show 8 ≤ sizeLine; decide), (.cons (show RelV (.ref _) _ from rfl) (.cons (show RelV (.ref _) _ from rfl) (.cons (show RelV (.ref _) _ from rfl) (.cons (show RelV (.ref _) _ from rfl) (.cons (show RelV (.ref _) _ from rfl) (.cons (show RelV (.ref _) _ from rfl) (.cons (show RelV (.ref _) _ from rfl) (.cons (show RelV (.ref _) _ from rfl) Paired.nil))))))))⟩) (.cons (.tup (.inr ⟨_, _, _, m5, rfl, rfl, (by show 4 ≤ sizeLine; decide), (.cons (show RelV (.int 1) _ from ⟨_, rfl⟩) (.cons (show RelV (.int 0) _ from ⟨_, rfl⟩) (.cons (show RelV (.int 0) _ from ⟨_, rfl⟩) (.cons (show RelV (.int 1) _ from ⟨_, rfl⟩) Paired.nil))))⟩) (.cons (.int _) (.cons (.int _) (.cons (.int _) (.cons (.int _) DpAll.nil))))) (.cons (.tup (.inr ⟨_, _, _, m6, rfl, rfl, (by show 4 ≤ sizeLine; decide), (.cons (show RelV (.int (-1)) _ from ⟨_, rfl⟩) (.cons (show RelV (.int 0) _ from ⟨_, rfl⟩) (.cons (show RelV (.int 0) _ from ⟨_, rfl⟩) (.cons (show RelV (.int (-1)) _ from ⟨_, rfl⟩) Paired.nil))))⟩) (.cons (.int _) (.cons (.int _) (.cons (.int _) (.cons (.int _) DpAll.nil))))) (.cons (.tup (.inr ⟨_, _, _, m7, rfl, rfl, (by show 4 ≤ sizeLine; decide), (.cons (show RelV (.int 0) _ from ⟨_, rfl⟩) (.cons (show RelV (.int (-1)) _ from ⟨_, rfl⟩) (.cons (show RelV (.int 1) _ from ⟨_, rfl⟩) (.cons (show RelV (.int 0) _ from ⟨_, rfl⟩) Paired.nil))))⟩) (.cons (.int _) (.cons (.int _) (.cons (.int _) (.cons (.int _) DpAll.nil))))) (.cons (.tup (.inr ⟨_, _, _, m8, rfl, rfl, (by show 4 ≤ sizeLine; decide), (.cons (show RelV (.int 0) _ from ⟨_, rfl⟩) (.cons (show RelV (.int 1) _ from ⟨_, rfl⟩) (.cons (show RelV (.int (-1)) _ from ⟨_, rfl⟩) (.cons (show RelV (.int 0) _ from ⟨_, rfl⟩) Paired.nil))))⟩) (.cons (.int _) (.cons (.int _) (.cons (.int _) (.cons (.int _) DpAll.nil))))) (.cons (.tup (.inr ⟨_, _, _, m9, rfl, rfl, (by show 4 ≤ sizeLine; decide), (.cons (show RelV (.int 0) _ from ⟨_, rfl⟩) (.cons (show RelV (.int (-1)) _ from ⟨_, rfl⟩) (.cons (show RelV (.int 1) _ from ⟨_, rfl⟩) (.cons (show RelV (.int 1) _ from ⟨_, rfl⟩) Paired.nil))))⟩) (.cons (.int _) (.cons (.int _) (.cons (.int _) (.cons (.int _) DpAll.nil))))) (.cons (.tup (.inr ⟨_, _, _, m10, rfl, rfl, (by show 4 ≤ sizeLine; decide), (.cons (show RelV (.int 1) _ from ⟨_, rfl⟩) (.cons (show RelV (.int 1) _ from ⟨_, rfl⟩) (.cons (show RelV (.int (-1)) _ from ⟨_, rfl⟩) (.cons (show RelV (.int 0) _ from ⟨_, rfl⟩) Paired.nil))))⟩) (.cons (.int _) (.cons (.int _) (.cons (.int _) (.cons (.int _) DpAll.nil))))) (.cons (.tup (.inr ⟨_, _, _, m11, rfl, rfl, (by show 4 ≤ sizeLine; decide), (.cons (show RelV (.int 0) _ from ⟨_, rfl⟩) (.cons (show RelV (.int (-1)) _ from ⟨_, rfl⟩) (.cons (show RelV (.int 1) _ from ⟨_, rfl⟩) (.cons (show RelV (.int (-1)) _ from ⟨_, rfl⟩) Paired.nil))))⟩) (.cons (.int _) (.cons (.int _) (.cons (.int _) (.cons (.int _) DpAll.nil))))) (.cons (.tup (.inr ⟨_, _, _, m12, rfl, rfl, (by show 4 ≤ sizeLine; decide), (.cons (show RelV (.int (-1)) _ from ⟨_, rfl⟩) (.cons (show RelV (.int 1) _ from ⟨_, rfl⟩) (.cons (show RelV (.int (-1)) _ from ⟨_, rfl⟩) (.cons (show RelV (.int 0) _ from ⟨_, rfl⟩) Paired.nil))))⟩) (.cons (.int _) (.cons (.int _) (.cons (.int _) (.cons (.int _) DpAll.nil))))) DpAll.nil))))))))),
    a_SHIFTS := q13, g_SHIFTS := PySem.W.mg_of X G b_SHIFTS, d_SHIFTS := fun H => by unfold c_SHIFTS; exact (.tup (.inr ⟨_, _, _, m13, rfl, rfl, (by show 3 ≤ sizeLine; decide), (.cons (show RelV (.ref _) _ from rfl) (.cons (show RelV (.ref _) _ from rfl) (.cons (show RelV (.ref _) _ from rfl) Paired.nil)))⟩) (.cons (.tup (.inr ⟨_, _, _, m14, rfl, rfl, (by show 4 ≤ sizeLine; decide), (.cons (show RelV (.int 1) _ from ⟨_, rfl⟩) (.cons (show RelV (.int 0) _ from ⟨_, rfl⟩) (.cons (show RelV (.int 0) _ from ⟨_, rfl⟩) (.cons (show RelV (.int 1) _ from ⟨_, rfl⟩) Paired.nil))))⟩) (.cons (.int _) (.cons (.int _) (.cons (.int _) (.cons (.int _) DpAll.nil))))) (.cons (.tup (.inr ⟨_, _, _, m15, rfl, rfl, (by show 4 ≤ sizeLine; decide), (.cons (show RelV (.int 1) _ from ⟨_, rfl⟩) (.cons (show RelV (.int (-1)) _ from ⟨_, rfl⟩) (.cons (show RelV (.int 0) _ from ⟨_, rfl⟩) (.cons (show RelV (.int 1) _ from ⟨_, rfl⟩) Paired.nil))))⟩) (.cons (.int _) (.cons (.int _) (.cons (.int _) (.cons (.int _) DpAll.nil))))) (.cons (.tup (.inr ⟨_, _, _, m16, rfl, rfl, (by show 4 ≤ sizeLine; decide), (.cons (show RelV (.int 1) _ from ⟨_, rfl⟩) (.cons (show RelV (.int 1) _ from ⟨_, rfl⟩) (.cons (show RelV (.int 0) _ from ⟨_, rfl⟩) (.cons (show RelV (.int 1) _ from ⟨_, rfl⟩) Paired.nil))))⟩) (.cons (.int _) (.cons (.int _) (.cons (.int _) (.cons (.int _) DpAll.nil))))) DpAll.nil)))),
    x_EndlessGroup := Xx0, g_EndlessGroup := PySem.W.mg_of X G ga0,
    x_EndlessOrder := Xx1, g_EndlessOrder := PySem.W.mg_of X G ga1,
    x_GridError := Xx2, g_GridError := PySem.W.mg_of X G ga2,
    x_NotInCone := Xx3, g_NotInCone := PySem.W.mg_of X G ga3,
    z_super := PySem.W.mg_none_of X G ysup,
    X_EndlessOrder := ⟨⟨f_x1, _, _, _, _, _, _, _, _, _, _, _, { cls := ⟨_, _, _, _, _, _, _, _, _, _, _, _, _, _, _, xlx1, rvx1⟩, iC := iix1, tC := tix1, kC := kpx1, exC := bex1, tyC := tyx1, sa := sax1, sup := sup_of (show PySem.W.clsIn K Xx1 = some { name := nmx1, bases := bsx1, mro := .ref Xx1 :: .ref Ex1 :: tlx1, ns := Nx1, qualname := qnx1, hasDict := true, slotNames := snx1, subclasses := sbx1, abstract := abx1, collection := colx1, hasDel := false } from by unfold PySem.W.clsIn; rw [xlx1] <;> rfl) rfl cex1 rfl fex1, subV := svx1, subC := mcx1, third := thr, fn := ⟨_, _, _, _, _, _, _, _, _, _, _, _, _, _, _, _, _, _, fl_x1, cdix1, celx1, codx1, v2x1, filx1⟩, htop := htop }, rfl, rfl, rfl, by decide, by decide⟩⟩,
    C_EndlessOrder := ⟨hgx1, hkx1, bex1, hdx1, hax1, sgt, tkt, mox1⟩,
    k_EndlessOrder_EndlessGroup := kit_ref d_x1_x0 t_x1_x0 s_x1_x0 ssx1,
    k_EndlessOrder_GridError := kit_ref d_x1_x2 t_x1_x2 s_x1_x2 ssx1,
    k_EndlessOrder_NotInCone := kit_ref d_x1_x3 t_x1_x3 s_x1_x3 ssx1,
    k_EndlessOrder_ValueError := kit_ve svx1,
    m_EndlessOrder_EndlessOrder := PySem.W.exm_ref b_x1_x1 d_x1_x1 t_x1_x1 s_x1_x1,
    z_ValueError := PySem.W.mg_none_of X G y_ValueError,
    z_abs := PySem.W.mg_none_of X G y_abs,
    z_bool := PySem.W.mg_none_of X G y_bool,
    z_int := PySem.W.mg_none_of X G y_int,
    z_isinstance := PySem.W.mg_none_of X G y_isinstance,
    z_len := PySem.W.mg_none_of X G y_len,
    z_list := PySem.W.mg_none_of X G y_list,
    z_range := PySem.W.mg_none_of X G y_range,
    z_repr := PySem.W.mg_none_of X G y_repr,
    z_str := PySem.W.mg_none_of X G y_str,
    z_tuple := PySem.W.mg_none_of X G y_tuple }
  exact ⟨T.fd_law, fun s v => .of_eq rfl, fun base _ _ => ok_law T⟩
theorem off_nil (H : Hp) : off H [] = H := by
  funext b
  exact if_neg (by simp)
theorem start_law (K : PySem.W.Frag) (H : Hp) (a : Addr) (ns : List Int) (hl : ns.length ≤ 63) (hS : SqL K H a (ns.map V.int)) : spD K 1 f_law [.ref a] H (fun v _ => v = .bl true) E0 :=
  ⟨rfl, [.list (ns.map .int)], .sh (.bool true), [], (fun _ z => nomatch z), by rw [off_nil]; exact .cons (.lst hS (dpa_ints ns)) .nil, law_data ns hl, fun v H' _ z => z.to_bool⟩
end Lk76
open PySem PySem.W PyProof.Rows
set_option maxHeartbeats 0 in
theorem PySem.Challenge.cw_gridplots_k76_turns_of_finite_order_holds : PySem.Challenge.rw_gridplots_k76_turns_of_finite_order.Holds := by
  w_on; o_law; k_head; (case hw => w_witness2)
  k_fill
  refine F3.walkG (l := PySem.Challenge.rw_gridplots_k76_turns_of_finite_order) (n := 63) (k := 28) (x := "script") (sp := fun w => F3.spD _ 1 Lk76.f_law) rfl (by decide) rfl ⟨rfl, by decide, by decide⟩ (fun w h Y => PySem.W.kIn_of Y) ?F (fun _ H a ns hl _ hS => Lk76.start_law _ H a ns hl hS)
  case F =>
    intro w mg fa h KX G hmg
    refine' Lk76.all_mk KX G hmg ?a0 ?l0 ?c0 ?k0 ?a1 ?l1 ?c1 ?k1 ?a2 ?l2 ?c2 ?k2 ?a3 ?l3 ?c3 ?k3 ?a4 ?l4 ?c4 ?k4 ?a5 ?l5 ?c5 ?k5 ?a6 ?l6 ?c6 ?k6 ?a7 ?l7 ?c7 ?k7 ?a8 ?l8 ?c8 ?k8 ?a9 ?l9 ?c9 ?k9 ?a10 ?l10 ?c10 ?k10 ?a11 ?l11 ?c11 ?k11 ?a12 ?l12 ?c12 ?k12 ?a13 ?l13 ?c13 ?k13 ?a14 ?l14 ?c14 ?k14 ?a15 ?l15 ?c15 ?k15 ?a16 ?l16 ?c16 ?k16 ?a17 ?l17 ?c17 ?k17 ?a18 ?l18 ?c18 ?k18 ?a19 ?l19 ?c19 ?k19 ?a20 ?l20 ?c20 ?k20 ?a21 ?l21 ?c21 ?k21 ?a22 ?l22 ?c22 ?k22 ?a23 ?l23 ?c23 ?k23 ?a24 ?l24 ?c24 ?k24 ?a25 ?l25 ?c25 ?k25 ?a26 ?l26 ?c26 ?k26 ?a27 ?l27 ?c27 ?k27 ?a28 ?l28 ?c28 ?k28 ?a29 ?l29 ?c29 ?k29 ?a30 ?l30 ?c30 ?k30 ?b_STILL ?m0 ?b_HALF ?m1 ?b_QUARTER ?m2 ?b_ORDERS ?m3 ?lo3 ?b_STANDARDS ?m4 ?m5 ?m6 ?m7 ?m8 ?m9 ?m10 ?m11 ?m12 ?b_SHIFTS ?m13 ?m14 ?m15 ?m16 ?ga0 ?ga1 ?ga2 ?ga3 ?ysup ?thr ?sgt ?tkt ?htop ?xlx1 ?rvx1 ?cex1 ?fex1 ?iix1 ?tix1 ?kpx1 ?bex1 ?tyx1 ?sax1 ?svx1 ?mcx1 ?ssx1 ?hdx1 ?hgx1 ?hkx1 ?hax1 ?mox1 ?fl_x1 ?cdix1 ?celx1 ?codx1 ?v2x1 ?filx1 ?s_x1_x0 ?d_x1_x0 ?t_x1_x0 ?b_x1_x0 ?s_x1_x2 ?d_x1_x2 ?t_x1_x2 ?b_x1_x2 ?s_x1_x3 ?d_x1_x3 ?t_x1_x3 ?b_x1_x3 ?s_x1_x1 ?d_x1_x1 ?t_x1_x1 ?b_x1_x1 ?y_ValueError ?y_abs ?y_bool ?y_int ?y_isinstance ?y_len ?y_list ?y_range ?y_repr ?y_str ?y_tuple
    (case a0 => k_is)
    (case l0 => k_is)
    (case c0 => k_is)
    (case k0 => k_is)
    (case a1 => k_is)
    (case l1 => k_is)
    (case c1 => k_is)
    (case k1 => k_is)
    (case a2 => k_is)
    (case l2 => k_is)
    (case c2 => k_is)
    (case k2 => k_is)
    (case a3 => k_is)
    (case l3 => k_is)
    (case c3 => k_is)
    (case k3 => k_is)
    (case a4 => k_is)
    (case l4 => k_is)
    (case c4 => k_is)
    (case k4 => k_is)
    (case a5 => k_is)
    (case l5 => k_is)
    (case c5 => k_is)
    (case k5 => k_is)
    (case a6 => k_is)
    (case l6 => k_is)
    (case c6 => k_is)
    (case k6 => k_is)
    (case a7 => k_is)
    (case l7 => k_is)
    (case c7 => k_is)
    (case k7 => k_is)
    (case a8 => k_is)
    (case l8 => k_is)
    (case c8 => k_is)
    (case k8 => k_is)
    (case a9 => k_is)
    (case l9 => k_is)
    (case c9 => k_is)
    (case k9 => k_is)
    (case a10 => k_is)
    (case l10 => k_is)
    (case c10 => k_is)
    (case k10 => k_is)
    (case a11 => k_is)
    (case l11 => k_is)
    (case c11 => k_is)
    (case k11 => k_is)
    (case a12 => k_is)
    (case l12 => k_is)
    (case c12 => k_is)
    (case k12 => k_is)
    (case a13 => k_is)
    (case l13 => k_is)
    (case c13 => k_is)
    (case k13 => k_is)
    (case a14 => k_is)
    (case l14 => k_is)
    (case c14 => k_is)
    (case k14 => k_is)
    (case a15 => k_is)
    (case l15 => k_is)
    (case c15 => k_is)
    (case k15 => k_is)
    (case a16 => k_is)
    (case l16 => k_is)
    (case c16 => k_is)
    (case k16 => k_is)
    (case a17 => k_is)
    (case l17 => k_is)
    (case c17 => k_is)
    (case k17 => k_is)
    (case a18 => k_is)
    (case l18 => k_is)
    (case c18 => k_is)
    (case k18 => k_is)
    (case a19 => k_is)
    (case l19 => k_is)
    (case c19 => k_is)
    (case k19 => k_is)
    (case a20 => k_is)
    (case l20 => k_is)
    (case c20 => k_is)
    (case k20 => k_is)
    (case a21 => k_is)
    (case l21 => k_is)
    (case c21 => k_is)
    (case k21 => k_is)
    (case a22 => k_is)
    (case l22 => k_is)
    (case c22 => k_is)
    (case k22 => k_is)
    (case a23 => k_is)
    (case l23 => k_is)
    (case c23 => k_is)
    (case k23 => k_is)
    (case a24 => k_is)
    (case l24 => k_is)
    (case c24 => k_is)
    (case k24 => k_is)
    (case a25 => k_is)
    (case l25 => k_is)
    (case c25 => k_is)
    (case k25 => k_is)
    (case a26 => k_is)
    (case l26 => k_is)
    (case c26 => k_is)
    (case k26 => k_is)
    (case a27 => k_is)
    (case l27 => k_is)
    (case c27 => k_is)
    (case k27 => k_is)
    (case a28 => k_is)
    (case l28 => k_is)
    (case c28 => k_is)
    (case k28 => k_is)
    (case a29 => k_is)
    (case l29 => k_is)
    (case c29 => k_is)
    (case k29 => k_is)
    (case a30 => k_is)
    (case l30 => k_is)
    (case c30 => k_is)
    (case k30 => k_is)
    (case b_STILL => k_is)
    (case m0 => k_is)
    (case b_HALF => k_is)
    (case m1 => k_is)
    (case b_QUARTER => k_is)
    (case m2 => k_is)
    (case b_ORDERS => k_is)
    (case m3 => k_is)
    (case b_STANDARDS => k_is)
    (case m4 => k_is)
    (case m5 => k_is)
    (case m6 => k_is)
    (case m7 => k_is)
    (case m8 => k_is)
    (case m9 => k_is)
    (case m10 => k_is)
    (case m11 => k_is)
    (case m12 => k_is)
    (case b_SHIFTS => k_is)
    (case m13 => k_is)
    (case m14 => k_is)
    (case m15 => k_is)
    (case m16 => k_is)
    (case ga0 => k_is)
    (case ga1 => k_is)
    (case ga2 => k_is)
    (case ga3 => k_is)
    (case ysup => k_is)
    (case thr => k_is)
    (case sgt => k_is)
    (case tkt => k_is)
    (case xlx1 => k_is)
    (case cex1 => k_is)
    (case fex1 => k_is)
    (case iix1 => k_is)
    (case tix1 => k_is)
    (case kpx1 => k_is)
    (case bex1 => k_is)
    (case tyx1 => k_is)
    (case sax1 => k_is)
    (case svx1 => k_is)
    (case mcx1 => k_is)
    (case ssx1 => k_is)
    (case hdx1 => k_is)
    (case hgx1 => k_is)
    (case hkx1 => k_is)
    (case hax1 => k_is)
    (case mox1 => k_is)
    (case fl_x1 => k_is)
    (case cdix1 => k_is)
    (case celx1 => k_is)
    (case codx1 => k_is)
    (case s_x1_x0 => k_is)
    (case d_x1_x0 => k_is)
    (case t_x1_x0 => k_is)
    (case b_x1_x0 => k_is)
    (case s_x1_x2 => k_is)
    (case d_x1_x2 => k_is)
    (case t_x1_x2 => k_is)
    (case b_x1_x2 => k_is)
    (case s_x1_x3 => k_is)
    (case d_x1_x3 => k_is)
    (case t_x1_x3 => k_is)
    (case b_x1_x3 => k_is)
    (case s_x1_x1 => k_is)
    (case d_x1_x1 => k_is)
    (case t_x1_x1 => k_is)
    (case b_x1_x1 => k_is)
    (case y_ValueError => k_is)
    (case y_abs => k_is)
    (case y_bool => k_is)
    (case y_int => k_is)
    (case y_isinstance => k_is)
    (case y_len => k_is)
    (case y_list => k_is)
    (case y_range => k_is)
    (case y_repr => k_is)
    (case y_str => k_is)
    (case y_tuple => k_is)
    (case lo3 => first | rfl | decide +kernel)
    (case htop => first | rfl | decide +kernel)
    (case rvx1 => first | rfl | decide +kernel)
    (case v2x1 => first | rfl | decide +kernel)
    (case filx1 => first | rfl | decide +kernel)
