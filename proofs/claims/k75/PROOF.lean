import PyProof.Rows.All
import Wide.All
import OpenK.AllK
import Wide.FinOn
import HandS.ForMost
import HandS.IsInst
import HandS.Wide
import HandS.Deep
import HandS.TupAny
import HandS.RaiseMore
import PySem.Challenge.RW_gridplots_k75_whole_kinds_by_search
set_option Elab.async false
set_option linter.all false
set_option maxRecDepth 100000
/-! F3: a data-level reading of defs, over the hand layer -/
namespace F3
open PySem PySem.Spec PyProof.Rows L2

/-- a value as data: shared; a fresh list of the running def's; a list of a slot's own -/
inductive Res where
  | sh (d : PyData)
  | fr (ds : List PyData)
  | bo (ds : List PyData)
@[simp] def Res.dat : Res → PyData
  | .sh d => d
  | .fr ds => .list ds
  | .bo ds => .list ds
abbrev Rh := List (Option Res)

/-! ### heaps -/
def off (H : Hp) (O : List Addr) : Hp := fun b => if b ∈ O then none else H b
theorem off_in {H : Hp} {O : List Addr} {b : Addr} (h : b ∈ O) : off H O b = none := if_pos h
theorem off_out {H : Hp} {O : List Addr} {b : Addr} (h : b ∉ O) : off H O b = H b := if_neg h
theorem off_some {H : Hp} {O : List Addr} {b : Addr} {o : HO} (h : off H O b = some o) : b ∉ O ∧ H b = some o := by
  by_cases hb : b ∈ O
  · rw [off_in hb] at h; cases h
  · rw [off_out hb] at h; exact ⟨hb, h⟩
theorem off_same {H H' : Hp} {O : List Addr} (e : Same H H') : Same (off H O) (off H' O) := fun b o h => by
  obtain ⟨hb, h⟩ := off_some h
  rw [off_out hb]; exact e _ _ h
theorem off_le {H : Hp} {O : List Addr} : Same (off H O) H := fun b o h => (off_some h).2
theorem off_sub {H : Hp} {O O' : List Addr} (s : ∀ b ∈ O', b ∈ O) : Same (off H O) (off H O') := fun b o h => by
  obtain ⟨hb, h⟩ := off_some h
  rw [off_out fun z => hb (s b z)]; exact h
theorem off_new {H : Hp} {O : List Addr} {p : Addr} (h : H p = none) : Same (off H O) (off H (p :: O)) := fun b o e => by
  obtain ⟨hb, e⟩ := off_some e
  rw [off_out fun z => ?_]
  · exact e
  · rcases List.mem_cons.mp z with z | z
    · rw [z, h] at e; cases e
    · exact hb z
theorem off_upd {H : Hp} {O : List Addr} {p : Addr} {o : HO} (h : p ∈ O) : off (upd H p o) O = off H O := by
  funext b
  by_cases hb : b ∈ O
  · rw [off_in hb, off_in hb]
  · rw [off_out hb, off_out hb, upd_ne fun z => hb (by rw [z]; exact h)]
theorem same_new {H : Hp} {p : Addr} {o : HO} (h : H p = none) : Same H (upd H p o) := fun b u e => by
  rw [upd_ne (ne_of_none e h)]; exact e

section
variable {K : PySem.W.Frag} {H H' : Hp}
theorem Same.tup {a : Addr} {xs : List V} (e : Same H H') (h : SqT K H a xs) : SqT K H' a xs := by
  rcases h with (h | ⟨o, h⟩) | h
  · exact .inl (.inl (e _ _ h))
  · exact .inl (.inr ⟨o, e _ _ h⟩)
  · exact .inr h
mutual
theorem dp_mono (e : Same H H') : ∀ (d : PyData) (v : V), Dp K H v d → Dp K H' v d
  | .none, _, h => by cases h; exact .non
  | .bool b, _, h => by cases h; exact .bl b
  | .int i, _, h => by cases h; exact .int i
  | .str x, _, h => by cases h; exact .str x
  | .list ds, _, h => by
    cases h with
    | lst hs ha => exact .lst (e.seq hs) (dpa_mono e ds _ ha)
  | .tuple ds, _, h => by
    cases h with
    | tup hs ha => exact .tup (Same.tup e hs) (dpa_mono e ds _ ha)
  | .dict _, _, h => by cases h
theorem dpa_mono (e : Same H H') : ∀ (ds : List PyData) (vs : List V), DpAll K H vs ds → DpAll K H' vs ds
  | [], _, h => by cases h; exact .nil
  | d :: ds, _, h => by
    cases h with
    | cons h1 h2 => exact .cons (dp_mono e d _ h1) (dpa_mono e ds _ h2)
end
theorem dpa_len : ∀ {ds : List PyData} {vs : List V}, DpAll K H vs ds → vs.length = ds.length
  | [], _, h => by cases h; rfl
  | d :: ds, _, h => by
    cases h with
    | cons h1 h2 => rw [List.length_cons, List.length_cons, dpa_len h2]
theorem dpa_get : ∀ {ds : List PyData} {vs : List V} {i : Nat} {d : PyData}, DpAll K H vs ds → ds[i]? = some d → ∃ v, vs[i]? = some v ∧ Dp K H v d
  | [], _, _, _, _, e => by simp at e
  | d :: ds, _, 0, _, h, e => by
    cases h with
    | cons h1 h2 =>
      simp at e; subst e
      exact ⟨_, rfl, h1⟩
  | d :: ds, _, i + 1, x, h, e => by
    cases h with
    | cons h1 h2 =>
      obtain ⟨v, e1, e2⟩ := dpa_get (i := i) (d := x) h2 (by simpa using e)
      exact ⟨v, by simpa using e1, e2⟩
theorem dpa_get' : ∀ {ds : List PyData} {vs : List V} {i : Nat} {v : V}, DpAll K H vs ds → vs[i]? = some v → ∃ d, ds[i]? = some d ∧ Dp K H v d
  | [], _, _, _, h, e => by cases h; simp at e
  | d :: ds, _, 0, _, h, e => by
    cases h with
    | cons h1 h2 =>
      simp at e; subst e
      exact ⟨_, rfl, h1⟩
  | d :: ds, _, i + 1, x, h, e => by
    cases h with
    | cons h1 h2 =>
      obtain ⟨v, e1, e2⟩ := dpa_get' (i := i) (v := x) h2 (by simpa using e)
      exact ⟨v, by simpa using e1, e2⟩
theorem dpa_append : ∀ {ds es : List PyData} {vs ws : List V}, DpAll K H vs ds → DpAll K H ws es → DpAll K H (vs ++ ws) (ds ++ es)
  | [], _, _, _, h, g => by cases h; exact g
  | _ :: _, _, _, _, h, g => by
    cases h with
    | cons h1 h2 => exact .cons h1 (dpa_append h2 g)
theorem dpa_take : ∀ (n : Nat) {ds : List PyData} {vs : List V}, DpAll K H vs ds → DpAll K H (vs.take n) (ds.take n)
  | 0, _, _, _ => .nil
  | n + 1, [], _, h => by cases h; exact .nil
  | n + 1, _ :: _, _, h => by
    cases h with
    | cons h1 h2 => exact .cons h1 (dpa_take n h2)
theorem dpa_drop : ∀ (n : Nat) {ds : List PyData} {vs : List V}, DpAll K H vs ds → DpAll K H (vs.drop n) (ds.drop n)
  | 0, _, _, h => h
  | n + 1, [], _, h => by cases h; exact .nil
  | n + 1, _ :: _, _, h => by
    cases h with
    | cons h1 h2 => exact dpa_drop n h2
theorem dpa_set : ∀ (i : Nat) {ds : List PyData} {vs : List V} {d : PyData} {v : V}, DpAll K H vs ds → Dp K H v d → DpAll K H (vs.set i v) (ds.set i d)
  | _, [], _, _, _, h, _ => by cases h; exact .nil
  | 0, _ :: _, _, _, _, h, g => by
    cases h with
    | cons h1 h2 => exact .cons g h2
  | i + 1, _ :: _, _, _, _, h, g => by
    cases h with
    | cons h1 h2 => exact .cons h1 (dpa_set i h2 g)
theorem dpa_dropLast {ds : List PyData} {vs : List V} (h : DpAll K H vs ds) : DpAll K H vs.dropLast ds.dropLast := by
  rw [List.dropLast_eq_take, List.dropLast_eq_take, dpa_len h]
  exact dpa_take _ h
theorem dpa_reverse : ∀ {ds : List PyData} {vs : List V}, DpAll K H vs ds → DpAll K H vs.reverse ds.reverse
  | [], _, h => by cases h; exact .nil
  | _ :: _, _, h => by
    cases h with
    | cons h1 h2 =>
      rw [List.reverse_cons, List.reverse_cons]
      exact dpa_append (dpa_reverse h2) (.cons h1 .nil)
theorem dpa_ints : ∀ (ns : List Int), DpAll K H (ns.map V.int) (ns.map PyData.int)
  | [] => .nil
  | n :: ns => .cons (.int n) (dpa_ints ns)
theorem dpa_toInts : ∀ {ns : List Int} {vs : List V}, DpAll K H vs (ns.map PyData.int) → vs = ns.map V.int
  | [], _, h => by cases h; rfl
  | n :: ns, _, h => by
    cases h with
    | cons h1 h2 => cases h1; rw [dpa_toInts h2]; rfl
theorem dpa_toBools : ∀ {ns : List Bool} {vs : List V}, DpAll K H vs (ns.map PyData.bool) → vs = ns.map V.bl
  | [], _, h => by cases h; rfl
  | n :: ns, _, h => by
    cases h with
    | cons h1 h2 => cases h1; rw [dpa_toBools h2]; rfl
end

/-! ### values -/
/-- H0: at the def's entry; Z: what its callers own; O: what is owned now -/
structure Bs (H0 : Hp) (Z O : List Addr) (H : Hp) : Prop where
  same : Same H0 H
  zo : ∀ p ∈ Z, p ∈ O
  z0 : ∀ p ∈ Z, ∃ o, H0 p = some o
  live : ∀ p ∈ O, ∃ o, H p = some o
theorem Bs.mono {H0 H H' : Hp} {Z O : List Addr} (b : Bs H0 Z O H) (e : Same H H') : Bs H0 Z O H' :=
  ⟨b.same.trans e, b.zo, b.z0, fun p hp => let ⟨o, h⟩ := b.live p hp; ⟨o, e _ _ h⟩⟩
theorem Bs.new {H0 H : Hp} {Z O : List Addr} {p : Addr} (b : Bs H0 Z O H) (h : H p = none) : p ∉ O ∧ H0 p = none :=
  ⟨fun hp => (by
    obtain ⟨o, e⟩ := b.live p hp
    rw [h] at e
    cases e), b.same.free h⟩
theorem Bs.nz {H0 H : Hp} {Z O : List Addr} {p : Addr} (b : Bs H0 Z O H) (h : H0 p = none) : p ∉ Z := fun hz => by
  obtain ⟨o, e⟩ := b.z0 p hz
  rw [h] at e
  cases e

/-- v is r, in the heap H of a def entered at H0; a fresh list is younger than Hs; the lists at O are owned -/
def Vl (K : PySem.W.Frag) (H0 Hs : Hp) (O : List Addr) (H : Hp) : Res → V → Prop
  | .sh d, v => Dp K (off H O) v d
  | .fr ds, v => ∃ p vs, v = .ref p ∧ Hs p = none ∧ p ∉ O ∧ H p = some (.lst vs) ∧ DpAll K (off H (p :: O)) vs ds
  | .bo ds, v => ∃ p vs, v = .ref p ∧ H0 p = none ∧ p ∈ O ∧ H p = some (.lst vs) ∧ DpAll K (off H O) vs ds
/-- shared, if it is no slot's own -/
def Res.shr : Res → Option PyData
  | .sh d => some d
  | .fr ds => some (.list ds)
  | .bo _ => none
/-- the items of a list, whoever owns it: they are shared -/
def Res.lst : Res → Option (List PyData)
  | .sh (.list ds) => some ds
  | .fr ds => some ds
  | .bo ds => some ds
  | _ => none
def Res.tup : Res → Option (List PyData)
  | .sh (.tuple ds) => some ds
  | _ => none
section
variable {K : PySem.W.Frag} {H0 Hs H H' : Hp} {Z O : List Addr}
theorem Vl.anti {r : Res} {v : V} {Hs' : Hp} (h : Vl K H0 Hs' O H r v) (e : Same Hs Hs') : Vl K H0 Hs O H r v := by
  cases r with
  | sh d => exact h
  | fr ds =>
    obtain ⟨p, vs, h1, h2, h3⟩ := h
    exact ⟨p, vs, h1, e.free h2, h3⟩
  | bo ds => exact h
theorem Vl.mono {r : Res} {v : V} (h : Vl K H0 Hs O H r v) (e : Same H H') : Vl K H0 Hs O H' r v := by
  cases r with
  | sh d => exact dp_mono (off_same e) d v h
  | fr ds =>
    obtain ⟨p, vs, h1, h2, h3, h4, h5⟩ := h
    exact ⟨p, vs, h1, h2, h3, e _ _ h4, dpa_mono (off_same e) ds vs h5⟩
  | bo ds =>
    obtain ⟨p, vs, h1, h2, h3, h4, h5⟩ := h
    exact ⟨p, vs, h1, h2, h3, e _ _ h4, dpa_mono (off_same e) ds vs h5⟩
theorem Vl.full {r : Res} {v : V} (h : Vl K H0 Hs O H r v) : Dp K H v r.dat := by
  cases r with
  | sh d => exact dp_mono off_le d v h
  | fr ds =>
    obtain ⟨p, vs, rfl, h2, h3, h4, h5⟩ := h
    exact .lst (SqL.of h4) (dpa_mono off_le ds vs h5)
  | bo ds =>
    obtain ⟨p, vs, rfl, h2, h3, h4, h5⟩ := h
    exact .lst (SqL.of h4) (dpa_mono off_le ds vs h5)
theorem Vl.shr {r : Res} {d : PyData} {v : V} (h : Vl K H0 Hs O H r v) (e : r.shr = some d) : Dp K (off H O) v d := by
  cases r with
  | sh d' => cases e; exact h
  | fr ds =>
    cases e
    obtain ⟨p, vs, rfl, h2, h3, h4, h5⟩ := h
    exact .lst (SqL.of (by rw [off_out h3]; exact h4)) (dpa_mono (off_sub fun b hb => List.mem_cons_of_mem _ hb) ds vs h5)
  | bo ds => cases e
theorem Vl.lst {r : Res} {ds : List PyData} {v : V} (h : Vl K H0 Hs O H r v) (e : r.lst = some ds) : ∃ p vs, v = .ref p ∧ SqL K H p vs ∧ DpAll K (off H O) vs ds := by
  cases r with
  | sh d =>
    cases d <;> simp only [Res.lst] at e <;> try (cases e; done)
    cases e
    have h : Dp K (off H O) v (.list _) := h
    cases h with
    | lst hs ha => exact ⟨_, _, rfl, off_le.seq hs, ha⟩
  | fr ds =>
    cases e
    obtain ⟨p, vs, rfl, h2, h3, h4, h5⟩ := h
    exact ⟨p, vs, rfl, SqL.of h4, dpa_mono (off_sub fun b hb => List.mem_cons_of_mem _ hb) ds vs h5⟩
  | bo ds =>
    cases e
    obtain ⟨p, vs, rfl, h2, h3, h4, h5⟩ := h
    exact ⟨p, vs, rfl, SqL.of h4, h5⟩
theorem Vl.tup {r : Res} {ds : List PyData} {v : V} (h : Vl K H0 Hs O H r v) (e : r.tup = some ds) : ∃ p vs, v = .ref p ∧ SqT K (off H O) p vs ∧ DpAll K (off H O) vs ds := by
  cases r with
  | sh d =>
    cases d <;> simp only [Res.tup] at e <;> try (cases e; done)
    cases e
    have h : Dp K (off H O) v (.tuple _) := h
    cases h with
    | tup hs ha => exact ⟨_, _, rfl, hs, ha⟩
  | fr ds => cases e
  | bo ds => cases e
theorem Vl.int {i : Int} : Vl K H0 Hs O H (.sh (.int i)) (.int i) := Dp.int i
theorem Vl.bool {b : Bool} : Vl K H0 Hs O H (.sh (.bool b)) (.bl b) := Dp.bl b
theorem Vl.none : Vl K H0 Hs O H (.sh .none) .non := Dp.non
theorem Vl.str {b : Str} : Vl K H0 Hs O H (.sh (.str b)) (.str b) := Dp.str b
theorem Vl.to_int {i : Int} {v : V} (h : Vl K H0 Hs O H (.sh (.int i)) v) : v = .int i := by
  have h : Dp K (off H O) v (.int i) := h
  cases h; rfl
theorem Vl.to_bool {i : Bool} {v : V} (h : Vl K H0 Hs O H (.sh (.bool i)) v) : v = .bl i := by
  have h : Dp K (off H O) v (.bool i) := h
  cases h; rfl
theorem Vl.to_str {i : Str} {v : V} (h : Vl K H0 Hs O H (.sh (.str i)) v) : v = .str i := by
  have h : Dp K (off H O) v (.str i) := h
  cases h; rfl
theorem Vl.to_none {v : V} (h : Vl K H0 Hs O H (.sh .none) v) : v = .non := by
  have h : Dp K (off H O) v .none := h
  cases h; rfl
/-- a new list -/
theorem Vl.newL {p : Addr} {vs : List V} {ds : List PyData} (b : Bs H0 Z O H) (e : Same Hs H) (h : H p = Option.none) (hd : DpAll K (off H O) vs ds) : Vl K H0 Hs O (upd H p (.lst vs)) (.fr ds) (.ref p) :=
  ⟨p, vs, rfl, e.free h, (b.new h).1, upd_same, dpa_mono ((off_new h).trans (off_same (same_new h))) ds vs hd⟩
theorem Vl.newT {p : Addr} {vs : List V} {ds : List PyData} (b : Bs H0 Z O H) (h : H p = Option.none) (hd : DpAll K (off H O) vs ds) : Vl K H0 Hs O (upd H p (.tup vs)) (.sh (.tuple ds)) (.ref p) := by
  refine Dp.tup (SqT.of (a := p) ?_) (dpa_mono (off_same (same_new h)) ds vs hd)
  rw [off_out (b.new h).1]; exact upd_same
end

/-! ### states -/
structure Cor (K : PySem.W.Frag) (H0 : Hp) (Z O : List Addr) (ρ : Rh) (σ : L2.St) (H : Hp) : Prop where
  bs : Bs H0 Z O H
  sl : ∀ (i : Nat) (r : Res), ρ[i]? = some (some r) → ∃ v, σ[i]? = some (some v) ∧ Vl K H0 H0 O H r v ∧ ∀ ds, r ≠ .fr ds
  di : ∀ (i j : Nat) (ds es : List PyData) (p : Addr), i ≠ j → ρ[i]? = some (some (.bo ds)) → ρ[j]? = some (some (.bo es)) → σ[i]? = some (some (.ref p)) → σ[j]? = some (some (.ref p)) → False
  len : ρ.length = σ.length
section
variable {K : PySem.W.Frag} {H0 H H' : Hp} {Z O O' : List Addr} {ρ : Rh} {σ : L2.St}
theorem Cor.mono (c : Cor K H0 Z O ρ σ H) (e : Same H H') : Cor K H0 Z O ρ σ H' :=
  ⟨c.bs.mono e, fun i r h => let ⟨v, h1, h2, h3⟩ := c.sl i r h; ⟨v, h1, h2.mono e, h3⟩, c.di, c.len⟩
theorem set_some {α : Type} {l : List (Option α)} {i j : Nat} {a : α} (h : (l.set i none)[j]? = some (some a)) : l[j]? = some (some a) := by
  by_cases hj : i = j
  · subst hj
    by_cases hl : i < l.length
    · rw [List.getElem?_set_self hl] at h; cases h
    · rw [List.getElem?_eq_none (by simpa using hl)] at h; cases h
  · rwa [List.getElem?_set_ne hj] at h
/-- forget a slot -/
theorem Cor.forget (c : Cor K H0 Z O ρ σ H) (i : Nat) : Cor K H0 Z O (ρ.set i none) σ H :=
  ⟨c.bs, fun j r h => c.sl j r (set_some h), fun a b ds es p hab ha hb => c.di a b ds es p hab (set_some ha) (set_some hb), by rw [List.length_set]; exact c.len⟩
theorem set_get {α : Type} {l : List α} {i j : Nat} {a b : α} (h : (l.set i a)[j]? = some b) : (j = i ∧ b = a ∧ i < l.length) ∨ (j ≠ i ∧ l[j]? = some b) := by
  by_cases hj : i = j
  · subst hj
    by_cases hl : i < l.length
    · rw [List.getElem?_set_self hl] at h; cases h; exact .inl ⟨rfl, rfl, hl⟩
    · rw [List.getElem?_eq_none (by simpa using hl)] at h; cases h
  · rw [List.getElem?_set_ne hj] at h; exact .inr ⟨fun e => hj e.symm, h⟩
/-- store a shared value -/
theorem Cor.setS (c : Cor K H0 Z O ρ σ H) (i : Nat) {d : PyData} {v : V} (h : Dp K (off H O) v d) : Cor K H0 Z O (ρ.set i (some (.sh d))) (σ.set i (some v)) H := by
  refine ⟨c.bs, fun j r e => ?_, fun a b ds es p hab ha hb sa sb => ?_, by rw [List.length_set, List.length_set]; exact c.len⟩
  · rcases set_get e with ⟨rfl, e, hl⟩ | ⟨hj, e⟩
    · cases e
      exact ⟨v, List.getElem?_set_self (by rw [← c.len]; exact hl), h, fun _ z => by cases z⟩
    · rw [List.getElem?_set_ne hj.symm]; exact c.sl j r e
  · rcases set_get ha with ⟨_, e, _⟩ | ⟨h1, ha⟩
    · cases e
    · rcases set_get hb with ⟨_, e, _⟩ | ⟨h2, hb⟩
      · cases e
      · rw [List.getElem?_set_ne h1.symm] at sa
        rw [List.getElem?_set_ne h2.symm] at sb
        exact c.di a b ds es p hab ha hb sa sb
/-- store a fresh list: the slot owns it -/
theorem Cor.setF (c : Cor K H0 Z O ρ σ H) (e : Same H H') (i : Nat) {ds : List PyData} {p : Addr} {vs : List V} (h2 : H p = none) (h3 : p ∉ O) (h4 : H' p = some (.lst vs)) (h5 : DpAll K (off H' (p :: O)) vs ds) :
    Cor K H0 Z (p :: O) (ρ.set i (some (.bo ds))) (σ.set i (some (.ref p))) H' ∧ Same (off H O) (off H' (p :: O)) := by
  have sm : Same (off H O) (off H' (p :: O)) := (off_new h2).trans (off_same e)
  have b := c.bs.mono e
  have old : ∀ (j : Nat) (q : Addr) (xs : List PyData), ρ[j]? = some (some (.bo xs)) → σ[j]? = some (some (.ref q)) → q ≠ p := fun j q xs ej es => by
    obtain ⟨w, e1, ⟨q', ws, rfl, g0, gp, _⟩, _⟩ := c.sl j _ ej
    rw [es] at e1
    cases e1
    exact fun z => h3 (z ▸ gp)
  refine ⟨⟨⟨b.same, fun q hq => List.mem_cons_of_mem _ (b.zo q hq), b.z0, fun q hq => ?_⟩, fun j r ej => ?_, fun a b xs ys q hab ha hb sa sb => ?_, by rw [List.length_set, List.length_set]; exact c.len⟩, sm⟩
  · rcases List.mem_cons.mp hq with rfl | hq
    · exact ⟨_, h4⟩
    · exact b.live q hq
  · rcases set_get ej with ⟨rfl, ej, hl⟩ | ⟨hj, ej⟩
    · cases ej
      exact ⟨.ref p, List.getElem?_set_self (by rw [← c.len]; exact hl), ⟨p, vs, rfl, c.bs.same.free h2, List.mem_cons_self, h4, h5⟩, fun _ z => by cases z⟩
    · rw [List.getElem?_set_ne hj.symm]
      obtain ⟨w, e1, e2, e3⟩ := c.sl j r ej
      refine ⟨w, e1, ?_, e3⟩
      cases r with
      | sh d => exact dp_mono sm d w e2
      | fr xs => exact absurd rfl (e3 xs)
      | bo xs =>
        obtain ⟨q, ws, rfl, g0, gp, gl, gd⟩ := e2
        exact ⟨q, ws, rfl, g0, List.mem_cons_of_mem _ gp, e _ _ gl, dpa_mono sm xs ws gd⟩
  · rcases set_get ha with ⟨z1, ea, hl⟩ | ⟨h1, ha'⟩
    · rcases set_get hb with ⟨z2, _, _⟩ | ⟨h2', hb'⟩
      · exact hab (z1.trans z2.symm)
      · rw [z1, List.getElem?_set_self (by rw [← c.len]; exact hl)] at sa
        cases sa
        rw [List.getElem?_set_ne h2'.symm] at sb
        exact old _ _ _ hb' sb rfl
    · rcases set_get hb with ⟨z2, eb, hl⟩ | ⟨h2', hb'⟩
      · rw [z2, List.getElem?_set_self (by rw [← c.len]; exact hl)] at sb
        cases sb
        rw [List.getElem?_set_ne h1.symm] at sa
        exact old _ _ _ ha' sa rfl
      · rw [List.getElem?_set_ne h1.symm] at sa
        rw [List.getElem?_set_ne h2'.symm] at sb
        exact c.di _ _ xs ys q hab ha' hb' sa sb
/-- a slot's list is shared from now on -/
theorem Cor.freeze (c : Cor K H0 Z O ρ σ H) {i : Nat} {ds : List PyData} (e : ρ[i]? = some (some (.bo ds))) :
    ∃ O', Cor K H0 Z O' (ρ.set i (some (.sh (.list ds)))) σ H ∧ Same (off H O) (off H O') := by
  obtain ⟨v, h1, ⟨p, vs, rfl, h0, hp, hl, hd⟩, _⟩ := c.sl i _ e
  have sub : ∀ b ∈ O.filter (fun b => b != p), b ∈ O := fun b hb => (List.mem_filter.mp hb).1
  have np : p ∉ O.filter (fun b => b != p) := fun z => absurd rfl (bne_iff_ne.mp (List.mem_filter.mp z).2)
  have sm : Same (off H O) (off H (O.filter (fun b => b != p))) := off_sub sub
  have hi : i < ρ.length := (List.getElem?_eq_some_iff.mp e).1
  refine ⟨_, ⟨⟨c.bs.same, fun q hq => List.mem_filter.mpr ⟨c.bs.zo q hq, bne_iff_ne.mpr fun z => c.bs.nz h0 (by rw [← z]; exact hq)⟩, c.bs.z0, fun q hq => c.bs.live q (sub q hq)⟩, fun j r ej => ?_, fun a b xs ys q hab ha hb sa sb => ?_, by rw [List.length_set]; exact c.len⟩, sm⟩
  · rcases set_get ej with ⟨rfl, ej, _⟩ | ⟨hj, ej⟩
    · cases ej
      exact ⟨_, h1, Dp.lst (SqL.of (by rw [off_out np]; exact hl)) (dpa_mono sm ds vs hd), fun _ z => by cases z⟩
    · obtain ⟨w, e1, e2, e3⟩ := c.sl j r ej
      refine ⟨w, e1, ?_, e3⟩
      cases r with
      | sh d => exact dp_mono sm d w e2
      | fr xs => exact absurd rfl (e3 xs)
      | bo xs =>
        obtain ⟨q, ws, rfl, g0, gp, gl, gd⟩ := e2
        refine ⟨q, ws, rfl, g0, List.mem_filter.mpr ⟨gp, bne_iff_ne.mpr fun z => ?_⟩, gl, dpa_mono sm xs ws gd⟩
        subst z
        exact c.di j i xs ds q hj ej e e1 h1
  · rcases set_get ha with ⟨_, ea, _⟩ | ⟨_, ha⟩
    · cases ea
    · rcases set_get hb with ⟨_, eb, _⟩ | ⟨_, hb⟩
      · cases eb
      · exact c.di a b xs ys q hab ha hb sa sb
end
end F3
set_option maxRecDepth 100000
namespace F3
open PySem PySem.Spec PyProof.Rows L2

/-- what a def of data promises: it hands back g of its arguments; nothing that stood is changed; what is owned elsewhere (Z) is not reached -/
def spD (K : PySem.W.Frag) (n : Nat) (g : List PyData → Option Res) : Sp := fun vs H Q _ =>
  vs.length = n ∧ ∃ ds r Z, (∀ p ∈ Z, ∃ o, H p = some o) ∧ DpAll K (off H Z) vs ds ∧ g ds = some r ∧ ∀ v H', Same H H' → Vl K H H Z H' r v → Q v H'

/-- a def keeps a promise, where no repr runs -/
structure FnG (P : Program) (w : World) (K : PySem.W.Frag) (mg : Str → Option Value) (base : Heap) (k : Nat) (f : Addr) (fd : FuncData) (ps : List Str) (sp : Sp) : Prop where
  len : ∀ vs H Q E, sp vs H Q E → vs.length = ps.length
  run : ∀ (A : Around) (outer : List PySem.Env) (s : Shared) (H : Hp) (args : Args) (us : List Value) (vs : List V) (Q : VK),
    Room k A → A.guards = some [] → Env0 P w K mg base A outer s H → BindsTo s fd args (ps.zip us) → Vals vs us → sp vs H Q E0 →
      codeAny (model P w) A (.call (.ref f) args) (CR CX0 outer P w H s Q E0) s
theorem FnG.mono {P : Program} {w : World} {K : PySem.W.Frag} {mg : Str → Option Value} {base : Heap} {j k : Nat} {f : Addr} {fd : FuncData} {ps : List Str} {sp : Sp}
    (F : FnG P w K mg base j f fd ps sp) (h : j ≤ k) : FnG P w K mg base k f fd ps sp :=
  ⟨F.len, fun A o s H a us vs Q hr => F.run A o s H a us vs Q (hr.mono h)⟩

section
variable {P : Program} {w : World} {K : PySem.W.Frag} {mg : Str → Option Value} {base : Heap}
/-- a def's promise by its body -/
theorem fnG_of {x qual : Str} {st : Stmt} {f : Addr} {fd : FuncData} {N ps : List Str} {k : Nat} {sp : Sp} (F : Fun K x qual st f fd) (S : FnScope N ps (defScope st))
    (len : ∀ vs H Q E, sp vs H Q E → vs.length = ps.length)
    (body : ∀ (cdv : Value) (A : Around) (outer : List PySem.Env) (s : Shared) (H : Hp) (vs : List V) (Q : VK),
      Room k (A.deeper (envOfC qual (defScope st) s.heap.objs.size f cdv)) → A.guards = some [] → sp vs H Q E0 →
      ∃ t, PSs (cxOf CX0 P w K mg base N qual (defScope st) f cdv A outer s H E0).nox (defBody st) t ∧
        t { nx := fun _ H' => Q .non H', rt := Q } (start N vs) H) : FnG P w K mg base (k + 1) f fd ps sp := by
  obtain ⟨oc, od, kV, doc, pm, an, cdv, ct, osl, rfl, lk, hcd⟩ := F.ex
  refine ⟨len, fun A outer s H args us vs Q hr hg e0 hb r hsp => ?_⟩
  have KX : K.In s.heap := e0.mod.kin.keeps fun b o e => (e0.bs b o e).1
  have lim : s.heap.NoLimit := e0.mod.nolimit.keeps fun b o e => (e0.bs b o e).1
  refine codeAny_call_function hr.depth (KX _ _ lk) rfl S.co S.gen rfl
    (PySem.W.codeRec_of KX hcd) (hb _ _ _ _ ?_)
  refine wpAny_newFunctionEnv_cells S.kind (fun y hy => ?_) fun env he s1 x => ?_
  · obtain ⟨n, v⟩ := y
    cases S.par n (List.of_mem_zip hy).1 with
    | inl q => exact .inl q
    | inr q => exact .inr ⟨q, PySem.W.cellsFrom_some _ _ _ (.inl q)⟩
  subst he
  refine ⟨lim.keeps x.toInCall.keep, codeAny_func ?_⟩
  obtain ⟨t, ht, hq⟩ := body cdv A outer s H vs Q (hr.deeper _) hg hsp
  have I := inv_start (CX := CX0) (E := E0) S hr.hd e0 (len _ _ _ _ hsp) r x
  refine wpAny_mono (ht.nox.run [] s1 (start N vs) H _ I hq) (fun fl s' hs => ?_) fun e s' hs => hs
  cases fl with
  | ret u =>
    obtain ⟨v, σ', H', J, rv, q⟩ := hs
    exact ⟨v, H', J.os, J.bare, J.base, J.hok, rv, q⟩
  | next =>
    obtain ⟨σ', H', J, q⟩ := hs
    exact ⟨.non, H', J.os, J.bare, J.base, J.hok, rfl, q⟩
  | brk =>
    obtain ⟨_, _, _, q⟩ := hs
    exact q.elim
  | cont =>
    obtain ⟨_, _, _, q⟩ := hs
    exact q.elim
end

section
variable {X : Cx} {k : Nat} {f : Addr} {fd : FuncData} {ps : List Str} {sp : Sp} {x : Str} {p pos : Pos} {e : Expr} {es : List Expr} {t : TA}
def tCallD (sp : Sp) (t : TA) : TE := fun σ H Q => t σ H fun vs H1 => sp vs H1 Q E0
theorem runG {pins : List (Addr × Obj)} {σ : L2.St} {H : Hp} {s : Shared} {Q : VK} {us : List Value} {vs : List V}
    (F : FnG X.prog X.w X.K X.mg X.base k f fd ps sp) (hr : Room k X.A) (hG : X.A.guards = some []) (hb : Binds X.K fd ps [])
    (I : Inv X pins σ H s) (r : Vals vs us) (h : sp vs H Q E0) : wpAny (model X.prog X.w) X.A (call (.ref f) us) (EP X pins σ Q) X.xe s := by
  have hl : (us ++ []).length = ps.length := by rw [List.append_nil, ← r.length]; exact F.len _ _ _ _ h
  have hB := hb s us I.kIn hl
  rw [List.append_nil] at hB
  refine wpAny_call (codeAny_mono (F.run X.A X.stack s H ⟨us, []⟩ us vs Q hr hG I.env0 hB r h) fun r s' hq => ?_)
  cases r with
  | error e => exact hq.elim
  | ok fl =>
    cases fl with
    | ret u => exact I.after hq
    | next => exact hq.elim
    | brk => exact hq.elim
    | cont => exact hq.elim
theorem pe_callG (F : FnG X.prog X.w X.K X.mg X.base k f fd ps sp) (hr : Room k X.A) (hG : X.A.guards = some []) (hg : Gl X x) (hm : X.mg x = some (.ref f))
    (hk : PySem.W.keepIn X.K (.ref f) = true) (hb : Binds X.K fd ps []) (ha : PA X (e :: es) t)
    (hdb : (x == ("__debug__" : Str)) = false := by decide) (he : starEach (e :: es) X.env = (false, eval e X.env) :: starEach es X.env := by rfl)
    (hpl : (backTo pos (starEach es X.env)).any (·.1) = false := by rfl) : PE X (.Call (.Name x p) (e :: es) [] pos) (tCallD sp t) := by
  refine ⟨fun pins s σ H Q I h => wpAny_Call_Name_kw (ld_glob I hg hm ?_ hdb)⟩
  refine PySem.W.callWith_K (h₀ := X.base) I.ok.mod.kin hk
    (thn (ha.run pos pins s σ H _ I h) fun us s1 ⟨vs, H1, I1, r, q⟩ => ⟨I1.kIn, runG F hr hG hb I1 r q⟩) he hpl
theorem pe_callG0 (F : FnG X.prog X.w X.K X.mg X.base k f fd ps sp) (hr : Room k X.A) (hG : X.A.guards = some []) (hg : Gl X x) (hm : X.mg x = some (.ref f))
    (hk : PySem.W.keepIn X.K (.ref f) = true) (hb : Binds X.K fd ps []) (hdb : (x == ("__debug__" : Str)) = false := by decide) :
    PE X (.Call (.Name x p) [] [] pos) (tCallD sp tNil) :=
  ⟨fun pins s σ H Q I h => wpAny_Call_Name_kw (ld_glob I hg hm (PySem.W.callWith_K0 I.kIn hk (runG (us := []) F hr hG hb I .nil h)) hdb)⟩
end

/-! ### the end: the law's call -/
section
/-- as FnOk at the one place where the law is called -/
theorem FnG.top {P : Program} {w : World} {K : PySem.W.Frag} {mg : Str → Option Value} {base : Heap} {k : Nat} {f : Addr} {fd : FuncData} {ps : List Str} {sp : Sp}
    (F : FnG P w K mg base k f fd ps sp) : ∀ (s : Shared) (H : Hp) (args : Args) (us : List Value) (vs : List V) (Q : VK), Room k callerA → Env0 P w K mg base callerA [] s H →
      BindsTo s fd args (ps.zip us) → Vals vs us → sp vs H Q E0 → codeAny (model P w) callerA (.call (.ref f) args) (CR CX0 [] P w H s Q E0) s :=
  fun s H args us vs Q hr he => F.run callerA [] s H args us vs Q hr rfl he
end
end F3
set_option maxRecDepth 100000
namespace F3
open PySem PySem.Spec PyProof.Rows L2

/-- the call of the law's def, from an abstract heap in which at most the script is tracked -/
theorem callG {P : Program} {w : World} {K : PySem.W.Frag} {mg mb : Str → Option Value} {k : Nat} {fa a : Addr} {fd : FuncData} {x : Str} {sp : Sp} {s₁ : Shared} {H : Hp}
    (KX : K.In s₁.heap) (hns : s₁.heap.Ns mainGlobals mg) (hb : s₁.heap.Ns builtinsNs mb) (hbb : ∀ x : Str, x ≠ "__name__" → mb x = bootBuiltins x)
    (hlim : s₁.heap.NoLimit) (hg : s₁.gens = #[]) (hr : Room k callerA)
    (F : ∀ base : Heap, K.In base → base.Ns mainGlobals mg → FnG P w K mg base k fa fd [x] sp)
    (hbind : ∀ (s : Shared) (u : Value), BindsTo s fd ⟨[u], []⟩ [(x, u)])
    (hsp : sp [.ref a] H (fun v _ => v = .bl true) E0)
    (hO : Only H) (hok : HOk P w H s₁.heap) (nd : ∀ b o es ep, s₁.heap.get? b = some o → o.data = .dict es ep → H b = none)
    (nk : ∀ b o, K.lookup b = some o → H b = none) :
    codeAny (model P w) callerA (.call (.ref fa) ⟨[.ref a], []⟩)
      (fun r s' => r = .ok (.ret (.bool true)) ∧ OldK s₁.heap s'.heap ∧ s'.os = s₁.os ∧ AllBare s'.gens) s₁ := by
  have ns : ∀ {b : Addr} {m : Str → Option Value}, s₁.heap.Ns b m → (hidT s₁.heap H).Ns b m := fun {b m} h => by
    obtain ⟨o, es, ep, e, d, r⟩ := h
    exact ⟨o, es, ep, hidT_get e (nd b o es ep e d), d, r⟩
  have hK : K.In (hidT s₁.heap H) := fun b o e => hidT_get (KX b o e) (nk b o e)
  obtain ⟨mc, l1, l2⟩ := hlim
  have e0 : Env0 P w K mg (hidT s₁.heap H) callerA [] s₁ H :=
    { frames := rfl, mod := ⟨hK, ns hns, ⟨mb, ns hb, hbb⟩, ⟨mc, ns l1, l2⟩⟩, bs := fun b o e => of_hidT e, bsz := Nat.le_of_eq (hidT_size _ _),
      funs := trivial, frf := (fun b hb => nomatch hb), hok := hok, bare := .of_eq hg }
  have G := (F _ hK (ns hns)).top s₁ H ⟨[.ref a], []⟩ [.ref a] [.ref a] _ hr e0 (hbind s₁ (.ref a)) (.cons rfl .nil) hsp
  refine codeAny_mono G fun r s' h => ?_
  match r, h with
  | .error e, h => exact h.elim
  | .ok .next, h => exact h.elim
  | .ok .brk, h => exact h.elim
  | .ok .cont, h => exact h.elim
  | .ok (.ret u), h =>
    obtain ⟨v, H', os, bare, un, hok', r', q⟩ := h
    cases (show v = .bl true from q)
    cases (show u = Value.bool true from r')
    refine ⟨rfl, OldK.of_keep fun b o e => ?_, os, bare⟩
    rcases hO b with z | ⟨ob, xs, z⟩
    · exact un.keep b o e z (fun y => nomatch y) (fun y => nomatch y)
    · have e1 := (hok b _ z).1
      rw [e] at e1
      cases e1
      exact (hok' b _ (un.frzs b _ _ z)).1

/-- what k_head leaves, from the law's def's promise -/
theorem walkG {l : PySem.W.OpenLaw} {n k : Nat} {q : Program} {loose : List Str} {XP : (Str → Option Value) → Heap → Prop} {YP : World → Heap → Prop} {d : DefRec} {K : Params → PySem.W.Frag} {sp : World → Sp} {x : Str}
    (hn : l.most = some n) (hn2 : n ≤ sizeLine) (hdf : d.params.defaults = []) (hr : Room k callerA)
    (hY : ∀ (w : World) (h : Heap), YP w h → (K w.params).In h)
    (F : ∀ (w : World) (mg : Str → Option Value) (fa : Addr) (h : Heap), (K w.params).In h → h.Ns mainGlobals mg → mg d.name = some (.ref fa) →
      ∃ fd : FuncData, (∀ (s : Shared) (u : Value), BindsTo s fd ⟨[u], []⟩ [(x, u)]) ∧
        ∀ base : Heap, (K w.params).In base → base.Ns mainGlobals mg → FnG l.prog w (K w.params) mg base k fa fd [x] (sp w))
    (hsp : ∀ (w : World) (H : Hp) (a : Addr) (ns : List Int), ns.length ≤ n → Only H → SqL (K w.params) H a (ns.map V.int) → sp w [.ref a] H (fun v _ => v = .bl true) E0) :
    PySem.W.WalkO q loose XP YP l.row.toRowW d [] (fun f vs => PySem.call f vs) := by
  refine Att.attach_call hn hdf fun w s₀ s₁ mg mb fa o pm cd doc a vs ns G Y ho hd hcd hmg ha hi hlen hg => ?_
  have KX := hY w _ Y
  obtain ⟨fd, hb, hF⟩ := F w mg fa _ KX G.T.g hmg
  have rv := vals_ints hi
  have hl : ns.length ≤ sizeLine := Nat.le_trans hlen hn2
  cases hk : (K w.params).lookup a with
  | some o =>
    have e := KX a o hk
    rw [ha] at e
    cases e
    have hO : Only (fun _ => none) := fun _ => .inl rfl
    refine callG (H := fun _ => none) KX G.T.g G.T.b G.T.builtins G.T.nolimit hg hr hF hb
      (hsp w _ a ns hlen hO (.inr ⟨_, vs.toArray, _, hk, rfl, rfl, rfl, ?_, by simpa using rv⟩)) hO (fun b u z => (nomatch (show (none : Option HO) = some u from z))) (fun _ _ _ _ _ _ => rfl) fun _ _ _ => rfl
    rw [List.size_toArray, hi.length]
    exact hl
  | none =>
    let H : Hp := fun b => if b = a then some (.frz { cls := .type "list", data := .seq vs.toArray } (.lst (ns.map V.int))) else none
    have H1 : H a = some (.frz { cls := .type "list", data := .seq vs.toArray } (.lst (ns.map V.int))) := if_pos rfl
    have H2 : ∀ b, b ≠ a → H b = none := fun b hb => if_neg hb
    have hO : Only H := fun b => by
      by_cases hb : b = a
      · rw [hb]; exact .inr ⟨_, _, H1⟩
      · exact .inl (H2 b hb)
    refine callG (H := H) KX G.T.g G.T.b G.T.builtins G.T.nolimit hg hr hF hb (hsp w H a ns hlen hO (.inl (.inr ⟨_, H1⟩))) hO (fun b u z => ?_) (fun b o es ep e d => ?_) fun b o e => ?_
    · by_cases hb : b = a
      · subst hb
        rw [H1] at z
        cases z
        exact ⟨ha, by rw [List.length_map]; exact hl, vs, _, rv, ha⟩
      · rw [H2 b hb] at z; cases z
    · refine H2 b fun z => ?_
      subst z
      rw [ha] at e
      cases e
      exact nomatch (show Data.seq vs.toArray _ = Data.dict es ep from d)
    · refine H2 b fun z => ?_
      subst z
      rw [hk] at e
      cases e
end F3
set_option maxRecDepth 100000
namespace F3
open PySem PySem.Spec PyProof.Rows L2

/-- the longest list that is made -/
@[simp] abbrev LIM : Nat := 1000000
theorem lim_line {n : Nat} (h : n ≤ LIM) : n ≤ sizeLine := Nat.le_trans h (by decide)
theorem lim_lt {n : Nat} (h : n ≤ LIM) : n < sizeLine := Nat.lt_of_le_of_lt h (by decide)

def EOk (K : PySem.W.Frag) (t : TE) (f : Rh → Option Res) : Prop := ∀ (H0 : Hp) (Z O : List Addr) (ρ : Rh) (r : Res) (σ : L2.St) (H : Hp) (Q : VK),
  f ρ = some r → Cor K H0 Z O ρ σ H → (∀ v H', Same H H' → Vl K H0 H O H' r v → Q v H') → t σ H Q
def AOk (K : PySem.W.Frag) (t : TA) (f : Rh → Option (List Res)) : Prop := ∀ (H0 : Hp) (Z O : List Addr) (ρ : Rh) (r : List Res) (σ : L2.St) (H : Hp) (Q : List V → Hp → Prop),
  f ρ = some r → Cor K H0 Z O ρ σ H → (∀ v H', Same H H' → Paired (Vl K H0 H O H') r v → Q v H') → t σ H Q
def TOk (K : PySem.W.Frag) (t : TT) (f : Rh → Option Bool) : Prop := ∀ (H0 : Hp) (Z O : List Addr) (ρ : Rh) (b : Bool) (σ : L2.St) (H : Hp) (Q : Bool → Hp → Prop),
  f ρ = some b → Cor K H0 Z O ρ σ H → (∀ H', Same H H' → Q b H') → t σ H Q
/-- by values -/
def R1ok (K : PySem.W.Frag) (r : V → Hp → VK → Prop) (g : Res → Option Res) : Prop := ∀ (H0 : Hp) (Z O : List Addr) (Hs H : Hp) (x : V) (a c : Res) (Q : VK),
  g a = some c → Bs H0 Z O H → Same Hs H → Vl K H0 Hs O H a x → (∀ v H', Same H H' → Vl K H0 Hs O H' c v → Q v H') → r x H Q
def R2ok (K : PySem.W.Frag) (r : R2) (g : Res → Res → Option Res) : Prop := ∀ (H0 : Hp) (Z O : List Addr) (Hs H : Hp) (x y : V) (a b c : Res) (Q : VK),
  g a b = some c → Bs H0 Z O H → Same Hs H → Vl K H0 Hs O H a x → Vl K H0 Hs O H b y → (∀ v H', Same H H' → Vl K H0 Hs O H' c v → Q v H') → r x y H Q
def CRok (K : PySem.W.Frag) (r : List V → Hp → VK → Prop) (g : List Res → Option Res) : Prop := ∀ (H0 : Hp) (Z O : List Addr) (Hs H : Hp) (xs : List V) (as : List Res) (c : Res) (Q : VK),
  g as = some c → Bs H0 Z O H → Same Hs H → Paired (Vl K H0 Hs O H) as xs → (∀ v H', Same H H' → Vl K H0 Hs O H' c v → Q v H') → r xs H Q

/-! ### names, constants -/
def eVar (i : Nat) : Rh → Option Res := fun ρ => match ρ[i]? with | some x => x | none => none
@[simp] def eC (d : PyData) : Rh → Option Res := fun _ => some (.sh d)
section
variable {K : PySem.W.Frag}
theorem eok_var (i : Nat) : EOk K (tVar i) (eVar i) := fun H0 Z O ρ r σ H Q e c q => by
  unfold eVar at e
  cases h : ρ[i]? with
  | none => rw [h] at e; cases e
  | some x =>
    rw [h] at e
    obtain ⟨v, e1, e2, e3⟩ := c.sl i r (by rw [h]; exact congrArg some e)
    refine ⟨v, e1, q v H (Same.refl H) ?_⟩
    cases r with
    | sh d => exact e2
    | fr ds => exact absurd rfl (e3 ds)
    | bo ds => exact e2
theorem eok_const {v : V} {d : PyData} (h : ∀ H, Dp K H v d) : EOk K (tC v) (eC d) := fun H0 Z O ρ r σ H Q e c q => by
  cases e
  exact q v H (Same.refl H) (h _)
theorem eok_int (i : Int) : EOk K (tC (.int i)) (eC (.int i)) := eok_const fun _ => .int i
theorem eok_bool (b : Bool) : EOk K (tC (.bl b)) (eC (.bool b)) := eok_const fun _ => .bl b
theorem eok_none : EOk K (tC .non) (eC .none) := eok_const fun _ => .non
theorem eok_str (x : Str) : EOk K (tC (.str x)) (eC (.str x)) := eok_const fun _ => .str x

/-! ### operators -/
@[simp] def eUn (g : Res → Option Res) (a : Rh → Option Res) : Rh → Option Res := fun ρ => (a ρ).bind g
@[simp] def eBin (g : Res → Res → Option Res) (a b : Rh → Option Res) : Rh → Option Res := fun ρ => (a ρ).bind fun x => (b ρ).bind fun y => g x y
theorem bind_some {α β : Type} {x : Option α} {f : α → Option β} {b : β} (h : x.bind f = some b) : ∃ a, x = some a ∧ f a = some b := by
  cases x with
  | none => cases h
  | some a => exact ⟨a, rfl, h⟩
theorem eok_un {r : V → Hp → VK → Prop} {g : Res → Option Res} {ta : TE} {a : Rh → Option Res} (ho : R1ok K r g) (ha : EOk K ta a) : EOk K (tUn r ta) (eUn g a) :=
  fun H0 Z O ρ z σ H Q e c q => by
    obtain ⟨x, e1, e⟩ := bind_some e
    exact ha H0 Z O ρ x σ H _ e1 c fun v H1 s1 v1 => ho H0 Z O H H1 v x z Q e (c.bs.mono s1) s1 v1 fun u H2 s2 v2 => q u H2 (s1.trans s2) v2
theorem eok_op {r : R2} {g : Res → Res → Option Res} {ta tb : TE} {a b : Rh → Option Res} (ho : R2ok K r g) (ha : EOk K ta a) (hb : EOk K tb b) : EOk K (tOp r ta tb) (eBin g a b) :=
  fun H0 Z O ρ z σ H Q e c q => by
    obtain ⟨x, e1, e⟩ := bind_some e
    obtain ⟨y, e2, e⟩ := bind_some e
    exact ha H0 Z O ρ x σ H _ e1 c fun v H1 s1 v1 => hb H0 Z O ρ y σ H1 _ e2 (c.mono s1) fun u H2 s2 v2 =>
      ho H0 Z O H H2 v u x y z Q e (c.bs.mono (s1.trans s2)) (s1.trans s2) (v1.mono s2) (v2.anti s1) fun w H3 s3 v3 => q w H3 ((s1.trans s2).trans s3) v3

/-! ### arguments, displays, calls -/
@[simp] def aNil : Rh → Option (List Res) := fun _ => some []
@[simp] def aCons (a : Rh → Option Res) (as : Rh → Option (List Res)) : Rh → Option (List Res) := fun ρ => (a ρ).bind fun x => (as ρ).bind fun xs => some (x :: xs)
theorem aok_nil : AOk K tNil aNil := fun H0 Z O ρ z σ H Q e c q => by
  cases e
  exact q [] H (Same.refl H) .nil
theorem aok_cons {ta : TE} {t : TA} {a : Rh → Option Res} {as : Rh → Option (List Res)} (ha : EOk K ta a) (hr : AOk K t as) : AOk K (tCons ta t) (aCons a as) :=
  fun H0 Z O ρ z σ H Q e c q => by
    obtain ⟨x, e1, e⟩ := bind_some e
    obtain ⟨xs, e2, e⟩ := bind_some e
    cases e
    exact ha H0 Z O ρ x σ H _ e1 c fun v H1 s1 v1 => hr H0 Z O ρ xs σ H1 _ e2 (c.mono s1) fun vs H2 s2 v2 =>
      q (v :: vs) H2 (s1.trans s2) (.cons (v1.mono s2) (Paired.mapP v2 fun _ _ z => z.anti s1))
def shrs : List Res → Option (List PyData)
  | [] => some []
  | r :: rs => match r.shr, shrs rs with
    | some d, some ds => some (d :: ds)
    | _, _ => none
theorem shrs_ok {H0 Hs H : Hp} {O : List Addr} : ∀ {rs : List Res} {vs : List V} {ds : List PyData}, Paired (Vl K H0 Hs O H) rs vs → shrs rs = some ds → DpAll K (off H O) vs ds ∧ ds.length = rs.length
  | [], _, _, .nil, e => by cases e; exact ⟨.nil, rfl⟩
  | r :: rs, _, ds, .cons h t, e => by
    unfold shrs at e
    cases e1 : r.shr with
    | none => rw [e1] at e; cases e
    | some d =>
      cases e2 : shrs rs with
      | none => rw [e1, e2] at e; cases e
      | some es =>
        rw [e1, e2] at e
        cases e
        obtain ⟨h1, h2⟩ := shrs_ok t e2
        exact ⟨.cons (h.shr e1) h1, by rw [List.length_cons, List.length_cons, h2]⟩
@[simp] def eTup (as : Rh → Option (List Res)) : Rh → Option Res := fun ρ => (as ρ).bind fun rs => (shrs rs).bind fun ds => if ds.length ≤ LIM then some (.sh (.tuple ds)) else none
@[simp] def eLst (as : Rh → Option (List Res)) : Rh → Option Res := fun ρ => (as ρ).bind fun rs => (shrs rs).bind fun ds => if ds.length ≤ LIM then some (.fr ds) else none
theorem ite_some {c : Prop} [Decidable c] {α : Type} {a b : α} (h : (if c then some a else none) = some b) : c ∧ a = b := by
  by_cases hc : c
  · rw [if_pos hc] at h; exact ⟨hc, Option.some.inj h⟩
  · rw [if_neg hc] at h; cases h
theorem eok_tup {t : TA} {as : Rh → Option (List Res)} (ha : AOk K t as) : EOk K (tTup t) (eTup as) := fun H0 Z O ρ z σ H Q e c q => by
  obtain ⟨rs, e1, e⟩ := bind_some e
  obtain ⟨ds, e2, e⟩ := bind_some e
  obtain ⟨hl, rfl⟩ := ite_some e
  refine ha H0 Z O ρ rs σ H _ e1 c fun vs H1 s1 v1 => ?_
  obtain ⟨h1, h2⟩ := shrs_ok v1 e2
  exact ⟨by rw [dpa_len h1]; exact lim_line hl, fun p hp => q _ _ (s1.trans (same_new hp)) (Vl.newT (c.bs.mono s1) hp h1)⟩
theorem eok_lst {t : TA} {as : Rh → Option (List Res)} (ha : AOk K t as) : EOk K (tLst t) (eLst as) := fun H0 Z O ρ z σ H Q e c q => by
  obtain ⟨rs, e1, e⟩ := bind_some e
  obtain ⟨ds, e2, e⟩ := bind_some e
  obtain ⟨hl, rfl⟩ := ite_some e
  refine ha H0 Z O ρ rs σ H _ e1 c fun vs H1 s1 v1 => ?_
  obtain ⟨h1, h2⟩ := shrs_ok v1 e2
  exact ⟨by rw [dpa_len h1]; exact lim_line hl, fun p hp => q _ _ (s1.trans (same_new hp)) (Vl.newL (c.bs.mono s1) s1 hp h1)⟩
/-- a built-in -/
@[simp] def eCall (g : List Res → Option Res) (as : Rh → Option (List Res)) : Rh → Option Res := fun ρ => (as ρ).bind g
theorem eok_callB {r : List V → Hp → VK → Prop} {g : List Res → Option Res} {t : TA} {as : Rh → Option (List Res)} (ho : CRok K r g) (ha : AOk K t as) : EOk K (tCB r t) (eCall g as) :=
  fun H0 Z O ρ z σ H Q e c q => by
    obtain ⟨rs, e1, e⟩ := bind_some e
    exact ha H0 Z O ρ rs σ H _ e1 c fun vs H1 s1 v1 => ho H0 Z O H H1 vs rs z Q e (c.bs.mono s1) s1 v1 fun u H2 s2 v2 => q u H2 (s1.trans s2) v2
/-- a def of the text -/
@[simp] def eFn (g : List PyData → Option Res) (as : Rh → Option (List Res)) : Rh → Option Res := fun ρ => (as ρ).bind fun rs => (shrs rs).bind g
theorem eok_fn {n : Nat} {g : List PyData → Option Res} {t : TA} {as : Rh → Option (List Res)} (ha : AOk K t as) (hn : ∀ ρ rs, as ρ = some rs → rs.length = n) : EOk K (tCallD (spD K n g) t) (eFn g as) :=
  fun H0 Z O ρ z σ H Q e c q => by
    obtain ⟨rs, e1, e⟩ := bind_some e
    obtain ⟨ds, e2, e⟩ := bind_some e
    refine ha H0 Z O ρ rs σ H _ e1 c fun vs H1 s1 v1 => ?_
    obtain ⟨h1, h2⟩ := shrs_ok v1 e2
    refine ⟨by rw [dpa_len h1, h2]; exact hn ρ rs e1, ds, z, O, (c.bs.mono s1).live, h1, e, fun v H2 s2 v2 => q v H2 (s1.trans s2) ?_⟩
    cases z with
    | sh d => exact v2
    | fr es => exact v2.anti s1
    | bo es =>
      obtain ⟨p, ws, g1, g2, g3, g4⟩ := v2
      exact ⟨p, ws, g1, (c.bs.mono s1).same.free g2, g3, g4⟩
theorem an_nil : ∀ (ρ : Rh) rs, aNil ρ = some rs → rs.length = 0 := fun _ _ e => by cases e; rfl
theorem an_cons {n : Nat} {a : Rh → Option Res} {as : Rh → Option (List Res)} (h : ∀ ρ rs, as ρ = some rs → rs.length = n) : ∀ (ρ : Rh) rs, aCons a as ρ = some rs → rs.length = n + 1 := fun ρ rs e => by
  obtain ⟨x, e1, e⟩ := bind_some e
  obtain ⟨xs, e2, e⟩ := bind_some e
  cases e
  rw [List.length_cons, h ρ xs e2]

/-! ### tests -/
def Res.tob : Res → Option Bool
  | .sh (.bool b) => some b
  | _ => none
theorem Vl.tob {H0 Hs H : Hp} {O : List Addr} {r : Res} {b : Bool} {v : V} (h : Vl K H0 Hs O H r v) (e : r.tob = some b) : v = .bl b := by
  cases r with
  | sh d => cases d <;> cases e; exact h.to_bool
  | fr ds => cases e
  | bo ds => cases e
@[simp] def tOf (a : Rh → Option Res) : Rh → Option Bool := fun ρ => (a ρ).bind Res.tob
theorem tok_test {t : TE} {a : Rh → Option Res} (ha : EOk K t a) : TOk K (tTest t) (tOf a) := fun H0 Z O ρ b σ H Q e c q => by
  obtain ⟨r, e1, e⟩ := bind_some e
  exact ha H0 Z O ρ r σ H _ e1 c fun v H1 s1 v1 => ⟨b, v1.tob e, q H1 s1⟩
theorem tok_val {t : TE} {a : Rh → Option Res} (ha : EOk K t a) : TOk K (tB t) (tOf a) := fun H0 Z O ρ b σ H Q e c q => by
  obtain ⟨r, e1, e⟩ := bind_some e
  exact ha H0 Z O ρ r σ H _ e1 c fun v H1 s1 v1 => ⟨b, v1.tob e, q H1 s1⟩
@[simp] def tAndD (a b : Rh → Option Bool) : Rh → Option Bool := fun ρ => (a ρ).bind fun x => if x = true then b ρ else some false
@[simp] def tOrD (a b : Rh → Option Bool) : Rh → Option Bool := fun ρ => (a ρ).bind fun x => if x = true then some true else b ρ
@[simp] def tNotD (a : Rh → Option Bool) : Rh → Option Bool := fun ρ => (a ρ).bind fun x => some (!x)
theorem tok_and {t u : TT} {a b : Rh → Option Bool} (ha : TOk K t a) (hb : TOk K u b) : TOk K (tAnd t u) (tAndD a b) := fun H0 Z O ρ z σ H Q e c q => by
  obtain ⟨x, e1, e⟩ := bind_some e
  refine ha H0 Z O ρ x σ H _ e1 c fun H1 s1 => ?_
  by_cases hx : x = true
  · rw [if_pos hx] at e ⊢
    exact hb H0 Z O ρ z σ H1 _ e (c.mono s1) fun H2 s2 => q H2 (s1.trans s2)
  · rw [if_neg hx] at e ⊢
    cases e
    exact q H1 s1
theorem tok_or {t u : TT} {a b : Rh → Option Bool} (ha : TOk K t a) (hb : TOk K u b) : TOk K (tOr t u) (tOrD a b) := fun H0 Z O ρ z σ H Q e c q => by
  obtain ⟨x, e1, e⟩ := bind_some e
  refine ha H0 Z O ρ x σ H _ e1 c fun H1 s1 => ?_
  by_cases hx : x = true
  · rw [if_pos hx] at e ⊢
    cases e
    exact q H1 s1
  · rw [if_neg hx] at e ⊢
    exact hb H0 Z O ρ z σ H1 _ e (c.mono s1) fun H2 s2 => q H2 (s1.trans s2)
theorem tok_not {t : TT} {a : Rh → Option Bool} (ha : TOk K t a) : TOk K (tNot t) (tNotD a) := fun H0 Z O ρ z σ H Q e c q => by
  obtain ⟨x, e1, e⟩ := bind_some e
  cases e
  exact ha H0 Z O ρ x σ H _ e1 c fun H1 s1 => q H1 s1
/-- .. as values -/
@[simp] def eAndD (a b : Rh → Option Res) : Rh → Option Res := fun ρ => (a ρ).bind fun x => x.tob.bind fun k => if k = true then b ρ else some (.sh (.bool false))
@[simp] def eOrD (a b : Rh → Option Res) : Rh → Option Res := fun ρ => (a ρ).bind fun x => x.tob.bind fun k => if k = true then some (.sh (.bool true)) else b ρ
@[simp] def eNotD (a : Rh → Option Res) : Rh → Option Res := fun ρ => (a ρ).bind fun x => x.tob.bind fun k => some (.sh (.bool (!k)))
theorem vl_anti {H0 H H1 H2 : Hp} {O : List Addr} {r : Res} {v : V} (s : Same H H1) (h : Vl K H0 H1 O H2 r v) : Vl K H0 H O H2 r v := h.anti s
theorem eok_and {t u : TE} {a b : Rh → Option Res} (ha : EOk K t a) (hb : EOk K u b) : EOk K (tAndV t u) (eAndD a b) := fun H0 Z O ρ z σ H Q e c q => by
  obtain ⟨x, e1, e⟩ := bind_some e
  obtain ⟨k, e2, e⟩ := bind_some e
  refine ha H0 Z O ρ x σ H _ e1 c fun v H1 s1 v1 => ⟨k, v1.tob e2, ?_⟩
  by_cases hx : k = true
  · rw [if_pos hx] at e ⊢
    exact hb H0 Z O ρ z σ H1 _ e (c.mono s1) fun u H2 s2 v2 => q u H2 (s1.trans s2) (v2.anti s1)
  · rw [if_neg hx] at e ⊢
    cases e
    exact q _ H1 s1 .bool
theorem eok_or {t u : TE} {a b : Rh → Option Res} (ha : EOk K t a) (hb : EOk K u b) : EOk K (tOrV t u) (eOrD a b) := fun H0 Z O ρ z σ H Q e c q => by
  obtain ⟨x, e1, e⟩ := bind_some e
  obtain ⟨k, e2, e⟩ := bind_some e
  refine ha H0 Z O ρ x σ H _ e1 c fun v H1 s1 v1 => ⟨k, v1.tob e2, ?_⟩
  by_cases hx : k = true
  · rw [if_pos hx] at e ⊢
    cases e
    exact q _ H1 s1 .bool
  · rw [if_neg hx] at e ⊢
    exact hb H0 Z O ρ z σ H1 _ e (c.mono s1) fun u H2 s2 v2 => q u H2 (s1.trans s2) (v2.anti s1)
theorem eok_not {t : TE} {a : Rh → Option Res} (ha : EOk K t a) : EOk K (tNotV t) (eNotD a) := fun H0 Z O ρ z σ H Q e c q => by
  obtain ⟨x, e1, e⟩ := bind_some e
  obtain ⟨k, e2, e⟩ := bind_some e
  cases e
  exact ha H0 Z O ρ x σ H _ e1 c fun v H1 s1 v1 => ⟨k, v1.tob e2, q _ H1 s1 .bool⟩
@[simp] def eIfD (t : Rh → Option Bool) (a b : Rh → Option Res) : Rh → Option Res := fun ρ => (t ρ).bind fun k => if k = true then a ρ else b ρ
theorem eok_if {t : TT} {u w : TE} {k : Rh → Option Bool} {a b : Rh → Option Res} (ht : TOk K t k) (ha : EOk K u a) (hb : EOk K w b) : EOk K (tIf t u w) (eIfD k a b) := fun H0 Z O ρ z σ H Q e c q => by
  obtain ⟨x, e1, e⟩ := bind_some e
  refine ht H0 Z O ρ x σ H _ e1 c fun H1 s1 => ?_
  by_cases hx : x = true
  · rw [if_pos hx] at e ⊢
    exact ha H0 Z O ρ z σ H1 _ e (c.mono s1) fun u H2 s2 v2 => q u H2 (s1.trans s2) (v2.anti s1)
  · rw [if_neg hx] at e ⊢
    exact hb H0 Z O ρ z σ H1 _ e (c.mono s1) fun u H2 s2 v2 => q u H2 (s1.trans s2) (v2.anti s1)
end
end F3
set_option maxRecDepth 100000
namespace F3
open PySem PySem.Spec PyProof.Rows L2
section
variable {K : PySem.W.Frag}
def Res.toi : Res → Option Int
  | .sh (.int i) => some i
  | _ => none
def Res.tos : Res → Option Str
  | .sh (.str x) => some x
  | _ => none
section
variable {H0 Hs H : Hp} {O : List Addr} {r : Res} {v : V}
theorem Vl.toi {i : Int} (h : Vl K H0 Hs O H r v) (e : r.toi = some i) : v = .int i := by
  cases r with
  | sh d => cases d <;> cases e; exact h.to_int
  | fr ds => cases e
  | bo ds => cases e
theorem Vl.tos {i : Str} (h : Vl K H0 Hs O H r v) (e : r.tos = some i) : v = .str i := by
  cases r with
  | sh d => cases d <;> cases e; exact h.to_str
  | fr ds => cases e
  | bo ds => cases e
end
theorem r2_or {r r' : R2} {g g' h : Res → Res → Option Res} (a : R2ok K r g) (b : R2ok K r' g') (e : ∀ x y z, h x y = some z → g x y = some z ∨ g' x y = some z) :
    R2ok K (fun x y H Q => r x y H Q ∨ r' x y H Q) h := fun H0 Z O Hs H x y p q z Q e1 bs sm vx vy k => by
  rcases e p q z e1 with e2 | e2
  · exact .inl (a H0 Z O Hs H x y p q z Q e2 bs sm vx vy k)
  · exact .inr (b H0 Z O Hs H x y p q z Q e2 bs sm vx vy k)

/-! ### ints -/
def iiR (f : Int → Int → Option PyData) (a b : Res) : Option Res := match a.toi, b.toi with
  | some i, some j => match f i j with
    | some d => some (.sh d)
    | none => none
  | _, _ => none
theorem iiR_some {f : Int → Int → Option PyData} {a b c : Res} (h : iiR f a b = some c) : ∃ i j d, a.toi = some i ∧ b.toi = some j ∧ f i j = some d ∧ c = .sh d := by
  unfold iiR at h
  cases h1 : a.toi with
  | none => rw [h1] at h; cases h
  | some i =>
    cases h2 : b.toi with
    | none => rw [h1, h2] at h; cases h
    | some j =>
      rw [h1, h2] at h
      cases h3 : f i j with
      | none => simp only [h3] at h; cases h
      | some d => simp only [h3] at h; cases h; exact ⟨i, j, d, rfl, rfl, h3, rfl⟩
/-- the value of simple data -/
def vOf : PyData → Option V
  | .none => some .non
  | .bool b => some (.bl b)
  | .int i => some (.int i)
  | .str x => some (.str x)
  | _ => none
theorem vOf_dp {d : PyData} {v : V} (h : vOf d = some v) (H : Hp) : Dp K H v d := by
  cases d <;> cases h
  · exact .non
  · exact .bl _
  · exact .int _
  · exact .str _
theorem r2_ii {C : Int → Int → Prop} {g : Int → Int → V} {f : Int → Int → Option PyData} (h : ∀ i j d, f i j = some d → C i j ∧ vOf d = some (g i j)) : R2ok K (rI C g) (iiR f) :=
  fun H0 Z O Hs H x y p q z Q e0 bs sm vx vy k => by
    obtain ⟨i, j, d, e1, e2, e3, rfl⟩ := iiR_some e0
    obtain ⟨hc, hv⟩ := h i j d e3
    exact ⟨i, j, vx.toi e1, vy.toi e2, hc, k _ H (Same.refl H) (vOf_dp hv _)⟩
theorem r2_ii0 {g : Int → Int → V} {f : Int → Int → Option PyData} (h : ∀ i j d, f i j = some d → vOf d = some (g i j)) : R2ok K (rI0 g) (iiR f) :=
  fun H0 Z O Hs H x y p q z Q e0 bs sm vx vy k => by
    obtain ⟨i, j, d, e1, e2, e3, rfl⟩ := iiR_some e0
    exact ⟨i, j, vx.toi e1, vy.toi e2, k _ H (Same.refl H) (vOf_dp (h i j d e3) _)⟩
abbrev addI : Res → Res → Option Res := iiR fun i j => some (.int (i + j))
abbrev subR : Res → Res → Option Res := iiR fun i j => some (.int (i - j))
theorem r2_addI : R2ok K (rI0 fun i j => .int (i + j)) addI := r2_ii0 fun i j d e => by cases e; rfl
theorem r2_sub : R2ok K (rI0 fun i j => .int (i - j)) subR := r2_ii0 fun i j d e => by cases e; rfl
/-- the sizes of two factors -/
def mulOk (i j : Int) : Prop := i.natAbs.log2 + j.natAbs.log2 < 1000000
instance (i j : Int) : Decidable (mulOk i j) := inferInstanceAs (Decidable (_ < _))
abbrev mulI : Res → Res → Option Res := iiR fun i j => if mulOk i j then some (.int (i * j)) else none
theorem r2_mulI : R2ok K (rI CMulW fun i j => .int (i * j)) mulI := r2_ii fun i j d e => by
  obtain ⟨h, rfl⟩ := ite_some e
  exact ⟨h, rfl⟩
def divOk (j : Int) : Prop := 0 < j ∧ j.natAbs.log2 < 9000
instance (j : Int) : Decidable (divOk j) := inferInstanceAs (Decidable (_ ∧ _))
def fdivR : Res → Res → Option Res := iiR fun i j => if divOk j then some (.int (i / j)) else if j < 0 ∧ j.natAbs < 1073741824 then some (.int (i.fdiv j)) else none
def rFdiv : R2 := fun x y H Q => rI CDivW (fun i j => .int (i / j)) x y H Q ∨ rI CDivN (fun i j => .int (i.fdiv j)) x y H Q
theorem op_fdivA {X : Cx} : OpR X (binaryOp .FloorDiv) rFdiv := op_fdivW.or op_fdivN
theorem r2_fdiv : R2ok K rFdiv fdivR := by
  refine r2_or (g := iiR fun i j => if divOk j then some (.int (i / j)) else none) (g' := iiR fun i j => if j < 0 ∧ j.natAbs < 1073741824 then some (.int (i.fdiv j)) else none) ?_ ?_ ?_
  · exact r2_ii fun i j d e => by
      obtain ⟨h, rfl⟩ := ite_some e
      exact ⟨h, rfl⟩
  · exact r2_ii fun i j d e => by
      obtain ⟨h, rfl⟩ := ite_some e
      exact ⟨⟨fun z => by omega, h.2⟩, rfl⟩
  · intro x y z e
    obtain ⟨i, j, d, e1, e2, e3, rfl⟩ := iiR_some e
    unfold iiR
    rw [e1, e2]
    by_cases hd : divOk j
    · rw [if_pos hd] at e3
      left
      simp only [if_pos hd, e3]
    · rw [if_neg hd] at e3
      right
      simp only [e3]
def modR : Res → Res → Option Res := iiR fun i j => if 0 < j then some (.int (i % j)) else if j < 0 then some (.int (i.fmod j)) else none
theorem r2_mod : R2ok K (rI (fun _ j => j ≠ 0) fun i j => .int (i.fmod j)) modR := r2_ii fun i j d e => by
  by_cases h : 0 < j
  · rw [if_pos h] at e
    cases e
    refine ⟨fun z => by omega, ?_⟩
    show some (V.int (i % j)) = some (V.int (i.fmod j))
    rw [Int.fmod_eq_emod_of_nonneg _ (by omega)]
  · rw [if_neg h] at e
    obtain ⟨h2, rfl⟩ := ite_some e
    exact ⟨fun z => by omega, rfl⟩
def powR : Res → Res → Option Res := iiR fun i j => if 0 ≤ j ∧ j ≤ 1000000 ∧ i.natAbs < 2 ^ 64 then some (.int (i ^ j.toNat)) else none
theorem r2_pow : R2ok K (rI CPow fun i j => .int (i ^ j.toNat)) powR := r2_ii fun i j d e => by
  obtain ⟨h, rfl⟩ := ite_some e
  exact ⟨h, rfl⟩
abbrev ltR : Res → Res → Option Res := iiR fun i j => some (.bool (decide (i < j)))
abbrev leR : Res → Res → Option Res := iiR fun i j => some (.bool (decide (i ≤ j)))
abbrev gtR : Res → Res → Option Res := iiR fun i j => some (.bool (decide (j < i)))
abbrev geR : Res → Res → Option Res := iiR fun i j => some (.bool (decide (j ≤ i)))
theorem r2_lt : R2ok K (rI0 fun i j => .bl (decide (i < j))) ltR := r2_ii0 fun i j d e => by cases e; rfl
theorem r2_le : R2ok K (rI0 fun i j => .bl (decide (i ≤ j))) leR := r2_ii0 fun i j d e => by cases e; rfl
theorem r2_gt : R2ok K (rI0 fun i j => .bl (decide (j < i))) gtR := r2_ii0 fun i j d e => by cases e; rfl
theorem r2_ge : R2ok K (rI0 fun i j => .bl (decide (j ≤ i))) geR := r2_ii0 fun i j d e => by cases e; rfl
def negR (a : Res) : Option Res := match a.toi with
  | some i => some (.sh (.int (-i)))
  | none => none
theorem r1_neg : R1ok K (rU fun i => .int (-i)) negR := fun H0 Z O Hs H x a c Q e bs sm vx k => by
  unfold negR at e
  cases h : a.toi with
  | none => rw [h] at e; cases e
  | some i =>
    rw [h] at e
    cases e
    exact ⟨i, vx.toi h, k _ H (Same.refl H) .int⟩

/-! ### == and != of data, in, is -/
/-- == of data, where the model has an answer -/
def eqD (d e : PyData) : Option Bool := match d, e with
  | .str x, .str y => some (decide (x = y))
  | d, e => if SeqAt.shaped d = true ∧ SeqAt.shaped e = true then some (PyData.eqv d e) else none
def eqR (a b : Res) : Option Res := match eqD a.dat b.dat with
  | some k => some (.sh (.bool k))
  | none => none
def neR (a b : Res) : Option Res := match eqD a.dat b.dat with
  | some k => some (.sh (.bool (!k)))
  | none => none
def rEqA (K : PySem.W.Frag) : R2 := fun x y H Q => rEqD K x y H Q ∨ rEq x y H Q
def rNeA (K : PySem.W.Frag) : R2 := fun x y H Q => rNeD K x y H Q ∨ rNe x y H Q
theorem op_eqA {X : Cx} (hu : X.A.units + 64 < cLine) : OpR X (compareOp .Eq) (rEqA X.K) := (op_eqD hu).or op_eq
theorem op_neA {X : Cx} (hu : X.A.units + 64 < cLine) : OpR X (compareOp .NotEq) (rNeA X.K) := (op_neD hu).or op_ne
theorem eqD_ok {H : Hp} {x y : V} {d e : PyData} {k : Bool} (hx : Dp K H x d) (hy : Dp K H y e) (h : eqD d e = some k) :
    (SeqAt.shaped d = true ∧ SeqAt.shaped e = true ∧ k = PyData.eqv d e) ∨ (scal x y = true ∧ k = decide (x = y)) := by
  unfold eqD at h
  split at h
  · cases h
    cases hx
    cases hy
    refine .inr ⟨rfl, ?_⟩
    rename_i a b
    by_cases hab : a = b
    · subst hab; simp
    · rw [decide_eq_false hab, decide_eq_false fun z => hab (V.str.inj z)]
  · obtain ⟨hs, rfl⟩ := ite_some h
    exact .inl ⟨hs.1, hs.2, rfl⟩
theorem r2_eq : R2ok K (rEqA K) eqR := fun H0 Z O Hs H x y p q z Q e bs sm vx vy k => by
  unfold eqR at e
  cases h : eqD p.dat q.dat with
  | none => rw [h] at e; cases e
  | some b =>
    rw [h] at e
    cases e
    rcases eqD_ok vx.full vy.full h with ⟨h1, h2, rfl⟩ | ⟨h1, rfl⟩
    · exact .inl ⟨_, _, vx.full, vy.full, h1, h2, k _ H (Same.refl H) .bool⟩
    · exact .inr ⟨h1, k _ H (Same.refl H) .bool⟩
theorem r2_ne : R2ok K (rNeA K) neR := fun H0 Z O Hs H x y p q z Q e bs sm vx vy k => by
  unfold neR at e
  cases h : eqD p.dat q.dat with
  | none => rw [h] at e; cases e
  | some b =>
    rw [h] at e
    cases e
    rcases eqD_ok vx.full vy.full h with ⟨h1, h2, rfl⟩ | ⟨h1, rfl⟩
    · exact .inl ⟨_, _, vx.full, vy.full, h1, h2, k _ H (Same.refl H) .bool⟩
    · exact .inr ⟨h1, k _ H (Same.refl H) .bool⟩
/-- x in a list or a tuple -/
def rInA (K : PySem.W.Frag) (neg : Bool) : R2 := fun x y H Q => ∃ d ds, Dp K H x d ∧ (Dp K H y (.list ds) ∨ Dp K H y (.tuple ds)) ∧ SeqAt.shaped d = true ∧ SeqAt.shaped (.list ds) = true ∧
  Q (.bl (if neg then !ds.any (fun z => PyData.eqv z d) else ds.any (fun z => PyData.eqv z d))) H
section
variable {X : Cx}
theorem room_in {d : PyData} {n : Nat} {A : Around} (sd : SeqAt.shaped d = true) (hu : A.units + 65 < cLine) : A.units + 1 + min n d.depth < cLine := by
  have h1 := SeqAt.depth_of_shaped sd
  have h2 := Nat.min_le_right n d.depth
  omega
theorem op_inA (hu : X.A.units + 65 < cLine) : OpR X (compareOp .In) (rInA X.K false) := fun pins s σ H x y v u Q I rx ry h => by
  obtain ⟨d, ds, hd, he, sd, se, q⟩ := h
  obtain ⟨as, r1⟩ := Dp.reads I d x v hd rx
  have q' : EP X pins σ Q (.bool (ds.any fun z => PyData.eqv z d)) s := ⟨.bl _, H, I, rfl, q⟩
  rcases he with he | he
  · obtain ⟨bs, r2⟩ := Dp.reads I _ y u he ry
    exact SeqAt.in_list_reads r2 r1 (SeqAt.canLay_of_shaped se) (SeqAt.canLay_of_shaped sd) (room_in sd hu) q'
  · obtain ⟨bs, r2⟩ := Dp.reads I _ y u he ry
    exact SeqAt.in_tuple_reads r2 r1 (SeqAt.canLay_of_shaped se) (SeqAt.canLay_of_shaped sd) (room_in sd hu) q'
theorem op_notInA (hu : X.A.units + 65 < cLine) : OpR X (compareOp .NotIn) (rInA X.K true) := fun pins s σ H x y v u Q I rx ry h => by
  obtain ⟨d, ds, hd, he, sd, se, q⟩ := h
  obtain ⟨as, r1⟩ := Dp.reads I d x v hd rx
  have q' : EP X pins σ Q (.bool (!ds.any fun z => PyData.eqv z d)) s := ⟨.bl _, H, I, rfl, q⟩
  rcases he with he | he
  · obtain ⟨bs, r2⟩ := Dp.reads I _ y u he ry
    exact SeqAt.notIn_list_reads r2 r1 (SeqAt.canLay_of_shaped se) (SeqAt.canLay_of_shaped sd) (room_in sd hu) q'
  · obtain ⟨bs, r2⟩ := Dp.reads I _ y u he ry
    exact SeqAt.notIn_tuple_reads r2 r1 (SeqAt.canLay_of_shaped se) (SeqAt.canLay_of_shaped sd) (room_in sd hu) q'
/-- a is b, both bools; a is None -/
theorem op_isB : OpR X (compareOp .Is) (fun x y H Q => ∃ a b, x = .bl a ∧ y = .bl b ∧ Q (.bl (a == b)) H) := fun pins s σ H x y v u Q I rx ry h => by
  obtain ⟨a, b, rfl, rfl, q⟩ := h
  cases rx
  cases ry
  exact is_bool ⟨.bl _, H, I, rfl, q⟩
theorem op_isnotB : OpR X (compareOp .IsNot) (fun x y H Q => ∃ a b, x = .bl a ∧ y = .bl b ∧ Q (.bl (a != b)) H) := fun pins s σ H x y v u Q I rx ry h => by
  obtain ⟨a, b, rfl, rfl, q⟩ := h
  cases rx
  cases ry
  exact isnot_bool ⟨.bl _, H, I, rfl, q⟩
end
def Res.seq : Res → Option (List PyData)
  | .sh (.tuple ds) => some ds
  | r => r.lst
def inR (neg : Bool) (a b : Res) : Option Res := match b.seq with
  | some ds => if SeqAt.shaped a.dat = true ∧ SeqAt.shaped (.list ds) = true then some (.sh (.bool (if neg then !ds.any (fun z => PyData.eqv z a.dat) else ds.any (fun z => PyData.eqv z a.dat)))) else none
  | none => none
theorem seq_dat {r : Res} {ds : List PyData} (h : r.seq = some ds) : r.dat = .list ds ∨ r.dat = .tuple ds := by
  cases r with
  | sh d => cases d <;> simp only [Res.seq, Res.lst] at h <;> cases h <;> first | exact .inl rfl | exact .inr rfl
  | fr xs => cases h; exact .inl rfl
  | bo xs => cases h; exact .inl rfl
theorem r2_in (neg : Bool) : R2ok K (rInA K neg) (inR neg) := fun H0 Z O Hs H x y p q z Q e bs sm vx vy k => by
  unfold inR at e
  cases h : q.seq with
  | none => rw [h] at e; cases e
  | some ds =>
    rw [h] at e
    obtain ⟨h1, rfl⟩ := ite_some e
    refine ⟨p.dat, ds, vx.full, ?_, h1.1, h1.2, k _ H (Same.refl H) .bool⟩
    have f := vy.full
    rcases seq_dat h with z | z
    · rw [z] at f; exact .inl f
    · rw [z] at f; exact .inr f
def rIs : R2 := fun x y H Q => (y = .non ∧ Q (.bl (decide (x = .non))) H) ∨ ∃ a b, x = .bl a ∧ y = .bl b ∧ Q (.bl (a == b)) H
def rIsNot : R2 := fun x y H Q => (y = .non ∧ Q (.bl (!decide (x = .non))) H) ∨ ∃ a b, x = .bl a ∧ y = .bl b ∧ Q (.bl (a != b)) H
theorem op_isA {X : Cx} : OpR X (compareOp .Is) rIs := op_isN.or op_isB
theorem op_isnotA {X : Cx} : OpR X (compareOp .IsNot) rIsNot := op_notN.or op_isnotB
def Res.isNone : Res → Bool
  | .sh .none => true
  | _ => false
theorem Vl.isNone {H0 Hs H : Hp} {O : List Addr} {r : Res} {v : V} (h : Vl K H0 Hs O H r v) : decide (v = .non) = r.isNone := by
  cases r with
  | sh d =>
    have h : Dp K (off H O) v d := h
    cases h <;> rfl
  | fr ds =>
    obtain ⟨p, vs, rfl, _⟩ := h
    rfl
  | bo ds =>
    obtain ⟨p, vs, rfl, _⟩ := h
    rfl
def isR (neg : Bool) (a b : Res) : Option Res := match b with
  | .sh .none => some (.sh (.bool (neg != a.isNone)))
  | .sh (.bool y) => match a with
    | .sh (.bool x) => some (.sh (.bool (neg != (x == y))))
    | _ => none
  | _ => none
theorem r2_is : R2ok K rIs (isR false) := fun H0 Z O Hs H x y p q z Q e bs sm vx vy k => by
  unfold isR at e
  split at e
  · cases e
    refine .inl ⟨vy.to_none, ?_⟩
    rw [vx.isNone]
    exact k _ H (Same.refl H) (by cases p.isNone <;> exact .bool)
  · split at e
    · cases e
      exact .inr ⟨_, _, vx.to_bool, vy.to_bool, k _ H (Same.refl H) (by simp only [Bool.false_bne]; exact .bool)⟩
    · cases e
  · cases e
theorem r2_isnot : R2ok K rIsNot (isR true) := fun H0 Z O Hs H x y p q z Q e bs sm vx vy k => by
  unfold isR at e
  split at e
  · cases e
    refine .inl ⟨vy.to_none, ?_⟩
    rw [vx.isNone]
    exact k _ H (Same.refl H) (by cases p.isNone <;> exact .bool)
  · split at e
    · cases e
      refine .inr ⟨_, _, vx.to_bool, vy.to_bool, k _ H (Same.refl H) ?_⟩
      simp only [Bool.true_bne]
      exact .bool
    · cases e
  · cases e
end
end F3
set_option maxRecDepth 100000
namespace F3
open PySem PySem.Spec PyProof.Rows L2

/-! ### + -/
def rCatLL (K : PySem.W.Frag) : R2 := fun x y H Q => ∃ l b xs zs, x = .ref l ∧ y = .ref b ∧ SqL K H l xs ∧ SqL K H b zs ∧ xs.length + zs.length ≤ sizeLine ∧ ∀ p, H p = none → Q (.ref p) (upd H p (.lst (xs ++ zs)))
theorem op_catLL {X : Cx} : OpR X (binaryOp .Add) (rCatLL X.K) := fun pins s σ H x y v u Q I rx ry h => by
  obtain ⟨l, b, xs, zs, rfl, rfl, hl, hb, hz, q⟩ := h
  cases rx
  cases ry
  obtain ⟨its, r, pl, z1⟩ := I.list hl
  obtain ⟨its2, r2, pl2, z2⟩ := I.list hb
  obtain ⟨⟨cls, dd, dat, sl⟩, n, ho, hc, hdd, hd⟩ := pl
  obtain ⟨⟨cls2, dd2, dat2, sl2⟩, n2, ho2, hc2, hdd2, hd2⟩ := pl2
  simp only at hc hd hc2 hd2
  subst hc hd hc2 hd2
  have l1 := r.length
  have l2 := r2.length
  refine concat_meets ⟨_, ho, rfl⟩ ⟨_, ho2, rfl⟩ noFill_list_add seq_list_add PySem.F.slot_list_add PySem.F.entry_list_add
    (PySem.F.args_list_add_2 _ _) (list_addW l b its.toArray its2.toArray n n2 dd dd2 sl sl2 ?_) ⟨ho, ho2, ?_⟩
  · rw [List.size_toArray, List.size_toArray, ← l1, ← l2]
    exact hz
  · have ea : its.toArray ++ its2.toArray = (its ++ its2).toArray := by simp
    rw [ea]
    exact ⟨.ref _, _, I.lnew (t' := s.toks) (r.append r2) (by rw [List.length_append]; exact hz), rfl, q _ I.fresh⟩
def rAdd4 (K : PySem.W.Frag) : R2 := fun x y H Q => rI0 (fun i j => .int (i + j)) x y H Q ∨ rCatA K x y H Q ∨ rCatLL K x y H Q ∨
  ∃ i j, x = .str i ∧ y = .str j ∧ i.length + j.length ≤ sizeLine ∧ Q (.str (i ++ j)) H
theorem op_add4 {X : Cx} : OpR X (binaryOp .Add) (rAdd4 X.K) := op_add.or (op_catA.or (op_catLL.or op_add_str))
def addR (a b : Res) : Option Res := match a, b with
  | .sh (.int i), .sh (.int j) => some (.sh (.int (i + j)))
  | .sh (.str x), .sh (.str y) => if x.length + y.length ≤ LIM then some (.sh (.str (x ++ y))) else none
  | .sh (.tuple x), .sh (.tuple y) => if x.length + y.length ≤ LIM then some (.sh (.tuple (x ++ y))) else none
  | a, b => match a.lst, b.lst with
    | some x, some y => if x.length + y.length ≤ LIM then some (.fr (x ++ y)) else none
    | _, _ => none
section
variable {K : PySem.W.Frag}
theorem addR_lst {a b c : Res} (h : (match a.lst, b.lst with
    | some x, some y => if x.length + y.length ≤ LIM then some (Res.fr (x ++ y)) else none
    | _, _ => none) = some c) : ∃ x y, a.lst = some x ∧ b.lst = some y ∧ x.length + y.length ≤ LIM ∧ c = .fr (x ++ y) := by
  cases h1 : a.lst with
  | none => rw [h1] at h; cases h
  | some x =>
    cases h2 : b.lst with
    | none => rw [h1, h2] at h; cases h
    | some y =>
      rw [h1, h2] at h
      obtain ⟨hl, rfl⟩ := ite_some h
      exact ⟨x, y, rfl, rfl, hl, rfl⟩
theorem r2_add : R2ok K (rAdd4 K) addR := fun H0 Z O Hs H x y p q z Q e bs sm vx vy k => by
  unfold addR at e
  split at e
  · cases e
    exact .inl ⟨_, _, vx.to_int, vy.to_int, k _ H (Same.refl H) .int⟩
  · obtain ⟨hl, rfl⟩ := ite_some e
    exact .inr (.inr (.inr ⟨_, _, vx.to_str, vy.to_str, lim_line hl, k _ H (Same.refl H) .str⟩))
  · rename_i xs ys
    obtain ⟨hl, rfl⟩ := ite_some e
    obtain ⟨a, us, rfl, ha, da⟩ := vx.tup rfl
    obtain ⟨b, ws, rfl, hb, db⟩ := vy.tup rfl
    have l1 := dpa_len da
    have l2 := dpa_len db
    refine .inr (.inl ⟨a, b, us, ws, rfl, rfl, Same.tup off_le ha, Same.tup off_le hb, by rw [l1, l2]; exact lim_line hl, fun z => ?_, fun z z2 => ?_, fun _ _ p hp => ?_⟩)
    · subst z
      cases da
      exact k _ H (Same.refl H) vy
    · subst z2
      cases db
      rw [List.append_nil] at k
      exact k _ H (Same.refl H) vx
    · exact k _ _ (same_new hp) (Vl.newT bs hp (dpa_append da db))
  · obtain ⟨xs, ys, e1, e2, hl, rfl⟩ := addR_lst e
    obtain ⟨a, us, rfl, ha, da⟩ := vx.lst e1
    obtain ⟨b, ws, rfl, hb, db⟩ := vy.lst e2
    refine .inr (.inr (.inl ⟨a, b, us, ws, rfl, rfl, ha, hb, by rw [dpa_len da, dpa_len db]; exact lim_line hl, fun p hp => ?_⟩))
    exact k _ _ (same_new hp) (Vl.newL bs sm hp (dpa_append da db))

/-! ### subscripts -/
def ixR (a b : Res) : Option Res := match b.toi with
  | some i => match a with
    | .sh (.str x) => if x.length ≤ LIM then match atI x.cps.toList i with
      | some c => some (.sh (.str ⟨#[c]⟩))
      | none => none
      else none
    | a => match a.seq with
      | some ds => match atI ds i with
        | some d => some (.sh d)
        | none => none
      | none => none
  | none => none
theorem atI_dpa {H : Hp} {ds : List PyData} {vs : List V} {i : Int} {d : PyData} (h : DpAll K H vs ds) (e : atI ds i = some d) : ∃ v, atI vs i = some v ∧ Dp K H v d := by
  unfold atI at e ⊢
  rw [dpa_len h]
  cases e1 : ixN ds.length i with
  | none => rw [e1] at e; cases e
  | some j =>
    rw [e1] at e
    exact dpa_get h e
/-- the value of a sequence -/
theorem Vl.seq {H0 Hs H : Hp} {O : List Addr} {r : Res} {v : V} {ds : List PyData} (h : Vl K H0 Hs O H r v) (e : r.seq = some ds) :
    ∃ p vs, v = .ref p ∧ (SqL K H p vs ∨ SqT K H p vs) ∧ DpAll K (off H O) vs ds := by
  cases r with
  | sh d =>
    cases d <;> simp only [Res.seq, Res.lst] at e <;> cases e
    · obtain ⟨p, vs, h1, h2, h3⟩ := h.lst rfl
      exact ⟨p, vs, h1, .inl h2, h3⟩
    · obtain ⟨p, vs, h1, h2, h3⟩ := h.tup rfl
      exact ⟨p, vs, h1, .inr (Same.tup off_le h2), h3⟩
  | fr xs =>
    cases e
    obtain ⟨p, vs, h1, h2, h3⟩ := h.lst rfl
    exact ⟨p, vs, h1, .inl h2, h3⟩
  | bo xs =>
    cases e
    obtain ⟨p, vs, h1, h2, h3⟩ := h.lst rfl
    exact ⟨p, vs, h1, .inl h2, h3⟩
theorem ixSeq_ok {H0 Hs H : Hp} {O : List Addr} {a : Res} {x y : V} {i : Int} {c : Res} {Q : VK} (hy : y = .int i) (vx : Vl K H0 Hs O H a x)
    (e : (match a.seq with
      | some ds => match atI ds i with
        | some d => some (Res.sh d)
        | none => none
      | none => none) = some c) (k : ∀ v H', Same H H' → Vl K H0 Hs O H' c v → Q v H') : rIx K x y H Q := by
  cases h1 : a.seq with
  | none => rw [h1] at e; cases e
  | some ds =>
    cases h2 : atI ds i with
    | none => rw [h1] at e; simp only [h2] at e; cases e
    | some d =>
      rw [h1] at e
      simp only [h2] at e
      cases e
      obtain ⟨p, vs, rfl, hs, hd⟩ := vx.seq h1
      obtain ⟨v, e1, e2⟩ := atI_dpa hd h2
      have kk := k v H (Same.refl H) e2
      rcases hs with hs | hs
      · exact .inl ⟨p, vs, i, v, rfl, hy, hs, e1, kk⟩
      · exact .inr (.inl ⟨p, vs, i, v, rfl, hy, hs, e1, kk⟩)
theorem r2_ix : R2ok K (rIx K) ixR := fun H0 Z O Hs H x y p q z Q e bs sm vx vy k => by
  unfold ixR at e
  cases h : q.toi with
  | none => rw [h] at e; cases e
  | some i =>
    rw [h] at e
    have hy := vy.toi h
    simp only at e
    split at e
    · by_cases hl : (‹Str›).length ≤ LIM
      · rw [if_pos hl] at e
        split at e
        · rename_i h3
          cases e
          exact .inr (.inr ⟨_, _, _, vx.to_str, hy, lim_line hl, h3, k _ H (Same.refl H) .str⟩)
        · cases e
      · rw [if_neg hl] at e; cases e
    · exact ixSeq_ok hy vx e k

/-! ### slices -/
abbrev Po := Rh → Option (Option Int)
def OOk (K : PySem.W.Frag) (t : TO) (f : Po) : Prop := ∀ (H0 : Hp) (Z O : List Addr) (ρ : Rh) (r : Option Int) (σ : L2.St) (H : Hp) (Q : Option Int → Hp → Prop),
  f ρ = some r → Cor K H0 Z O ρ σ H → (∀ H', Same H H' → Q r H') → t σ H Q
@[simp] def oNo : Po := fun _ => some none
@[simp] def oIs (a : Rh → Option Res) : Po := fun ρ => (a ρ).bind fun r => match r.toi with
  | some i => some (some i)
  | none => none
theorem ook_no : OOk K tNoPart oNo := fun H0 Z O ρ r σ H Q e c q => by cases e; exact q H (Same.refl H)
theorem ook_is {t : TE} {a : Rh → Option Res} (ha : EOk K t a) : OOk K (tPart t) (oIs a) := fun H0 Z O ρ r σ H Q e c q => by
  obtain ⟨x, e1, e⟩ := bind_some e
  cases h : x.toi with
  | none => rw [h] at e; cases e
  | some i =>
    rw [h] at e
    cases e
    exact ha H0 Z O ρ x σ H _ e1 c fun v H1 s1 v1 => ⟨i, v1.toi h, q H1 s1⟩
/-- the items of xs[lo:hi] -/
def cutD (xs : List PyData) (lo hi : Option Int) : List PyData := (xs.drop (HT.sIx xs.length 0 lo)).take (HT.sIx xs.length xs.length hi - HT.sIx xs.length 0 lo)
theorem cut_dpa {H : Hp} {ds : List PyData} {vs : List V} (lo hi : Option Int) (h : DpAll K H vs ds) : DpAll K H (cutV vs lo hi) (cutD ds lo hi) := by
  unfold cutV cutD
  rw [dpa_len h]
  exact dpa_take _ (dpa_drop _ h)
def slR (a : Res) (lo hi : Option Int) : Option Res := match a.tup with
  | some ds => some (.sh (.tuple (cutD ds lo hi)))
  | none => match a.lst with
    | some ds => some (.fr (cutD ds lo hi))
    | none => none
def rSl2 (K : PySem.W.Frag) : V → Option Int → Option Int → Hp → VK → Prop := fun x lo hi H Q => rSlA K x lo hi H Q ∨ rSlL K x lo hi H Q
theorem sl_2 {X : Cx} : SlR X (rSl2 X.K) := sl_tupA.or sl_list
theorem sIx_full {n : Nat} {lo hi : Option Int} {xs : List PyData} (hn : n = xs.length) (h : HT.sIx n 0 lo = 0 ∧ HT.sIx n n hi = n) : cutD xs lo hi = xs := by
  subst hn
  unfold cutD
  rw [h.1, h.2, List.drop_zero, Nat.sub_zero, List.take_length]
@[simp] def eSl (a : Rh → Option Res) (lo hi : Po) : Rh → Option Res := fun ρ => (a ρ).bind fun x => (lo ρ).bind fun l => (hi ρ).bind fun h => slR x l h
theorem eok_sl {ta : TE} {tl th : TO} {a : Rh → Option Res} {lo hi : Po} (ha : EOk K ta a) (hl : OOk K tl lo) (hh : OOk K th hi) : EOk K (tSl (rSl2 K) ta tl th) (eSl a lo hi) :=
  fun H0 Z O ρ z σ H Q e c q => by
    obtain ⟨x, e1, e⟩ := bind_some e
    obtain ⟨l, e2, e⟩ := bind_some e
    obtain ⟨h, e3, e⟩ := bind_some e
    refine ha H0 Z O ρ x σ H _ e1 c fun v H1 s1 v1 => hl H0 Z O ρ l σ H1 _ e2 (c.mono s1) fun H2 s2 => hh H0 Z O ρ h σ H2 _ e3 (c.mono (s1.trans s2)) fun H3 s3 => ?_
    have s13 := s2.trans s3
    have s03 := s1.trans s13
    have v3 := v1.mono s13
    have b3 := c.bs.mono s03
    unfold slR at e
    cases ht : x.tup with
    | some ds =>
      rw [ht] at e
      cases e
      obtain ⟨p, vs, rfl, hs, hd⟩ := v3.tup ht
      refine .inl ⟨p, vs, rfl, Same.tup off_le hs, fun w => ?_, fun _ u hu => ?_⟩
      · rw [sIx_full (dpa_len hd) w] at q
        exact q _ H3 s03 (Dp.tup hs hd)
      · exact q _ _ (s03.trans (same_new hu)) (Vl.newT b3 hu (cut_dpa l h hd))
    | none =>
      rw [ht] at e
      cases hx : x.lst with
      | none => simp only [hx] at e; cases e
      | some ds =>
        simp only [hx] at e
        cases e
        obtain ⟨p, vs, rfl, hs, hd⟩ := v3.lst hx
        exact .inr ⟨p, vs, rfl, hs, fun u hu => q _ _ (s03.trans (same_new hu)) (Vl.newL b3 s03 hu (cut_dpa l h hd))⟩
/-- with a step: lists -/
def pickD {α : Type} (xs : List α) (lo hi st : Option Int) : List α :=
  (sliceRange (sliceBounds lo hi st xs.length).1 (sliceBounds lo hi st xs.length).2.1 (sliceBounds lo hi st xs.length).2.2).filterMap (xs[·]?)
theorem pick_vals {its : List Value} {vs : List V} (r : Vals vs its) (lo hi st : Option Int) : Vals (pickD vs lo hi st) (slicePick its.toArray lo hi st).toList := by
  unfold slicePick pickD
  rw [List.size_toArray, r.length]
  generalize sliceRange _ _ _ = ks
  simp only []
  induction ks with
  | nil => exact .nil
  | cons k ks ih =>
    rw [List.filterMap_cons, List.filterMap_cons]
    have e : its.toArray[k]? = its[k]? := by simp
    cases h : vs[k]? with
    | none =>
      have h2 := r.none_of h
      rw [e, h2]
      exact ih
    | some x =>
      obtain ⟨u, h2, h3⟩ := r.get h
      rw [e, h2]
      exact .cons h3 ih
theorem pick_dpa {H : Hp} {ds : List PyData} {vs : List V} (lo hi st : Option Int) (h : DpAll K H vs ds) : DpAll K H (pickD vs lo hi st) (pickD ds lo hi st) := by
  unfold pickD
  rw [dpa_len h]
  generalize sliceRange _ _ _ = ks
  induction ks with
  | nil => exact .nil
  | cons k ks ih =>
    rw [List.filterMap_cons, List.filterMap_cons]
    cases e : ds[k]? with
    | none =>
      have h2 : vs[k]? = none := by
        rw [List.getElem?_eq_none_iff] at e ⊢
        rw [dpa_len h]
        exact e
      rw [h2]
      exact ih
    | some d =>
      obtain ⟨v, h2, h3⟩ := dpa_get h e
      rw [h2]
      exact .cons h3 ih
theorem pick_len {α : Type} (xs : List α) (lo hi st : Option Int) (h : st ≠ some 0) : (pickD xs lo hi st).length ≤ xs.length := by
  unfold pickD
  refine Nat.le_trans (List.length_filterMap_le _ _) ?_
  have hp : (sliceBounds lo hi st xs.length).2.2 > 0 → 0 ≤ (sliceBounds lo hi st xs.length).1 ∧ (sliceBounds lo hi st xs.length).2.1 ≤ xs.length := fun hs => by
    have hs' : st.getD 1 > 0 := hs
    unfold sliceBounds
    simp only [hs', if_true]
    cases lo <;> cases hi <;> simp only [] <;> (try split) <;> (try split) <;> omega
  have hm : ¬ (sliceBounds lo hi st xs.length).2.2 > 0 → (sliceBounds lo hi st xs.length).1 ≤ (xs.length : Int) - 1 ∧ -1 ≤ (sliceBounds lo hi st xs.length).2.1 := fun hs => by
    have hs' : ¬ st.getD 1 > 0 := hs
    unfold sliceBounds
    simp only [hs', if_false]
    cases lo <;> cases hi <;> simp only [] <;> (try split) <;> (try split) <;> omega
  refine Nat.le_trans (sliceRange_len_le _ _ _ ?_) ?_
  · show st.getD 1 ≠ 0
    cases st with
    | none => decide
    | some k => exact fun z => h (congrArg some z)
  · split
    · rename_i hs
      have := hp hs
      omega
    · rename_i hs
      have := hm hs
      omega
def rSl3 (K : PySem.W.Frag) (x : V) (lo hi st : Option Int) (H : Hp) (Q : VK) : Prop := ∃ a xs, x = .ref a ∧ SqL K H a xs ∧ st ≠ some 0 ∧ ∀ p, H p = none → Q (.ref p) (upd H p (.lst (pickD xs lo hi st)))
def tSl3 (K : PySem.W.Frag) (te : TE) (tl th ts : TO) : TE := fun σ H Q => te σ H fun x H1 => tl σ H1 fun l H2 => th σ H2 fun u H3 => ts σ H3 fun k H4 => rSl3 K x l u k H4 Q
theorem pe_slice3 {X : Cx} {e st : Expr} {te : TE} {lo hi : Option Expr} {tl th ts : TO} {pos p2 : Pos} (he : PE X e te) (hl : PO X lo tl) (hu : PO X hi th) (hs : PO X (some st) ts) :
    PE X (.Subscript e (.Slice lo hi (some st) p2) pos) (tSl3 X.K te tl th ts) := by
  refine ⟨fun pins s σ H Q I h => Subscript_ (thn (he.run pins s σ H _ I h) fun v s1 ⟨x, H1, I1, r1, q1⟩ => ?_)⟩
  refine wpAny_Slice (thn (hl.run pins s1 σ H1 _ I1 q1) fun vl s2 ⟨l, H2, I2, pl, q2⟩ => thn (hu.run pins s2 σ H2 _ I2 q2) fun vu s3 ⟨u, H3, I3, pu, q3⟩ =>
    thn (hs.run pins s3 σ H3 _ I3 q3) fun vk s4 ⟨k, H4, I4, pk, q4⟩ => ?_)
  have I5 : Inv X pins σ H4 { s4 with heap := s4.heap.push { cls := .type "slice", data := .fields #[vl, vu, vk] } } := I4.kept (t' := s4.toks) fun b ob q => Heap.get?_push_of_some _ q
  obtain ⟨a, xs, rfl, hx, h0, q⟩ := q4
  cases r1
  obtain ⟨its, r, ht, hz⟩ := I5.list hx
  show wpAny (model X.prog X.w) X.A (subscriptTail e (.Slice lo hi (some st) p2) (.ref a) (.ref s4.heap.objs.size)) (EP X pins σ Q) X.xe _
  refine tail_any (ops := [.ref a, .ref s4.heap.objs.size]) ht.isList.typeIs slot_list_getitem.lookup ?_ (by with_unfolding_all rfl)
  refine wpAny_getItem_list_slice ht.isList (Heap.IsSliceOf.new ..) pl pu pk h0 ?_ (by rw [List.size_toArray, ← r.length]; exact hz)
  have hv := pick_vals r l u k
  refine ⟨.ref _, _, I5.laid (t' := s4.toks) (o := .lst (pickD xs l u k)) (fun b ob q => Heap.get?_push_of_some _ q) (Nat.le_refl _) ?_, rfl, q _ (I5.hok.fresh (Nat.le_refl _))⟩
  exact ⟨Nat.le_trans (pick_len xs l u k h0) hz, _, 0, hv, by rw [Array.toArray_toList]; exact Heap.get?_push_size _ rfl⟩
def eSl3 (a : Rh → Option Res) (lo hi st : Po) : Rh → Option Res := fun ρ => (a ρ).bind fun x => (lo ρ).bind fun l => (hi ρ).bind fun h => (st ρ).bind fun k => match x.lst with
  | some ds => if k ≠ some 0 then some (.fr (pickD ds l h k)) else none
  | none => none
theorem eok_sl3 {ta : TE} {tl th ts : TO} {a : Rh → Option Res} {lo hi st : Po} (ha : EOk K ta a) (hl : OOk K tl lo) (hh : OOk K th hi) (hs : OOk K ts st) : EOk K (tSl3 K ta tl th ts) (eSl3 a lo hi st) :=
  fun H0 Z O ρ z σ H Q e c q => by
    obtain ⟨x, e1, e⟩ := bind_some e
    obtain ⟨l, e2, e⟩ := bind_some e
    obtain ⟨h, e3, e⟩ := bind_some e
    obtain ⟨k, e4, e⟩ := bind_some e
    refine ha H0 Z O ρ x σ H _ e1 c fun v H1 s1 v1 => hl H0 Z O ρ l σ H1 _ e2 (c.mono s1) fun H2 s2 => hh H0 Z O ρ h σ H2 _ e3 (c.mono (s1.trans s2)) fun H3 s3 =>
      hs H0 Z O ρ k σ H3 _ e4 (c.mono ((s1.trans s2).trans s3)) fun H4 s4 => ?_
    have s14 := (s2.trans s3).trans s4
    have s04 := s1.trans s14
    cases hx : x.lst with
    | none => simp only [hx] at e; cases e
    | some ds =>
      simp only [hx] at e
      obtain ⟨h0, rfl⟩ := ite_some e
      obtain ⟨p, vs, rfl, hs, hd⟩ := (v1.mono s14).lst hx
      exact ⟨p, vs, rfl, hs, h0, fun u hu => q _ _ (s04.trans (same_new hu)) (Vl.newL (c.bs.mono s04) s04 hu (pick_dpa l h k hd))⟩
end
end F3
set_option maxRecDepth 100000
namespace F3
open PySem PySem.Spec PyProof.Rows L2
section
variable {K : PySem.W.Frag}
/-! ### built-ins of one value -/
def on1 (g : Res → Option Res) : List Res → Option Res
  | [a] => g a
  | _ => none
theorem cr_1 {r : List V → Hp → VK → Prop} {g : Res → Option Res}
    (h : ∀ (H0 : Hp) (Z O : List Addr) (Hs H : Hp) (x : V) (a c : Res) (Q : VK), g a = some c → Bs H0 Z O H → Same Hs H → Vl K H0 Hs O H a x → (∀ v H', Same H H' → Vl K H0 Hs O H' c v → Q v H') → r [x] H Q) :
    CRok K r (on1 g) := fun H0 Z O Hs H xs as c Q e bs sm v k => by
  unfold on1 at e
  split at e
  · cases v with
    | cons v1 vr =>
      cases vr
      exact h H0 Z O Hs H _ _ c Q e bs sm v1 k
  · cases e
theorem seq_len {H : Hp} {O : List Addr} {ds : List PyData} {vs : List V} (h : DpAll K (off H O) vs ds) : vs.length = ds.length := dpa_len h
def lenR (a : Res) : Option Res := match a.tos with
  | some x => if x.length ≤ LIM then some (.sh (.int x.length)) else none
  | none => match a.seq with
    | some ds => some (.sh (.int ds.length))
    | none => none
def rLen (K : PySem.W.Frag) : List V → Hp → VK → Prop := fun xs H Q => (∃ p ys, xs = [.ref p] ∧ (SqL K H p ys ∨ SqT K H p ys) ∧ Q (.int ys.length) H) ∨ ∃ z, xs = [.str z] ∧ z.length ≤ sizeLine ∧ Q (.int z.length) H
theorem call_lenA {X : Cx} : CallR X (.builtin "len") (rLen X.K) := call_len_seq.or call_len_str
theorem cr_len : CRok K (rLen K) (on1 lenR) := cr_1 fun H0 Z O Hs H x a c Q e bs sm v k => by
  unfold lenR at e
  cases h : a.tos with
  | some z =>
    rw [h] at e
    obtain ⟨hl, rfl⟩ := ite_some e
    exact .inr ⟨z, by rw [v.tos h], lim_line hl, k _ H (Same.refl H) .int⟩
  | none =>
    rw [h] at e
    cases h2 : a.seq with
    | none => simp only [h2] at e; cases e
    | some ds =>
      simp only [h2] at e
      cases e
      obtain ⟨p, vs, rfl, hs, hd⟩ := v.seq h2
      refine .inl ⟨p, vs, rfl, hs, k _ H (Same.refl H) ?_⟩
      rw [dpa_len hd]
      exact .int
def absR (a : Res) : Option Res := match a.toi with
  | some i => some (.sh (.int (if i < 0 then -i else i)))
  | none => none
theorem toi_some {a : Res} {α : Type} {f : Int → Option α} {c : α} (h : (match a.toi with | some i => f i | none => none) = some c) : ∃ i, a.toi = some i ∧ f i = some c := by
  cases e : a.toi with
  | none => rw [e] at h; cases h
  | some i => rw [e] at h; exact ⟨i, rfl, h⟩
theorem cr_abs : CRok K (fun xs H Q => ∃ i, xs = [.int i] ∧ Q (.int (if i < 0 then -i else i)) H) (on1 absR) := cr_1 fun H0 Z O Hs H x a c Q e bs sm v k => by
  obtain ⟨i, h1, h2⟩ := toi_some (f := fun i => some (Res.sh (.int (if i < 0 then -i else i)))) e
  cases h2
  exact ⟨i, by rw [v.toi h1], k _ H (Same.refl H) .int⟩
/-- int(x) of an int, a bool -/
def intR (a : Res) : Option Res := match a with
  | .sh (.int i) => some (.sh (.int i))
  | .sh (.bool b) => some (.sh (.int (if b then 1 else 0)))
  | _ => none
theorem cr_int : CRok K (fun xs H Q => (∃ i, xs = [.int i] ∧ Q (.int i) H) ∨ ∃ k, xs = [.bl k] ∧ Q (.int (if k then 1 else 0)) H) (on1 intR) := cr_1 fun H0 Z O Hs H x a c Q e bs sm v k => by
  unfold intR at e
  split at e
  · cases e
    exact .inl ⟨_, by rw [v.to_int], k _ H (Same.refl H) .int⟩
  · cases e
    exact .inr ⟨_, by rw [v.to_bool], k _ H (Same.refl H) .int⟩
  · cases e
/-- str(x) of an int, a text -/
def strR (a : Res) : Option Res := match a with
  | .sh (.int i) => if i.natAbs.log2 < 1920 then some (.sh (.str (toString i))) else none
  | .sh (.str x) => some (.sh (.str x))
  | _ => none
def rStr : List V → Hp → VK → Prop := fun xs H Q => (∃ i, xs = [.int i] ∧ i.natAbs.log2 < 1920 ∧ Q (.str (toString i)) H) ∨ ∃ a, xs = [.str a] ∧ Q (.str a) H
theorem call_strA {X : Cx} : CallR X (.type "str") rStr := call_str_int.or SkE.call_str_str
theorem cr_str : CRok K rStr (on1 strR) := cr_1 fun H0 Z O Hs H x a c Q e bs sm v k => by
  unfold strR at e
  split at e
  · obtain ⟨hl, rfl⟩ := ite_some e
    exact .inl ⟨_, by rw [v.to_int], hl, k _ H (Same.refl H) .str⟩
  · cases e
    exact .inr ⟨_, by rw [v.to_str], k _ H (Same.refl H) .str⟩
  · cases e
/-- list(x), tuple(x) -/
def listR (a : Res) : Option Res := match a.seq with
  | some ds => some (.fr ds)
  | none => none
def tupR (a : Res) : Option Res := match a.seq with
  | some ds => some (.sh (.tuple ds))
  | none => none
theorem cr_list : CRok K (fun xs H Q => ∃ p ys, xs = [.ref p] ∧ (SqL K H p ys ∨ SqT K H p ys) ∧ ∀ l, H l = none → Q (.ref l) (upd H l (.lst ys))) (on1 listR) := cr_1 fun H0 Z O Hs H x a c Q e bs sm v k => by
  unfold listR at e
  cases h2 : a.seq with
  | none => simp only [h2] at e; cases e
  | some ds =>
    simp only [h2] at e
    cases e
    obtain ⟨p, vs, rfl, hs, hd⟩ := v.seq h2
    exact ⟨p, vs, rfl, hs, fun l hl => k _ _ (same_new hl) (Vl.newL bs sm hl hd)⟩
theorem cr_tuple : CRok K (fun xs H Q => ∃ p ys, xs = [.ref p] ∧ ((SqL K H p ys ∧ ∀ l, H l = none → Q (.ref l) (upd H l (.tup ys))) ∨ (SqT K H p ys ∧ Q (.ref p) H))) (on1 tupR) := cr_1 fun H0 Z O Hs H x a c Q e bs sm v k => by
  unfold tupR at e
  cases h2 : a.seq with
  | none => simp only [h2] at e; cases e
  | some ds =>
    simp only [h2] at e
    cases e
    cases ht : a.tup with
    | some es =>
      obtain ⟨p, vs, rfl, hs, hd⟩ := v.tup ht
      have ee : es = ds := by
        cases a with
        | sh d => cases d <;> simp only [Res.tup, Res.seq, Res.lst] at ht h2 <;> cases ht <;> cases h2; rfl
        | fr xs => cases ht
        | bo xs => cases ht
      subst ee
      exact ⟨p, vs, rfl, .inr ⟨Same.tup off_le hs, k _ H (Same.refl H) (Dp.tup hs hd)⟩⟩
    | none =>
      have hl : a.lst = some ds := by
        cases a with
        | sh d => cases d <;> simp only [Res.tup, Res.seq, Res.lst] at ht h2 ⊢ <;> first | (cases ht; done) | exact h2 | cases h2
        | fr xs => exact h2
        | bo xs => exact h2
      obtain ⟨p, vs, rfl, hs, hd⟩ := v.lst hl
      exact ⟨p, vs, rfl, .inl ⟨hs, fun l hl => k _ _ (same_new hl) (Vl.newT bs hl hd)⟩⟩
/-! ### lists of ints -/
def toInts : List PyData → Option (List Int)
  | [] => some []
  | .int i :: r => match toInts r with
    | some is => some (i :: is)
    | none => none
  | _ => none
theorem toInts_eq : ∀ {ds : List PyData} {ns : List Int}, toInts ds = some ns → ds = ns.map .int
  | [], _, h => by cases h; rfl
  | .int i :: r, _, h => by
    unfold toInts at h
    cases e : toInts r with
    | none => rw [e] at h; cases h
    | some is =>
      rw [e] at h
      cases h
      rw [toInts_eq e]
      rfl
  | .none :: _, _, h => by cases h
  | .bool _ :: _, _, h => by cases h
  | .str _ :: _, _, h => by cases h
  | .list _ :: _, _, h => by cases h
  | .tuple _ :: _, _, h => by cases h
  | .dict _ :: _, _, h => by cases h
theorem toInts_map : ∀ ns : List Int, toInts (ns.map .int) = some ns
  | [] => rfl
  | n :: ns => by
    show (match toInts (ns.map .int) with | some is => some (n :: is) | none => none) = _
    rw [toInts_map ns]
def maxL : List Int → Int
  | [] => 0
  | [x] => x
  | x :: y :: r => max x (maxL (y :: r))
def minL : List Int → Int
  | [] => 0
  | [x] => x
  | x :: y :: r => min x (minL (y :: r))
theorem maxL_le : ∀ (ns : List Int) (y : Int), y ∈ ns → y ≤ maxL ns
  | [x], y, h => by rcases List.mem_cons.mp h with rfl | h; exact Int.le_refl _; cases h
  | x :: z :: r, y, h => by
    unfold maxL
    rcases List.mem_cons.mp h with rfl | h
    · omega
    · have := maxL_le (z :: r) y h
      omega
theorem maxL_mem : ∀ (ns : List Int), ns ≠ [] → maxL ns ∈ ns
  | [], h => absurd rfl h
  | [x], _ => List.mem_cons_self
  | x :: z :: r, _ => by
    have := maxL_mem (z :: r) (by simp)
    unfold maxL
    by_cases h : x ≤ maxL (z :: r)
    · rw [Int.max_eq_right h]; exact List.mem_cons_of_mem _ this
    · rw [Int.max_eq_left (by omega)]; exact List.mem_cons_self
theorem minL_le : ∀ (ns : List Int) (y : Int), y ∈ ns → minL ns ≤ y
  | [x], y, h => by rcases List.mem_cons.mp h with rfl | h; exact Int.le_refl _; cases h
  | x :: z :: r, y, h => by
    unfold minL
    rcases List.mem_cons.mp h with rfl | h
    · omega
    · have := minL_le (z :: r) y h
      omega
theorem minL_mem : ∀ (ns : List Int), ns ≠ [] → minL ns ∈ ns
  | [], h => absurd rfl h
  | [x], _ => List.mem_cons_self
  | x :: z :: r, _ => by
    have := minL_mem (z :: r) (by simp)
    unfold minL
    by_cases h : x ≤ minL (z :: r)
    · rw [Int.min_eq_left h]; exact List.mem_cons_self
    · rw [Int.min_eq_right (by omega)]; exact List.mem_cons_of_mem _ this
/-- max, min of a list of ints, or of two ints -/
def mmR (f : List Int → Int) : List Res → Option Res
  | [a] => match a.lst with
    | some ds => match toInts ds with
      | some ns => if ns ≠ [] then some (.sh (.int (f ns))) else none
      | none => none
    | none => none
  | [a, b] => match a.toi, b.toi with
    | some i, some j => some (.sh (.int (f [i, j])))
    | _, _ => none
  | _ => none
def rMaxA (K : PySem.W.Frag) : List V → Hp → VK → Prop := fun xs H Q => rMax K xs H Q ∨ ∃ i j, xs = [.int i, .int j] ∧ Q (.int (if j > i then j else i)) H
def rMinA (K : PySem.W.Frag) : List V → Hp → VK → Prop := fun xs H Q => rMin K xs H Q ∨ ∃ i j, xs = [.int i, .int j] ∧ Q (.int (if j < i then j else i)) H
theorem call_maxA {X : Cx} (hc : X.calm = true) : CallR X (.builtin "max") (rMaxA X.K) := (L2.cr_max hc).or (call_max2 hc)
theorem call_minA {X : Cx} (hc : X.calm = true) : CallR X (.builtin "min") (rMinA X.K) := (L2.cr_min hc).or (call_min2 hc)
theorem mm_some {f : List Int → Int} {as : List Res} {c : Res} (e : mmR f as = some c) :
    (∃ a ds ns, as = [a] ∧ a.lst = some ds ∧ ds = ns.map PyData.int ∧ ns ≠ [] ∧ c = .sh (.int (f ns))) ∨ ∃ a b i j, as = [a, b] ∧ a.toi = some i ∧ b.toi = some j ∧ c = .sh (.int (f [i, j])) := by
  unfold mmR at e
  split at e
  · rename_i a
    cases h1 : a.lst with
    | none => rw [h1] at e; cases e
    | some ds =>
      cases h2 : toInts ds with
      | none => rw [h1] at e; simp only [h2] at e; cases e
      | some ns =>
        rw [h1] at e
        simp only [h2] at e
        obtain ⟨hn, rfl⟩ := ite_some e
        exact .inl ⟨a, ds, ns, rfl, h1, toInts_eq h2, hn, rfl⟩
  · rename_i a b
    cases h1 : a.toi with
    | none => rw [h1] at e; cases e
    | some i =>
      cases h2 : b.toi with
      | none => rw [h1, h2] at e; cases e
      | some j =>
        rw [h1, h2] at e
        cases e
        exact .inr ⟨a, b, i, j, rfl, h1, h2, rfl⟩
  · cases e
theorem cr_maxA : CRok K (rMaxA K) (mmR maxL) := fun H0 Z O Hs H xs as c Q e bs sm v k => by
  rcases mm_some e with ⟨a, ds, ns, rfl, h1, rfl, hn, rfl⟩ | ⟨a, b, i, j, rfl, h1, h2, rfl⟩
  · cases v with
    | cons v1 vr =>
      cases vr
      obtain ⟨p, vs, rfl, hs, hd⟩ := v1.lst h1
      have ev := dpa_toInts hd
      subst ev
      refine .inl ⟨p, ns, rfl, hs, List.length_pos_iff.mpr hn, fun m hm hle => ?_⟩
      have e1 : m = maxL ns := Int.le_antisymm (maxL_le ns m hm) (hle _ (maxL_mem ns hn))
      rw [e1]
      exact k _ H (Same.refl H) .int
  · cases v with
    | cons v1 vr =>
      cases vr with
      | cons v2 vr =>
        cases vr
        refine .inr ⟨i, j, by rw [v1.toi h1, v2.toi h2], ?_⟩
        have e1 : (if j > i then j else i) = maxL [i, j] := by
          show _ = max i j
          split <;> omega
        rw [e1]
        exact k _ H (Same.refl H) .int
theorem cr_minA : CRok K (rMinA K) (mmR minL) := fun H0 Z O Hs H xs as c Q e bs sm v k => by
  rcases mm_some e with ⟨a, ds, ns, rfl, h1, rfl, hn, rfl⟩ | ⟨a, b, i, j, rfl, h1, h2, rfl⟩
  · cases v with
    | cons v1 vr =>
      cases vr
      obtain ⟨p, vs, rfl, hs, hd⟩ := v1.lst h1
      have ev := dpa_toInts hd
      subst ev
      refine .inl ⟨p, ns, rfl, hs, List.length_pos_iff.mpr hn, fun m hm hle => ?_⟩
      have e1 : m = minL ns := Int.le_antisymm (hle _ (minL_mem ns hn)) (minL_le ns m hm)
      rw [e1]
      exact k _ H (Same.refl H) .int
  · cases v with
    | cons v1 vr =>
      cases vr with
      | cons v2 vr =>
        cases vr
        refine .inr ⟨i, j, by rw [v1.toi h1, v2.toi h2], ?_⟩
        have e1 : (if j < i then j else i) = minL [i, j] := by
          show _ = min i j
          split <;> omega
        rw [e1]
        exact k _ H (Same.refl H) .int
def sumR (a : Res) : Option Res := match a.lst with
  | some ds => match toInts ds with
    | some ns => some (.sh (.int ns.sum))
    | none => none
  | none => none
theorem cr_sumA : CRok K (rSum K) (on1 sumR) := cr_1 fun H0 Z O Hs H x a c Q e bs sm v k => by
  unfold sumR at e
  cases h1 : a.lst with
  | none => rw [h1] at e; cases e
  | some ds =>
    cases h2 : toInts ds with
    | none => rw [h1] at e; simp only [h2] at e; cases e
    | some ns =>
      rw [h1] at e
      simp only [h2] at e
      cases e
      obtain ⟨p, vs, rfl, hs, hd⟩ := v.lst h1
      have e3 := toInts_eq h2
      subst e3
      have ev := dpa_toInts hd
      subst ev
      exact ⟨p, ns, rfl, hs, k _ H (Same.refl H) .int⟩

/-! ### isinstance -/
inductive Kd where
  | int | bool | str | list | tuple
  deriving DecidableEq
def Kd.nm : Kd → String
  | .int => "int" | .bool => "bool" | .str => "str" | .list => "list" | .tuple => "tuple"
def isK : Kd → PyData → Bool
  | .int, .int _ => true
  | .int, .bool _ => true
  | .bool, .bool _ => true
  | .str, .str _ => true
  | .list, .list _ => true
  | .tuple, .tuple _ => true
  | _, _ => false
def tyN : PyData → String
  | .none => "NoneType" | .bool _ => "bool" | .int _ => "int" | .str _ => "str" | .list _ => "list" | .tuple _ => "tuple" | .dict _ => "dict"
theorem kit_tab : ∀ k : Kd, ∀ d : PyData, (∀ kvs, d ≠ .dict kvs) → kitB (tyN d) k.nm = some (isK k d) := by
  have t : ∀ k : Kd, kitB "NoneType" k.nm = some false ∧ kitB "bool" k.nm = some (isK k (.bool true)) ∧ kitB "int" k.nm = some (isK k (.int 0)) ∧
      kitB "str" k.nm = some (isK k (.str "")) ∧ kitB "list" k.nm = some (isK k (.list [])) ∧ kitB "tuple" k.nm = some (isK k (.tuple [])) := by
    intro k
    cases k <;> decide +kernel
  intro k d hd
  obtain ⟨h1, h2, h3, h4, h5, h6⟩ := t k
  cases d with
  | none => rw [show tyN .none = "NoneType" from rfl, h1]; cases k <;> rfl
  | bool b => rw [show tyN (.bool b) = "bool" from rfl, h2]; cases k <;> rfl
  | int b => rw [show tyN (.int b) = "int" from rfl, h3]; cases k <;> rfl
  | str b => rw [show tyN (.str b) = "str" from rfl, h4]; cases k <;> rfl
  | list b => rw [show tyN (.list b) = "list" from rfl, h5]; cases k <;> rfl
  | tuple b => rw [show tyN (.tuple b) = "tuple" from rfl, h6]; cases k <;> rfl
  | dict b => exact absurd rfl (hd b)
theorem dp_ty {H : Hp} {v : V} {d : PyData} (h : Dp K H v d) : TyX K H v (.type (tyN d)) ∧ ∀ kvs, d ≠ .dict kvs := by
  cases h with
  | non => exact ⟨.base .non, fun _ z => by cases z⟩
  | bl b => exact ⟨.base (.bl b), fun _ z => by cases z⟩
  | int b => exact ⟨.base (.int b), fun _ z => by cases z⟩
  | str b => exact ⟨.base (.str b), fun _ z => by cases z⟩
  | lst hs _ =>
    refine ⟨?_, fun _ z => by cases z⟩
    rcases hs with (h | ⟨o, h⟩) | ⟨o, its, n, h1, h2, _⟩
    · exact .base (.lst h)
    · exact .base (.frz h)
    · exact .kList h1 h2
  | tup hs _ =>
    refine ⟨?_, fun _ z => by cases z⟩
    rcases hs with (h | ⟨o, h⟩) | ⟨o, its, n, h1, h2, _⟩
    · exact .base (.tup h)
    · exact .fTuple h
    · exact .kTuple h1 h2
@[simp] def eIsi (k : Kd) (a : Rh → Option Res) : Rh → Option Res := fun ρ => (a ρ).bind fun r => some (.sh (.bool (isK k r.dat)))
theorem eok_isi (k : Kd) {ta : TE} {a : Rh → Option Res} (ha : EOk K ta a) : EOk K (tCB (rIsi K) (tCons ta (tCons (tC (.ty k.nm)) tNil))) (eIsi k a) := fun H0 Z O ρ z σ H Q e c q => by
  obtain ⟨x, e1, e⟩ := bind_some e
  cases e
  refine ha H0 Z O ρ x σ H _ e1 c fun v H1 s1 v1 => ?_
  obtain ⟨ty, nd⟩ := dp_ty v1.full
  exact ⟨v, .ty k.nm, _, _, _, rfl, .ty _, ty, kit_ty (kit_tab k _ nd), q _ H1 s1 .bool⟩

/-! ### repr -/
def reprR (a : Res) : Option Res := if a.dat.showable = true ∧ SeqAt.shaped a.dat = true ∧ a.dat.shown.length ≤ LIM then some (.sh (.str a.dat.shown)) else none
def rRepr (K : PySem.W.Frag) : List V → Hp → VK → Prop := fun xs H Q => ∃ x d, xs = [x] ∧ Dp K H x d ∧ d.showable = true ∧ SeqAt.shaped d = true ∧ d.shown.length ≤ sizeLine ∧ Q (.str d.shown) H
theorem call_repr {X : Cx} (hG : X.A.guards = some []) (hu : X.A.units + 66 < cLine) : CallR X (.builtin "repr") (rRepr X.K) := fun pins s σ H xs us Q I r h => by
  obtain ⟨x, d, rfl, hd, hs, sh, hl, q⟩ := h
  obtain ⟨u, rfl, ru⟩ := vals1 r
  have nd := PyData.hasDict_of_canLay d (SeqAt.canLay_of_shaped sh)
  have dep := SeqAt.depth_of_shaped sh
  obtain ⟨as, rd⟩ := Dp.reads I d x u hd ru
  have ref : ∀ a : Addr, u = .ref a → wpAny (model X.prog X.w) X.A (call (.builtin "repr") [u]) (EP X pins σ Q) X.xe s := fun a e => by
    subst e
    exact repr_of_reads' rd hs (fun z => by rw [nd] at z; cases z) hG (by omega) (fun _ _ e => e) (fun h' w tk k => ⟨.str d.shown, H, I.kept k, ⟨_, rfl⟩, q⟩) hl
  cases hd with
  | non => cases ru; exact PySem.P.repr_of_none ⟨.str _, H, I.tok _, ⟨_, rfl⟩, by simpa only [PyData.shown] using q⟩
  | bl b => cases ru; exact PySem.P.repr_of_bool ⟨.str _, H, I.tok _, ⟨_, rfl⟩, by simpa only [PyData.shown] using q⟩
  | int i =>
    obtain ⟨t, rfl⟩ := ru
    exact PySem.P.repr_of_int (by simpa [PyData.showable] using hs) ⟨.str _, H, I.tok _, ⟨_, rfl⟩, by simpa only [PyData.shown] using q⟩
  | str z =>
    obtain ⟨t, rfl⟩ := ru
    exact PySem.P.repr_of_str ⟨.str _, H, I.tok _, ⟨_, rfl⟩, by simpa only [PyData.shown] using q⟩ (by simpa only [PyData.shown] using hl)
  | lst _ _ => cases ru; exact ref _ rfl
  | tup _ _ => cases ru; exact ref _ rfl
theorem cr_repr : CRok K (rRepr K) (on1 reprR) := cr_1 fun H0 Z O Hs H x a c Q e bs sm v k => by
  obtain ⟨⟨h1, h2, h3⟩, rfl⟩ := ite_some e
  exact ⟨x, a.dat, rfl, v.full, h1, h2, lim_line h3, k _ H (Same.refl H) .str⟩
end
end F3
set_option maxRecDepth 100000
namespace F3
open PySem PySem.Spec PyProof.Rows L2
section
variable {K : PySem.W.Frag}

/-! ### what is walked -/
def ItOk (K : PySem.W.Frag) (H0 : Hp) (Z : List Addr) (J : It) (O : List Addr) (H1 : Hp) (items : List PyData) : Prop := ∀ (O' : List Addr) (H' : Hp), Bs H0 Z O' H' → Same (off H1 O) (off H' O') →
  (∀ i d, items[i]? = some d → J.go i H' ∧ ∀ x H'', J.yld i H' x H'' → Same H' H'' ∧ Dp K (off H'' O') x d) ∧ ∀ i, items.length ≤ i → J.stop i H'
def IOk (K : PySem.W.Frag) (wi : TI) (f : Rh → Option (List PyData)) : Prop := ∀ (H0 : Hp) (Z O : List Addr) (ρ : Rh) (items : List PyData) (σ : L2.St) (H : Hp) (R : It → Hp → Prop),
  f ρ = some items → Cor K H0 Z O ρ σ H → (∀ J H', Same H H' → ItOk K H0 Z J O H' items → R J H') → wi σ H R
theorem pi_or {X : Cx} {tg e : Expr} {w1 w2 : TI} (h1 : PI X tg e w1) (h2 : PI X tg e w2) : PI X tg e (fun σ H R => w1 σ H R ∨ w2 σ H R) :=
  ⟨fun pins s σ H R I h => h.elim (h1.run pins s σ H R I) (h2.run pins s σ H R I)⟩
def iSeq (K : PySem.W.Frag) (t : TE) : TI := fun σ H R => iList K t σ H R ∨ iTup K t σ H R
theorem pi_seq {X : Cx} {tg e : Expr} {t : TE} (h : PE X e t) : PI X tg e (iSeq X.K t) := pi_or (pi_list h) (pi_tup h)
def itSeq (a : Rh → Option Res) : Rh → Option (List PyData) := fun ρ => (a ρ).bind fun r => match r with
  | .sh (.list ds) => some ds
  | .sh (.tuple ds) => some ds
  | .fr ds => some ds
  | _ => none
theorem it_list {H0 H1 : Hp} {Z O : List Addr} {p : Addr} {vs : List V} {ds : List PyData} (hs : SqL K (off H1 O) p vs) (hd : DpAll K (off H1 O) vs ds) : ItOk K H0 Z (Itl K p) O H1 ds := fun O' H' b sm => by
  have hs' : SqL K H' p vs := off_le.seq (sm.seq hs)
  refine ⟨fun i d e => ?_, fun i hi => ⟨vs, hs', by rw [dpa_len hd]; exact hi⟩⟩
  obtain ⟨v, e1, e2⟩ := dpa_get hd e
  refine ⟨⟨vs, v, hs', e1⟩, fun x H'' y => ?_⟩
  obtain ⟨rfl, y⟩ := y
  have := y vs hs'
  rw [e1] at this
  cases this
  exact ⟨Same.refl _, dp_mono sm d v e2⟩
theorem it_tup {H0 H1 : Hp} {Z O : List Addr} {p : Addr} {vs : List V} {ds : List PyData} (hs : SqT K (off H1 O) p vs) (hd : DpAll K (off H1 O) vs ds) : ItOk K H0 Z (Itt K p) O H1 ds := fun O' H' b sm => by
  have hs' : SqT K H' p vs := Same.tup off_le (Same.tup sm hs)
  refine ⟨fun i d e => ?_, fun i hi => ⟨vs, hs', by rw [dpa_len hd]; exact hi⟩⟩
  obtain ⟨v, e1, e2⟩ := dpa_get hd e
  refine ⟨⟨vs, v, hs', e1⟩, fun x H'' y => ?_⟩
  obtain ⟨rfl, y⟩ := y
  have := y vs hs'
  rw [e1] at this
  cases this
  exact ⟨Same.refl _, dp_mono sm d v e2⟩
theorem iok_seq {t : TE} {a : Rh → Option Res} (ha : EOk K t a) : IOk K (iSeq K t) (itSeq a) := fun H0 Z O ρ items σ H R e c q => by
  obtain ⟨r, e1, e⟩ := bind_some e
  split at e
  · cases e
    refine .inl (ha H0 Z O ρ _ σ H _ e1 c fun v H1 s1 v1 => ?_)
    have v1 : Dp K (off H1 O) v (.list _) := v1
    cases v1 with
    | lst hs hd => exact ⟨_, rfl, ⟨_, off_le.seq hs⟩, q _ H1 s1 (it_list hs hd)⟩
  · cases e
    refine .inr (ha H0 Z O ρ _ σ H _ e1 c fun v H1 s1 v1 => ?_)
    have v1 : Dp K (off H1 O) v (.tuple _) := v1
    cases v1 with
    | tup hs hd => exact ⟨_, rfl, ⟨_, Same.tup off_le hs⟩, q _ H1 s1 (it_tup hs hd)⟩
  · cases e
    refine .inl (ha H0 Z O ρ _ σ H _ e1 c fun v H1 s1 v1 => ?_)
    have v2 := v1.shr rfl
    cases v2 with
    | lst hs hd => exact ⟨_, rfl, ⟨_, off_le.seq hs⟩, q _ H1 s1 (it_list hs hd)⟩
  · cases e
/-- ranges -/
def rangeD (lo c : Int) (n : Nat) : List PyData := (List.range n).map fun (k : Nat) => .int (lo + (k : Int) * c)
theorem rangeD_get {lo c : Int} {n i : Nat} {d : PyData} (h : (rangeD lo c n)[i]? = some d) : i < n ∧ d = .int (lo + (i : Int) * c) := by
  unfold rangeD at h
  rw [List.getElem?_map] at h
  by_cases hi : i < n
  · rw [List.getElem?_range hi] at h
    cases h
    exact ⟨hi, rfl⟩
  · rw [List.getElem?_eq_none (by rw [List.length_range]; omega)] at h
    cases h
theorem rangeD_len (lo c : Int) (n : Nat) : (rangeD lo c n).length = n := by unfold rangeD; rw [List.length_map, List.length_range]
theorem it_rng {H0 H1 : Hp} {Z O : List Addr} (lo : Int) (n : Nat) : ItOk K H0 Z (Itr lo n) O H1 (rangeD lo 1 n) := fun O' H' b sm => by
  refine ⟨fun i d e => ?_, fun i hi => by rw [rangeD_len] at hi; exact hi⟩
  obtain ⟨hi, rfl⟩ := rangeD_get e
  refine ⟨hi, fun x H'' y => ?_⟩
  obtain ⟨rfl, rfl⟩ := y
  rw [Int.mul_one]
  exact ⟨Same.refl _, .int _⟩
theorem it_rngC {H0 H1 : Hp} {Z O : List Addr} (lo c : Int) (n : Nat) : ItOk K H0 Z (Itc lo c n) O H1 (rangeD lo c n) := fun O' H' b sm => by
  refine ⟨fun i d e => ?_, fun i hi => by rw [rangeD_len] at hi; exact hi⟩
  obtain ⟨hi, rfl⟩ := rangeD_get e
  refine ⟨hi, fun x H'' y => ?_⟩
  obtain ⟨rfl, rfl⟩ := y
  exact ⟨Same.refl _, .int _⟩
def rOk (j : Int) : Prop := -(2 ^ 62) ≤ j ∧ j < 2 ^ 62
noncomputable instance (j : Int) : Decidable (rOk j) := Classical.propDecidable _
/-- the numbers of arguments -/
def toIs : List Res → Option (List Int)
  | [] => some []
  | r :: rs => match r.toi, toIs rs with
    | some i, some is => some (i :: is)
    | _, _ => none
theorem toIs_ok {H0 Hs H : Hp} {O : List Addr} : ∀ {rs : List Res} {vs : List V} {ns : List Int}, Paired (Vl K H0 Hs O H) rs vs → toIs rs = some ns → vs = ns.map V.int
  | [], _, _, .nil, e => by cases e; rfl
  | r :: rs, _, ns, .cons h t, e => by
    unfold toIs at e
    cases e1 : r.toi with
    | none => rw [e1] at e; cases e
    | some d =>
      cases e2 : toIs rs with
      | none => rw [e1, e2] at e; cases e
      | some es =>
        rw [e1, e2] at e
        cases e
        rw [h.toi e1, toIs_ok t e2]
        rfl
noncomputable def rngD0 : List Int → Option (List PyData)
  | [j] => if rOk j then some (rangeD 0 1 j.toNat) else none
  | [i, j] => if rOk i ∧ rOk j then some (rangeD i 1 (j - i).toNat) else none
  | [i, j, c] => if c ≠ 0 ∧ c.natAbs < 1073741824 ∧ Builtin.Range.small i j c = true ∧ 0 ≤ Builtin.Range.rangeSize i j c then some (rangeD i c (Builtin.Range.rangeSize i j c).toNat) else none
  | _ => none
/-- sealed, so that no check unfolds it -/
noncomputable def rngD : List Int → Option (List PyData) := Classical.choose (⟨rngD0, rfl⟩ : ∃ g, g = rngD0)
theorem rngD_eq : rngD = rngD0 := Classical.choose_spec (⟨rngD0, rfl⟩ : ∃ g, g = rngD0)
@[simp] noncomputable def itRng (as : Rh → Option (List Res)) : Rh → Option (List PyData) := fun ρ => (as ρ).bind fun rs => (toIs rs).bind rngD
theorem iok_rng1 {t : TA} {a : Rh → Option Res} (ha : AOk K t (aCons a aNil)) : IOk K (iRng1 t) (itRng (aCons a aNil)) := fun H0 Z O ρ items σ H R e c q => by
  obtain ⟨rs, e1, e⟩ := bind_some e
  obtain ⟨ns, e2, e⟩ := bind_some e
  rw [rngD_eq] at e
  refine ha H0 Z O ρ rs σ H _ e1 c fun vs H1 s1 v1 => ?_
  have hv := toIs_ok v1 e2
  have hl := an_cons an_nil ρ rs e1
  match ns, hv, e with
  | [j], hv, e =>
    obtain ⟨h, rfl⟩ := ite_some e
    exact ⟨j, hv, h.1, h.2, q _ H1 s1 (it_rng 0 j.toNat)⟩
  | [i, j], hv, e => rw [hv] at v1; cases v1 with | cons _ v => cases v with | cons _ v => cases v; cases hl
  | [i, j, k], hv, e => rw [hv] at v1; cases v1 with | cons _ v => cases v with | cons _ v => cases v with | cons _ v => cases v; cases hl
theorem iok_rng2 {t : TA} {a b : Rh → Option Res} (ha : AOk K t (aCons a (aCons b aNil))) : IOk K (iRng2 t) (itRng (aCons a (aCons b aNil))) := fun H0 Z O ρ items σ H R e c q => by
  obtain ⟨rs, e1, e⟩ := bind_some e
  obtain ⟨ns, e2, e⟩ := bind_some e
  rw [rngD_eq] at e
  refine ha H0 Z O ρ rs σ H _ e1 c fun vs H1 s1 v1 => ?_
  have hv := toIs_ok v1 e2
  have hl := an_cons (an_cons an_nil) ρ rs e1
  match ns, hv, e with
  | [i, j], hv, e =>
    obtain ⟨h, rfl⟩ := ite_some e
    exact ⟨i, j, hv, ⟨h.1.1, h.1.2, h.2.1, h.2.2⟩, q _ H1 s1 (it_rng i (j - i).toNat)⟩
  | [j], hv, e => rw [hv] at v1; cases v1 with | cons _ v => cases v; cases hl
  | [i, j, k], hv, e => rw [hv] at v1; cases v1 with | cons _ v => cases v with | cons _ v => cases v with | cons _ v => cases v; cases hl
theorem iok_rng3 {t : TA} {a b d : Rh → Option Res} (ha : AOk K t (aCons a (aCons b (aCons d aNil)))) : IOk K (iRng3 t) (itRng (aCons a (aCons b (aCons d aNil)))) := fun H0 Z O ρ items σ H R e c q => by
  obtain ⟨rs, e1, e⟩ := bind_some e
  obtain ⟨ns, e2, e⟩ := bind_some e
  rw [rngD_eq] at e
  refine ha H0 Z O ρ rs σ H _ e1 c fun vs H1 s1 v1 => ?_
  have hv := toIs_ok v1 e2
  have hl := an_cons (an_cons (an_cons an_nil)) ρ rs e1
  match ns, hv, e with
  | [i, j, k], hv, e =>
    obtain ⟨⟨h1, h2, h3, h4⟩, rfl⟩ := ite_some e
    exact ⟨i, j, k, (Builtin.Range.rangeSize i j k).toNat, hv, ⟨h1, h2, h3, by omega⟩, q _ H1 s1 (it_rngC i k _)⟩
  | [j], hv, e => rw [hv] at v1; cases v1 with | cons _ v => cases v; cases hl
  | [i, j], hv, e => rw [hv] at v1; cases v1 with | cons _ v => cases v with | cons _ v => cases v; cases hl

/-! ### targets -/
def GOk (K : PySem.W.Frag) (S : List Nat) (g : TG) (f : PyData → Rh → Option Rh) : Prop := ∀ (H0 : Hp) (Z O : List Addr) (ρ ρ' : Rh) (σ : L2.St) (H : Hp) (v : V) (d : PyData) (Q : L2.St → Hp → Prop),
  f d ρ = some ρ' → Cor K H0 Z O ρ σ H → Dp K (off H O) v d → (∀ σ' : L2.St, Cor K H0 Z O ρ' σ' H → σ'.length = σ.length → (∀ j : Nat, j ∉ S → σ'[j]? = σ[j]?) → Q σ' H) → g v σ H Q
def GsOk (K : PySem.W.Frag) (S : List Nat) (g : TGs) (f : List PyData → Rh → Option Rh) : Prop := ∀ (H0 : Hp) (Z O : List Addr) (ρ ρ' : Rh) (σ : L2.St) (H : Hp) (v : List V) (d : List PyData) (Q : L2.St → Hp → Prop),
  f d ρ = some ρ' → Cor K H0 Z O ρ σ H → DpAll K (off H O) v d → (∀ σ' : L2.St, Cor K H0 Z O ρ' σ' H → σ'.length = σ.length → (∀ j : Nat, j ∉ S → σ'[j]? = σ[j]?) → Q σ' H) → g v σ H Q
@[simp] def gNm (i : Nat) : PyData → Rh → Option Rh := fun d ρ => some (ρ.set i (some (.sh d)))
def gsN : List PyData → Rh → Option Rh
  | [], ρ => some ρ
  | _ :: _, _ => none
def gsC (f : PyData → Rh → Option Rh) (fs : List PyData → Rh → Option Rh) : List PyData → Rh → Option Rh
  | d :: ds, ρ => (f d ρ).bind (fs ds)
  | [], _ => none
def gTp (fs : List PyData → Rh → Option Rh) : PyData → Rh → Option Rh
  | .tuple ds, ρ => fs ds ρ
  | _, _ => none
theorem gok_name (i : Nat) : GOk K [i] (gName i) (gNm i) := fun H0 Z O ρ ρ' σ H v d Q e c h q => by
  cases e
  exact q _ (c.setS i h) (List.length_set ..) fun j hj => List.getElem?_set_ne fun z => hj (by rw [z]; exact List.mem_cons_self)
theorem gsok_nil : GsOk K [] gNil gsN := fun H0 Z O ρ ρ' σ H v d Q e c h q => by
  cases d with
  | nil =>
    cases e
    cases h
    exact ⟨rfl, q σ c rfl fun _ _ => rfl⟩
  | cons a r => cases e
theorem gsok_cons {S T : List Nat} {g : TG} {gs : TGs} {f : PyData → Rh → Option Rh} {fs : List PyData → Rh → Option Rh} (h1 : GOk K S g f) (h2 : GsOk K T gs fs) : GsOk K (S ++ T) (gCons g gs) (gsC f fs) :=
  fun H0 Z O ρ ρ' σ H v d Q e c h q => by
    cases d with
    | nil => cases e
    | cons a r =>
      obtain ⟨ρ1, e1, e⟩ := bind_some e
      cases h with
      | cons ha hr =>
        refine ⟨_, _, rfl, h1 H0 Z O ρ ρ1 σ H _ a _ e1 c ha fun σ1 c1 l1 k1 => h2 H0 Z O ρ1 ρ' σ1 H _ r _ e c1 hr fun σ2 c2 l2 k2 => q σ2 c2 (l2.trans l1) fun j hj => ?_⟩
        rw [k2 j fun z => hj (List.mem_append_right _ z), k1 j fun z => hj (List.mem_append_left _ z)]
theorem gs_len {n : Nat} : ∀ {fs : List PyData → Rh → Option Rh}, (∀ ds ρ ρ', fs ds ρ = some ρ' → ds.length = n) → ∀ (f : PyData → Rh → Option Rh) ds ρ ρ', gsC f fs ds ρ = some ρ' → ds.length = n + 1 := fun {fs} h f ds ρ ρ' e => by
  cases ds with
  | nil => cases e
  | cons a r =>
    obtain ⟨ρ1, e1, e⟩ := bind_some e
    rw [List.length_cons, h r ρ1 ρ' e]
theorem gs_len0 : ∀ ds ρ ρ', gsN ds ρ = some ρ' → ds.length = 0 := fun ds ρ ρ' e => by
  cases ds with
  | nil => rfl
  | cons a r => cases e
theorem gok_tup {S : List Nat} {n : Nat} {gs : TGs} {fs : List PyData → Rh → Option Rh} (h : GsOk K S gs fs) (hn : ∀ ds ρ ρ', fs ds ρ = some ρ' → ds.length = n) : GOk K S (gTup K n gs) (gTp fs) :=
  fun H0 Z O ρ ρ' σ H v d Q e c hd q => by
    cases d with
    | tuple ds =>
      cases hd with
      | tup hs ha => exact ⟨_, _, rfl, Same.tup off_le hs, by rw [dpa_len ha]; exact hn ds ρ ρ' e, h H0 Z O ρ ρ' σ H _ ds Q e c ha q⟩
    | _ => cases e

/-! ### comprehensions -/
@[simp] def wipeD (ρ : Rh) : List Nat → Rh
  | [] => ρ
  | v :: vs => (wipeD ρ vs).set v none
theorem wipe_len (σ : L2.St) : ∀ vs : List Nat, (wipe σ vs).length = σ.length := wipe_length σ
theorem Cor.wipeA {H0 H : Hp} {Z O : List Addr} {ρ : Rh} {σ : L2.St} (c : Cor K H0 Z O ρ σ H) : ∀ vs : List Nat, Cor K H0 Z O (wipeD ρ vs) (wipe σ vs) H
  | [] => c
  | v :: vs => by
    have c1 := Cor.wipeA c vs
    refine ⟨c1.bs, fun j r h => ?_, fun a b ds es p hab ha hb sa sb => c1.di a b ds es p hab (set_some ha) (set_some hb) (set_some sa) (set_some sb), ?_⟩
    · obtain ⟨w, e1, e2⟩ := c1.sl j r (set_some h)
      have hj : v ≠ j := fun z => by
        subst z
        rcases set_get h with ⟨_, h, _⟩ | ⟨h, _⟩
        · cases h
        · exact h rfl
      exact ⟨w, by unfold wipe; rw [List.getElem?_set_ne hj]; exact e1, e2⟩
    · unfold wipeD wipe
      rw [List.length_set, List.length_set]
      exact c1.len
theorem wipe_eq {σ σ' : L2.St} {vs S : List Nat} (hl : σ'.length = (wipe σ vs).length) (hS : ∀ i ∈ S, i ∈ vs) (h : ∀ j : Nat, j ∉ S → σ'[j]? = (wipe σ vs)[j]?) : wipe σ' vs = wipe σ vs := by
  have inn : ∀ (σ : L2.St) (vs : List Nat) (j : Nat), j ∈ vs → (wipe σ vs)[j]? = if j < σ.length then some none else none := by
    intro σ vs
    induction vs with
    | nil => intro j hj; cases hj
    | cons v vs ih =>
      intro j hj
      unfold wipe
      by_cases hv : v = j
      · subst hv
        by_cases hlt : v < σ.length
        · rw [if_pos hlt, List.getElem?_set_self (by rw [wipe_length]; exact hlt)]
        · rw [if_neg hlt, List.getElem?_eq_none (by rw [List.length_set, wipe_length]; omega)]
      · rw [List.getElem?_set_ne hv]
        rcases List.mem_cons.mp hj with z | z
        · exact absurd z.symm hv
        · exact ih j z
  apply List.ext_getElem?
  intro j
  rw [wipe_length] at hl
  by_cases hj : j ∈ vs
  · rw [inn _ _ _ hj, inn _ _ _ hj, hl]
  · rw [wipe_out hj]
    exact h j fun z => hj (hS j z)
theorem Cor.own {H0 H H' : Hp} {Z O : List Addr} {ρ : Rh} {σ : L2.St} (c : Cor K H0 Z O ρ σ H) (e : Same H H') {D : Addr} (hD : H D = none) (h' : ∃ o, H' D = some o) : Cor K H0 Z (D :: O) ρ σ H' ∧ Same (off H O) (off H' (D :: O)) := by
  have sm : Same (off H O) (off H' (D :: O)) := (off_new hD).trans (off_same e)
  have b := c.bs.mono e
  refine ⟨⟨⟨b.same, fun q hq => List.mem_cons_of_mem _ (b.zo q hq), b.z0, fun q hq => ?_⟩, fun j r ej => ?_, c.di, c.len⟩, sm⟩
  · rcases List.mem_cons.mp hq with rfl | hq
    · exact h'
    · exact b.live q hq
  · obtain ⟨w, e1, e2, e3⟩ := c.sl j r ej
    refine ⟨w, e1, ?_, e3⟩
    cases r with
    | sh d => exact dp_mono sm d w e2
    | fr xs => exact absurd rfl (e3 xs)
    | bo xs =>
      obtain ⟨q, ws, rfl, g0, gp, gl, gd⟩ := e2
      exact ⟨q, ws, rfl, g0, List.mem_cons_of_mem _ gp, e _ _ gl, dpa_mono sm xs ws gd⟩
/-- an owned list that is no slot's is written -/
theorem Cor.updO {H0 H : Hp} {Z O : List Addr} {ρ : Rh} {σ : L2.St} (c : Cor K H0 Z O ρ σ H) {D : Addr} {o : HO} (hD : D ∈ O) (h0 : H0 D = none) (hn : ∀ (i : Nat) ds, ρ[i]? = some (some (.bo ds)) → σ[i]? ≠ some (some (.ref D))) :
    Cor K H0 Z O ρ σ (upd H D o) := by
  refine ⟨⟨fun b u e => ?_, c.bs.zo, c.bs.z0, fun q hq => ?_⟩, fun j r ej => ?_, c.di, c.len⟩
  · rw [upd_ne (ne_of_none e h0)]; exact c.bs.same b u e
  · by_cases hq' : q = D
    · subst hq'; exact ⟨_, upd_same⟩
    · rw [upd_ne hq']; exact c.bs.live q hq
  · obtain ⟨w, e1, e2, e3⟩ := c.sl j r ej
    refine ⟨w, e1, ?_, e3⟩
    cases r with
    | sh d =>
      have e2 : Dp K (off H O) w d := e2
      show Dp K (off (upd H D o) O) w d
      rw [off_upd hD]
      exact e2
    | fr xs => exact absurd rfl (e3 xs)
    | bo xs =>
      obtain ⟨q, ws, rfl, g0, gp, gl, gd⟩ := e2
      refine ⟨q, ws, rfl, g0, gp, ?_, by rw [off_upd hD]; exact gd⟩
      rw [upd_ne fun z => hn j xs ej (by rw [← z]; exact e1)]
      exact gl
def lcD (g : PyData → Rh → Option Rh) (tt : Rh → Option Bool) (elt : Rh → Option Res) (ρ : Rh) : List PyData → Option (List PyData)
  | [] => some []
  | x :: xs => (g x ρ).bind fun ρ1 => (tt ρ1).bind fun b => if b = true then (elt ρ1).bind fun r => r.shr.bind fun d => (lcD g tt elt ρ xs).bind fun ds => some (d :: ds) else lcD g tt elt ρ xs
@[simp] def eLc (it : Rh → Option (List PyData)) (g : PyData → Rh → Option Rh) (tt : Rh → Option Bool) (elt : Rh → Option Res) (vs : List Nat) : Rh → Option Res := fun ρ =>
  (it ρ).bind fun xs => if xs.length ≤ LIM then (lcD g tt elt (wipeD ρ vs) xs).bind fun ds => some (.fr ds) else none
@[simp] def tYesD : Rh → Option Bool := fun _ => some true
theorem tok_yes : TOk K tYes tYesD := fun H0 Z O ρ b σ H Q e c q => by cases e; exact q H (Same.refl H)
theorem drop_at {α : Type} {l : List α} {i : Nat} {a : α} (h : l[i]? = some a) : l.drop i = a :: l.drop (i + 1) := by
  obtain ⟨hi, e⟩ := List.getElem?_eq_some_iff.mp h
  rw [List.drop_eq_getElem_cons hi, e]
theorem eok_lc {wi : TI} {g : TG} {tt : TT} {te : TE} {vs S : List Nat} {it : Rh → Option (List PyData)} {gd : PyData → Rh → Option Rh} {td : Rh → Option Bool} {ed : Rh → Option Res}
    (hi : IOk K wi it) (hg : GOk K S g gd) (ht : TOk K tt td) (he : EOk K te ed) (hS : ∀ i ∈ S, i ∈ vs) : EOk K (tLc wi g tt te vs) (eLc it gd td ed vs) := fun H0 Z O ρ z σ H Q e c q => by
  obtain ⟨items, e1, e⟩ := bind_some e
  by_cases hlim : items.length ≤ LIM
  case neg => rw [if_neg hlim] at e; cases e
  rw [if_pos hlim] at e
  obtain ⟨total, e2, e⟩ := bind_some e
  cases e
  refine hi H0 Z O ρ items σ H _ e1 c fun J H1 s1 hit => fun D hD => ?_
  have c1 := (c.mono s1).wipeA vs
  obtain ⟨c2, sm2⟩ := c1.own (same_new (o := .lst []) hD) hD ⟨_, upd_same⟩
  have hnD : ∀ (i : Nat) ds, (wipeD ρ vs)[i]? = some (some (.bo ds)) → (wipe σ vs)[i]? ≠ some (some (.ref D)) := fun i ds ei es => by
    obtain ⟨w, g1, ⟨p, ws, rfl, g2, g3, g4, _⟩, _⟩ := c1.sl i _ ei
    rw [es] at g1
    cases g1
    rw [hD] at g4
    cases g4
  have h0D : H0 D = none := c1.bs.same.free hD
  refine ⟨fun i m H' => m = items.length - i ∧ i ≤ items.length ∧ Same H1 H' ∧ Cor K H0 Z (D :: O) (wipeD ρ vs) (wipe σ vs) H' ∧ Same (off H1 O) (off H' (D :: O)) ∧
      ∃ acc accD rest, H' D = some (.lst acc) ∧ DpAll K (off H' (D :: O)) acc accD ∧ lcD gd td ed (wipeD ρ vs) (items.drop i) = some rest ∧ accD ++ rest = total ∧ accD.length ≤ i,
    ⟨items.length, rfl, Nat.zero_le _, same_new hD, c2, sm2, [], [], total, upd_same, .nil, e2, rfl, Nat.le_refl _⟩, fun i m H' hW => ?_⟩
  obtain ⟨rfl, hil, sH, cW, smW, acc, accD, rest, hacc, hdp, hrest, htot, hal⟩ := hW
  obtain ⟨hgo, hstop⟩ := hit (D :: O) H' cW.bs smW
  by_cases hlt : i < items.length
  · right
    obtain ⟨d, hd⟩ : ∃ d, items[i]? = some d := ⟨_, List.getElem?_eq_getElem hlt⟩
    obtain ⟨g1, g2⟩ := hgo i d hd
    refine ⟨g1, fun H'' => (Same H1 H'' ∧ Cor K H0 Z (D :: O) (wipeD ρ vs) (wipe σ vs) H'' ∧ Same (off H1 O) (off H'' (D :: O)) ∧
      ∃ acc accD rest, H'' D = some (.lst acc) ∧ DpAll K (off H'' (D :: O)) acc accD ∧ lcD gd td ed (wipeD ρ vs) (items.drop (i + 1)) = some rest ∧ accD ++ rest = total ∧ accD.length ≤ i + 1),
      fun H'' h => ⟨items.length - (i + 1), by omega, rfl, hlt, h⟩, fun x H2 hy => ?_⟩
    obtain ⟨s2, dx⟩ := g2 x H2 hy
    rw [drop_at hd] at hrest
    obtain ⟨ρ1, r1, hrest⟩ := bind_some hrest
    obtain ⟨b, r2, hrest⟩ := bind_some hrest
    have cW2 := cW.mono s2
    refine hg H0 Z (D :: O) _ ρ1 _ H2 x d _ r1 cW2 dx fun σ2 c3 hl3 k3 => ⟨wipe_eq hl3 hS k3, ht H0 Z (D :: O) ρ1 b σ2 H2 _ r2 c3 fun H3 s3 => ?_⟩
    have s23 := s2.trans s3
    have cW3 := cW2.mono s3
    by_cases hb : b = true
    · rw [if_pos hb] at hrest ⊢
      obtain ⟨r, r3, hrest⟩ := bind_some hrest
      obtain ⟨y, r4, hrest⟩ := bind_some hrest
      obtain ⟨ds, r5, hrest⟩ := bind_some hrest
      cases hrest
      refine he H0 Z (D :: O) ρ1 r σ2 H3 _ r3 (c3.mono s3) fun v H4 s4 v4 => ?_
      have s24 := s23.trans s4
      have cW4 := cW3.mono s4
      refine ⟨acc, s24 _ _ hacc, ?_, fun b u e => ?_, cW4.updO List.mem_cons_self h0D hnD, ?_, acc ++ [v], accD ++ [y], ds, upd_same, ?_, r5, ?_, ?_⟩
      · rw [dpa_len hdp]
        exact lim_lt (by omega)
      · rw [upd_ne (ne_of_none e hD)]
        exact s24 _ _ (sH _ _ e)
      · rw [off_upd List.mem_cons_self]
        exact smW.trans (off_same s24)
      · rw [off_upd List.mem_cons_self]
        exact dpa_append (dpa_mono (off_same s24) _ _ hdp) (.cons (v4.shr r4) .nil)
      · rw [List.append_assoc]
        exact htot
      · rw [List.length_append]
        simp only [List.length_cons, List.length_nil]
        omega
    · rw [if_neg hb] at hrest ⊢
      exact ⟨sH.trans s23, cW3, smW.trans (off_same s23), acc, accD, rest, s23 _ _ hacc, dpa_mono (off_same s23) _ _ hdp, hrest, htot, by omega⟩
  · left
    have ei : i = items.length := by omega
    subst ei
    rw [List.drop_length] at hrest
    cases hrest
    rw [List.append_nil] at htot
    subst htot
    exact ⟨hstop _ (Nat.le_refl _), q _ H' (s1.trans sH) ⟨D, acc, rfl, s1.free hD, (c1.bs.new hD).1, hacc, hdp⟩⟩
end
end F3
set_option maxRecDepth 100000
namespace F3
open PySem PySem.Spec PyProof.Rows L2

/-- how a block ends -/
inductive Out where
  | nx (ρ : Rh)
  | rt (r : Res)
  | bk (ρ : Rh)
  | ct (ρ : Rh)
def Post (K : PySem.W.Frag) (H0 : Hp) (Z O : List Addr) (H : Hp) (D : Ends) : Out → Prop
  | .nx ρ => ∀ (O' : List Addr) (σ' : L2.St) (H' : Hp), Cor K H0 Z O' ρ σ' H' → Same (off H O) (off H' O') → D.nx σ' H'
  | .bk ρ => ∀ (O' : List Addr) (σ' : L2.St) (H' : Hp), Cor K H0 Z O' ρ σ' H' → Same (off H O) (off H' O') → D.bk σ' H'
  | .ct ρ => ∀ (O' : List Addr) (σ' : L2.St) (H' : Hp), Cor K H0 Z O' ρ σ' H' → Same (off H O) (off H' O') → D.ct σ' H'
  | .rt r => ∀ (v : V) (H' : Hp), Same H0 H' → Vl K H0 H0 Z H' r v → D.rt v H'
def SOk (K : PySem.W.Frag) (t : TS) (f : Rh → Option Out) : Prop := ∀ (H0 : Hp) (Z O : List Addr) (ρ : Rh) (o : Out) (σ : L2.St) (H : Hp) (D : Ends),
  f ρ = some o → Cor K H0 Z O ρ σ H → Post K H0 Z O H D o → t D σ H
section
variable {K : PySem.W.Frag}
theorem Post.step {H0 H H1 : Hp} {Z O O1 : List Addr} {D : Ends} {o : Out} (h : Post K H0 Z O H D o) (sm : Same (off H O) (off H1 O1)) : Post K H0 Z O1 H1 D o := by
  cases o with
  | nx ρ => exact fun O' σ' H' c s => h O' σ' H' c (sm.trans s)
  | bk ρ => exact fun O' σ' H' c s => h O' σ' H' c (sm.trans s)
  | ct ρ => exact fun O' σ' H' c s => h O' σ' H' c (sm.trans s)
  | rt r => exact h
/-! ### blocks -/
@[simp] def sPass : Rh → Option Out := fun ρ => some (.nx ρ)
def sSeq (a b : Rh → Option Out) : Rh → Option Out := fun ρ => (a ρ).bind fun o => match o with
  | .nx ρ' => b ρ'
  | o => some o
theorem sok_pass : SOk K tNext sPass := fun H0 Z O ρ o σ H D e c q => by
  cases e
  exact q O σ H c (Same.refl _)
theorem sok_seq {t u : TS} {a b : Rh → Option Out} (ha : SOk K t a) (hb : SOk K u b) : SOk K (tSeq t u) (sSeq a b) := fun H0 Z O ρ o σ H D e c q => by
  obtain ⟨o1, e1, e⟩ := bind_some e
  refine ha H0 Z O ρ o1 σ H _ e1 c ?_
  cases o1 with
  | nx ρ1 => exact fun O1 σ1 H1 c1 s1 => hb H0 Z O1 ρ1 o σ1 H1 D e c1 (q.step s1)
  | bk ρ1 => cases e; exact q
  | ct ρ1 => cases e; exact q
  | rt r => cases e; exact q
@[simp] def sIf (k : Rh → Option Bool) (a b : Rh → Option Out) : Rh → Option Out := fun ρ => (k ρ).bind fun x => if x = true then a ρ else b ρ
theorem sok_if {tc : TT} {t u : TS} {k : Rh → Option Bool} {a b : Rh → Option Out} (hk : TOk K tc k) (ha : SOk K t a) (hb : SOk K u b) : SOk K (tIfS tc t u) (sIf k a b) := fun H0 Z O ρ o σ H D e c q => by
  obtain ⟨x, e1, e⟩ := bind_some e
  refine hk H0 Z O ρ x σ H _ e1 c fun H1 s1 => ?_
  by_cases hx : x = true
  · rw [if_pos hx] at e ⊢
    exact ha H0 Z O ρ o σ H1 D e (c.mono s1) (q.step (off_same s1))
  · rw [if_neg hx] at e ⊢
    exact hb H0 Z O ρ o σ H1 D e (c.mono s1) (q.step (off_same s1))
@[simp] def sBreak : Rh → Option Out := fun ρ => some (.bk ρ)
@[simp] def sCont : Rh → Option Out := fun ρ => some (.ct ρ)
theorem sok_break : SOk K tBreak sBreak := fun H0 Z O ρ o σ H D e c q => by
  cases e
  exact q O σ H c (Same.refl _)
theorem sok_cont : SOk K tCont sCont := fun H0 Z O ρ o σ H D e c q => by
  cases e
  exact q O σ H c (Same.refl _)
/-- handing back -/
def retR : Res → Res
  | .bo ds => .fr ds
  | r => r
theorem vl_ret {H0 Hs H : Hp} {Z O : List Addr} {r : Res} {v : V} (b : Bs H0 Z O H) (s : Same H0 Hs) (h : Vl K H0 Hs O H r v) : Vl K H0 H0 Z H (retR r) v := by
  cases r with
  | sh d => exact dp_mono (off_sub b.zo) d v h
  | fr ds =>
    obtain ⟨p, vs, h1, h2, h3, h4, h5⟩ := h
    refine ⟨p, vs, h1, s.free h2, fun z => h3 (b.zo p z), h4, dpa_mono (off_sub fun q hq => ?_) ds vs h5⟩
    rcases List.mem_cons.mp hq with rfl | hq
    · exact List.mem_cons_self
    · exact List.mem_cons_of_mem _ (b.zo q hq)
  | bo ds =>
    obtain ⟨p, vs, h1, h2, h3, h4, h5⟩ := h
    refine ⟨p, vs, h1, h2, b.nz h2, h4, dpa_mono (off_sub fun q hq => ?_) ds vs h5⟩
    rcases List.mem_cons.mp hq with rfl | hq
    · exact h3
    · exact b.zo q hq
@[simp] def sRet (a : Rh → Option Res) : Rh → Option Out := fun ρ => (a ρ).bind fun r => some (.rt (retR r))
@[simp] def sRetN : Rh → Option Out := fun _ => some (.rt (.sh .none))
theorem sok_ret {te : TE} {a : Rh → Option Res} (ha : EOk K te a) : SOk K (tRet te) (sRet a) := fun H0 Z O ρ o σ H D e c q => by
  obtain ⟨r, e1, e⟩ := bind_some e
  cases e
  exact ha H0 Z O ρ r σ H _ e1 c fun v H1 s1 v1 => q v H1 (c.bs.same.trans s1) (vl_ret (c.bs.mono s1) c.bs.same v1)
theorem sok_retN : SOk K tRetN sRetN := fun H0 Z O ρ o σ H D e c q => by
  cases e
  exact q _ H c.bs.same .none
@[simp] def sDrop (a : Rh → Option Res) : Rh → Option Out := fun ρ => (a ρ).bind fun _ => some (.nx ρ)
theorem sok_drop {te : TE} {a : Rh → Option Res} (ha : EOk K te a) : SOk K (tDrop te) (sDrop a) := fun H0 Z O ρ o σ H D e c q => by
  obtain ⟨r, e1, e⟩ := bind_some e
  cases e
  exact ha H0 Z O ρ r σ H _ e1 c fun v H1 s1 v1 => q O σ H1 (c.mono s1) (off_same s1)

/-! ### stores -/
def putR (ρ : Rh) (i : Nat) : Res → Option Rh
  | .sh d => some (ρ.set i (some (.sh d)))
  | .fr ds => some (ρ.set i (some (.bo ds)))
  | .bo _ => none
theorem put_ok {H0 H H' : Hp} {Z O : List Addr} {ρ ρ' : Rh} {σ : L2.St} {r : Res} {v : V} {i : Nat} (c : Cor K H0 Z O ρ σ H) (s : Same H H') (h : Vl K H0 H O H' r v) (e : putR ρ i r = some ρ') :
    ∃ O', Cor K H0 Z O' ρ' (σ.set i (some v)) H' ∧ Same (off H O) (off H' O') := by
  cases r with
  | sh d =>
    cases e
    exact ⟨O, (c.mono s).setS i h, off_same s⟩
  | fr ds =>
    cases e
    obtain ⟨p, vs, rfl, h2, h3, h4, h5⟩ := h
    exact ⟨p :: O, c.setF s i h2 h3 h4 h5⟩
  | bo ds => cases e
@[simp] def sSet (i : Nat) (a : Rh → Option Res) : Rh → Option Out := fun ρ => (a ρ).bind fun r => (putR ρ i r).bind fun ρ' => some (.nx ρ')
theorem sok_set {te : TE} {a : Rh → Option Res} (i : Nat) (ha : EOk K te a) : SOk K (tAsg te (gName i)) (sSet i a) := fun H0 Z O ρ o σ H D e c q => by
  obtain ⟨r, e1, e⟩ := bind_some e
  obtain ⟨ρ', e2, e⟩ := bind_some e
  cases e
  refine ha H0 Z O ρ r σ H _ e1 c fun v H1 s1 v1 => ?_
  obtain ⟨O', c', sm⟩ := put_ok c s1 v1 e2
  exact q O' _ H1 c' sm
/-- (a, b, ..) = a tuple -/
@[simp] def sUnp (g : PyData → Rh → Option Rh) (a : Rh → Option Res) : Rh → Option Out := fun ρ => (a ρ).bind fun r => r.shr.bind fun d => (g d ρ).bind fun ρ' => some (.nx ρ')
theorem sok_unp {S : List Nat} {te : TE} {g : TG} {gd : PyData → Rh → Option Rh} {a : Rh → Option Res} (hg : GOk K S g gd) (ha : EOk K te a) : SOk K (tAsg te g) (sUnp gd a) := fun H0 Z O ρ o σ H D e c q => by
  obtain ⟨r, e1, e⟩ := bind_some e
  obtain ⟨d, e2, e⟩ := bind_some e
  obtain ⟨ρ', e3, e⟩ := bind_some e
  cases e
  exact ha H0 Z O ρ r σ H _ e1 c fun v H1 s1 v1 => hg H0 Z O ρ ρ' σ H1 v d _ e3 (c.mono s1) (v1.shr e2) fun σ' c' _ _ => q O σ' H1 c' (off_same s1)
/-- a, b = x, y -/
def sPar (i j : Nat) (as : Rh → Option (List Res)) : Rh → Option Out := fun ρ => (as ρ).bind fun rs => (shrs rs).bind fun ds => match ds with
  | [x, y] => some (.nx ((ρ.set i (some (.sh x))).set j (some (.sh y))))
  | _ => none
theorem sok_par {t : TA} {as : Rh → Option (List Res)} (i j : Nat) (ha : AOk K t as) : SOk K (tPar i j t) (sPar i j as) := fun H0 Z O ρ o σ H D e c q => by
  obtain ⟨rs, e1, e⟩ := bind_some e
  obtain ⟨ds, e2, e⟩ := bind_some e
  refine ha H0 Z O ρ rs σ H _ e1 c fun vs H1 s1 v1 => ?_
  obtain ⟨hd, _⟩ := shrs_ok v1 e2
  match ds, hd, e with
  | [x, y], hd, e =>
    cases e
    cases hd with
    | cons hx hd =>
      cases hd with
      | cons hy hd =>
        cases hd
        exact ⟨_, _, rfl, q O _ H1 (((c.mono s1).setS i hx).setS j hy) (off_same s1)⟩
/-- a slot's own list is written -/
theorem Cor.wr {H0 H : Hp} {Z O : List Addr} {ρ : Rh} {σ : L2.St} (c : Cor K H0 Z O ρ σ H) {i : Nat} {ds es : List PyData} {p : Addr} {ws : List V} (e : ρ[i]? = some (some (.bo ds)))
    (s : σ[i]? = some (some (.ref p))) (hd : DpAll K (off H O) ws es) : Cor K H0 Z O (ρ.set i (some (.bo es))) σ (upd H p (.lst ws)) ∧ off (upd H p (.lst ws)) O = off H O := by
  obtain ⟨v, h1, ⟨p', vs, rfl, h0, hp, hl, _⟩, _⟩ := c.sl i _ e
  rw [s] at h1
  cases h1
  have oe : off (upd H p (.lst ws)) O = off H O := off_upd hp
  refine ⟨⟨⟨fun b u eb => ?_, c.bs.zo, c.bs.z0, fun q hq => ?_⟩, fun j r ej => ?_, fun a b xs ys q hab ha hb sa sb => ?_, by rw [List.length_set]; exact c.len⟩, oe⟩
  · rw [upd_ne (ne_of_none eb h0)]; exact c.bs.same b u eb
  · by_cases hq' : q = p
    · subst hq'; exact ⟨_, upd_same⟩
    · rw [upd_ne hq']; exact c.bs.live q hq
  · rcases set_get ej with ⟨rfl, ej, _⟩ | ⟨hj, ej⟩
    · cases ej
      exact ⟨_, s, ⟨p, ws, rfl, h0, hp, upd_same, by rw [oe]; exact hd⟩, fun _ z => by cases z⟩
    · obtain ⟨w, e1, e2, e3⟩ := c.sl j r ej
      refine ⟨w, e1, ?_, e3⟩
      cases r with
      | sh d =>
        have e2 : Dp K (off H O) w d := e2
        show Dp K (off (upd H p (.lst ws)) O) w d
        rw [oe]
        exact e2
      | fr xs => exact absurd rfl (e3 xs)
      | bo xs =>
        obtain ⟨q, us, rfl, g0, gp, gl, gd⟩ := e2
        refine ⟨q, us, rfl, g0, gp, ?_, by rw [oe]; exact gd⟩
        rw [upd_ne fun z => c.di j i xs ds p hj ej e (by rw [← z]; exact e1) s]
        exact gl
  · have own : ∀ (a : Nat) (xs : List PyData), (ρ.set i (some (.bo es)))[a]? = some (some (.bo xs)) → ∃ ys, ρ[a]? = some (some (.bo ys)) := fun a xs h => by
      rcases set_get h with ⟨rfl, _, _⟩ | ⟨_, h⟩
      · exact ⟨ds, e⟩
      · exact ⟨xs, h⟩
    obtain ⟨_, ha'⟩ := own a xs ha
    obtain ⟨_, hb'⟩ := own b ys hb
    exact c.di a b _ _ q hab ha' hb' sa sb
/-- x.append(e), x a slot with a list of its own -/
def sApp (i : Nat) (a : Rh → Option Res) : Rh → Option Out := fun ρ => match ρ[i]? with
  | some (some (.bo ds)) => (a ρ).bind fun r => r.shr.bind fun d => if ds.length < LIM then some (.nx (ρ.set i (some (.bo (ds ++ [d]))))) else none
  | _ => none
theorem own_slot {H0 H : Hp} {Z O : List Addr} {ρ : Rh} {σ : L2.St} (c : Cor K H0 Z O ρ σ H) {i : Nat} {ds : List PyData} (e : ρ[i]? = some (some (.bo ds))) :
    ∃ p vs, σ[i]? = some (some (.ref p)) ∧ H p = some (.lst vs) ∧ DpAll K (off H O) vs ds := by
  obtain ⟨v, h1, ⟨p, vs, rfl, h0, hp, hl, hd⟩, _⟩ := c.sl i _ e
  exact ⟨p, vs, h1, hl, hd⟩
theorem sok_app {te : TE} {a : Rh → Option Res} (i : Nat) (ha : EOk K te a) : SOk K (tDrop (tBM K "list" rAppend (tVar i) (tCons te tNil))) (sApp i a) := fun H0 Z O ρ o σ H D e c q => by
  unfold sApp at e
  split at e
  · rename_i ds hi
    obtain ⟨r, e1, e⟩ := bind_some e
    obtain ⟨d, e2, e⟩ := bind_some e
    obtain ⟨hl, rfl⟩ := ite_some e
    obtain ⟨p, vs, h1, h2, h3⟩ := own_slot c hi
    refine ⟨.ref p, h1, .inl ⟨rfl, vs, SqL.of h2⟩, ha H0 Z O ρ r σ H _ e1 c fun v H1 s1 v1 => ?_⟩
    have hd := dpa_append (dpa_mono (off_same s1) _ _ h3) (.cons (v1.shr e2) .nil)
    obtain ⟨c', oe⟩ := (c.mono s1).wr hi h1 hd
    exact ⟨p, vs, v, rfl, rfl, s1 _ _ h2, by rw [dpa_len h3]; exact lim_lt (Nat.le_of_lt hl), q O σ _ c' (by rw [oe]; exact off_same s1)⟩
  · cases e
/-- x.pop() as a statement -/
def sPop (i : Nat) : Rh → Option Out := fun ρ => match ρ[i]? with
  | some (some (.bo ds)) => if ds ≠ [] then some (.nx (ρ.set i (some (.bo ds.dropLast)))) else none
  | _ => none
theorem sok_pop (i : Nat) : SOk K (tDrop (tBM0 K "list" rPop (tVar i))) (sPop i) := fun H0 Z O ρ o σ H D e c q => by
  unfold sPop at e
  split at e
  · rename_i ds hi
    obtain ⟨hne, rfl⟩ := ite_some e
    obtain ⟨p, vs, h1, h2, h3⟩ := own_slot c hi
    obtain ⟨c', oe⟩ := c.wr hi h1 (dpa_dropLast h3)
    have hl := dpa_len h3
    have hpos : 0 < ds.length := List.length_pos_iff.mpr hne
    refine ⟨.ref p, h1, .inl ⟨rfl, vs, SqL.of h2⟩, p, vs, vs[vs.length - 1]'(by omega), rfl, rfl, h2, List.getElem?_eq_getElem _, q O σ _ c' (by rw [oe]; exact Same.refl _)⟩
  · cases e
/-- x[k] = e, x a slot with a list of its own -/
def sPut (i : Nat) (k a : Rh → Option Res) : Rh → Option Out := fun ρ => (a ρ).bind fun r => r.shr.bind fun d => match ρ[i]? with
  | some (some (.bo ds)) => (k ρ).bind fun x => match x.toi with
    | some n => match ixN ds.length n with
      | some j => some (.nx (ρ.set i (some (.bo (ds.set j d)))))
      | none => none
    | none => none
  | _ => none
theorem sok_put {te tk : TE} {a k : Rh → Option Res} (i : Nat) (hk : EOk K tk k) (ha : EOk K te a) : SOk K (tAsg te (gSub (tVar i) tk rSetL)) (sPut i k a) := fun H0 Z O ρ o σ H D e c q => by
  obtain ⟨r, e1, e⟩ := bind_some e
  obtain ⟨d, e2, e⟩ := bind_some e
  split at e
  · rename_i ds hi
    obtain ⟨x, e3, e⟩ := bind_some e
    split at e
    · rename_i n hn
      split at e
      · rename_i j hj
        cases e
        obtain ⟨p, vs, h1, h2, h3⟩ := own_slot c hi
        refine ha H0 Z O ρ r σ H _ e1 c fun v H1 s1 v1 => ⟨.ref p, h1, hk H0 Z O ρ x σ H1 _ e3 (c.mono s1) fun y H2 s2 v2 => ?_⟩
        have s02 := s1.trans s2
        have hd := dpa_set j (dpa_mono (off_same s02) _ _ h3) (dp_mono (off_same s2) _ _ (v1.shr e2))
        obtain ⟨c', oe⟩ := (c.mono s02).wr hi h1 hd
        exact ⟨p, vs, n, j, rfl, v2.toi hn, s02 _ _ h2, by rw [dpa_len h3]; exact hj, q O σ _ c' (by rw [oe]; exact off_same s02)⟩
      · cases e
    · cases e
  · cases e

/-! ### forgetting, sharing -/
@[simp] def forg (ρ : Rh) (is : List Nat) : Rh := is.foldl (fun ρ i => ρ.set i none) ρ
theorem Cor.forg {H0 H : Hp} {Z O : List Addr} {σ : L2.St} : ∀ (is : List Nat) {ρ : Rh}, Cor K H0 Z O ρ σ H → Cor K H0 Z O (forg ρ is) σ H
  | [], _, c => c
  | i :: is, _, c => Cor.forg is (c.forget i)
@[simp] def forgO (is : List Nat) : Out → Out
  | .nx ρ => .nx (forg ρ is)
  | .bk ρ => .bk (forg ρ is)
  | .ct ρ => .ct (forg ρ is)
  | .rt r => .rt r
def sFo (is : List Nat) (a : Rh → Option Out) : Rh → Option Out := fun ρ => (a ρ).bind fun o => some (forgO is o)
theorem sok_fo {t : TS} {a : Rh → Option Out} (is : List Nat) (ha : SOk K t a) : SOk K t (sFo is a) := fun H0 Z O ρ o σ H D e c q => by
  obtain ⟨o1, e1, e⟩ := bind_some e
  cases e
  refine ha H0 Z O ρ o1 σ H D e1 c ?_
  cases o1 with
  | nx ρ1 => exact fun O' σ' H' c' s => q O' σ' H' (c'.forg is) s
  | bk ρ1 => exact fun O' σ' H' c' s => q O' σ' H' (c'.forg is) s
  | ct ρ1 => exact fun O' σ' H' c' s => q O' σ' H' (c'.forg is) s
  | rt r => exact q
/-- forget ahead -/
@[simp] def sPre (is : List Nat) (a : Rh → Option Out) : Rh → Option Out := fun ρ => a (forg ρ is)
theorem sok_pre {t : TS} {a : Rh → Option Out} (is : List Nat) (ha : SOk K t a) : SOk K t (sPre is a) := fun H0 Z O ρ o σ H D e c q =>
  ha H0 Z O _ o σ H D e (c.forg is) q
def frz1 (ρ : Rh) (i : Nat) : Rh := match ρ[i]? with
  | some (some (.bo ds)) => ρ.set i (some (.sh (.list ds)))
  | _ => ρ
@[simp] def frzD (ρ : Rh) (is : List Nat) : Rh := is.foldl frz1 ρ
theorem Cor.frz {H0 H : Hp} {Z : List Addr} {σ : L2.St} : ∀ (is : List Nat) {O : List Addr} {ρ : Rh}, Cor K H0 Z O ρ σ H → ∃ O', Cor K H0 Z O' (frzD ρ is) σ H ∧ Same (off H O) (off H O')
  | [], O, _, c => ⟨O, c, Same.refl _⟩
  | i :: is, O, ρ, c => by
    have one : ∃ O', Cor K H0 Z O' (frz1 ρ i) σ H ∧ Same (off H O) (off H O') := by
      unfold frz1
      split
      · rename_i ds hi
        exact c.freeze hi
      · exact ⟨O, c, Same.refl _⟩
    obtain ⟨O1, c1, s1⟩ := one
    obtain ⟨O2, c2, s2⟩ := Cor.frz is c1
    exact ⟨O2, c2, s1.trans s2⟩
/-- share ahead -/
@[simp] def sFrz (is : List Nat) (a : Rh → Option Out) : Rh → Option Out := fun ρ => a (frzD ρ is)
theorem sok_frz {t : TS} {a : Rh → Option Out} (is : List Nat) (ha : SOk K t a) : SOk K t (sFrz is a) := fun H0 Z O ρ o σ H D e c q => by
  obtain ⟨O', c', s⟩ := c.frz is
  exact ha H0 Z O' _ o σ H D e c' (q.step s)

/-! ### loops -/
def forD (g : PyData → Rh → Option Rh) (b : Rh → Option Out) : List PyData → Rh → Option Out
  | [], ρ => some (.nx ρ)
  | x :: xs, ρ => (g x ρ).bind fun ρ1 => (b ρ1).bind fun o => match o with
    | .nx ρ2 => forD g b xs ρ2
    | .ct ρ2 => forD g b xs ρ2
    | .bk ρ2 => some (.nx ρ2)
    | .rt r => some (.rt r)
@[simp] def sFor (it : Rh → Option (List PyData)) (g : PyData → Rh → Option Rh) (b : Rh → Option Out) : Rh → Option Out := fun ρ => (it ρ).bind fun xs => forD g b xs ρ
theorem sok_for {wi : TI} {g : TG} {tb : TS} {S : List Nat} {it : Rh → Option (List PyData)} {gd : PyData → Rh → Option Rh} {b : Rh → Option Out} (hi : IOk K wi it) (hg : GOk K S g gd) (hb : SOk K tb b) :
    SOk K (tFor wi g tb) (sFor it gd b) := fun H0 Z O ρ o σ H D e c q => by
  obtain ⟨items, e1, e⟩ := bind_some e
  refine hi H0 Z O ρ items σ H _ e1 c fun J H1 s1 hit => ?_
  refine ⟨fun i m σ' H' => m = items.length - i ∧ i ≤ items.length ∧ ∃ O' ρ', Cor K H0 Z O' ρ' σ' H' ∧ Same (off H1 O) (off H' O') ∧ forD gd b (items.drop i) ρ' = some o,
    ⟨items.length, rfl, Nat.zero_le _, O, ρ, c.mono s1, Same.refl _, e⟩, fun i m σ' H' hW => ?_⟩
  obtain ⟨rfl, hil, O', ρ', c', sm, hr⟩ := hW
  obtain ⟨hgo, hstop⟩ := hit O' H' c'.bs sm
  have q1 := q.step (off_same s1)
  by_cases hlt : i < items.length
  · right
    obtain ⟨d, hd⟩ : ∃ d, items[i]? = some d := ⟨_, List.getElem?_eq_getElem hlt⟩
    obtain ⟨g1, g2⟩ := hgo i d hd
    rw [drop_at hd] at hr
    obtain ⟨ρ1, r1, hr⟩ := bind_some hr
    obtain ⟨o1, r2, hr⟩ := bind_some hr
    refine ⟨g1, fun σ2 H2 => i + 1 ≤ items.length ∧ ∃ O' ρ', Cor K H0 Z O' ρ' σ2 H2 ∧ Same (off H1 O) (off H2 O') ∧ forD gd b (items.drop (i + 1)) ρ' = some o,
      fun σ2 H2 h => ⟨items.length - (i + 1), by omega, rfl, h⟩, fun x H2 hy => ?_⟩
    obtain ⟨s2, dx⟩ := g2 x H2 hy
    refine hg H0 Z O' ρ' ρ1 σ' H2 x d _ r1 (c'.mono s2) dx fun σ3 c3 _ _ => hb H0 Z O' ρ1 o1 σ3 H2 _ r2 c3 ?_
    have sm2 := sm.trans (off_same s2)
    cases o1 with
    | nx ρ2 => exact fun O4 σ4 H4 c4 s4 => ⟨hlt, O4, ρ2, c4, sm2.trans s4, hr⟩
    | ct ρ2 => exact fun O4 σ4 H4 c4 s4 => ⟨hlt, O4, ρ2, c4, sm2.trans s4, hr⟩
    | bk ρ2 =>
      cases hr
      exact fun O4 σ4 H4 c4 s4 => q1 O4 σ4 H4 c4 (sm2.trans s4)
    | rt r =>
      cases hr
      exact q1
  · left
    have ei : i = items.length := by omega
    subst ei
    rw [List.drop_length] at hr
    cases hr
    exact ⟨hstop _ (Nat.le_refl _), q1 O' σ' H' c' sm⟩
def whileN (k : Rh → Option Bool) (b : Rh → Option Out) : Nat → Rh → Option Out
  | 0, _ => none
  | n + 1, ρ => (k ρ).bind fun x => if x = true then (b ρ).bind fun o => match o with
      | .nx ρ2 => whileN k b n ρ2
      | .ct ρ2 => whileN k b n ρ2
      | .bk ρ2 => some (.nx ρ2)
      | .rt r => some (.rt r)
    else some (.nx ρ)
theorem whileN_mono {k : Rh → Option Bool} {b : Rh → Option Out} : ∀ {n m : Nat} {ρ : Rh} {o : Out}, whileN k b n ρ = some o → n ≤ m → whileN k b m ρ = some o
  | 0, _, _, _, h, _ => by cases h
  | n + 1, 0, _, _, _, hm => by omega
  | n + 1, m + 1, ρ, o, h, hm => by
    unfold whileN at h ⊢
    obtain ⟨x, e1, h⟩ := bind_some h
    rw [e1]
    show (if x = true then _ else _) = some o
    by_cases hx : x = true
    · rw [if_pos hx] at h ⊢
      obtain ⟨o1, e2, h⟩ := bind_some h
      rw [e2]
      cases o1 with
      | nx ρ2 => exact whileN_mono (n := n) h (by omega)
      | ct ρ2 => exact whileN_mono (n := n) h (by omega)
      | bk ρ2 => exact h
      | rt r => exact h
    · rw [if_neg hx] at h ⊢
      exact h
open Classical in
noncomputable def sWhile (k : Rh → Option Bool) (b : Rh → Option Out) : Rh → Option Out := fun ρ => if h : ∃ o n, whileN k b n ρ = some o then some h.choose else none
theorem sWhile_some {k : Rh → Option Bool} {b : Rh → Option Out} {ρ : Rh} {o : Out} (h : sWhile k b ρ = some o) : ∃ n, whileN k b n ρ = some o := by
  unfold sWhile at h
  by_cases hh : ∃ o n, whileN k b n ρ = some o
  · rw [dif_pos hh] at h
    cases h
    exact hh.choose_spec
  · rw [dif_neg hh] at h
    cases h
theorem sWhile_of {k : Rh → Option Bool} {b : Rh → Option Out} {ρ : Rh} {o : Out} {n : Nat} (h : whileN k b n ρ = some o) : sWhile k b ρ = some o := by
  have hh : ∃ o n, whileN k b n ρ = some o := ⟨o, n, h⟩
  unfold sWhile
  rw [dif_pos hh]
  obtain ⟨m, hm⟩ := hh.choose_spec
  have h1 := whileN_mono h (Nat.le_max_left n m)
  have h2 := whileN_mono hm (Nat.le_max_right n m)
  rw [h1] at h2
  exact h2.symm
theorem sok_while {tc : TT} {tb : TS} {k : Rh → Option Bool} {b : Rh → Option Out} (hk : TOk K tc k) (hb : SOk K tb b) : SOk K (tWhile tc tb) (sWhile k b) := fun H0 Z O ρ o σ H D e c q => by
  obtain ⟨n, hn⟩ := sWhile_some e
  refine ⟨fun m σ' H' => ∃ O' ρ', Cor K H0 Z O' ρ' σ' H' ∧ Same (off H O) (off H' O') ∧ whileN k b m ρ' = some o, ⟨n, O, ρ, c, Same.refl _, hn⟩, fun m σ' H' hW => ?_⟩
  obtain ⟨O', ρ', c', sm, hr⟩ := hW
  cases m with
  | zero => cases hr
  | succ m =>
    obtain ⟨x, r1, hr⟩ := bind_some hr
    refine hk H0 Z O' ρ' x σ' H' _ r1 c' fun H1 s1 => ?_
    have sm1 := sm.trans (off_same s1)
    by_cases hx : x = true
    · rw [if_pos hx] at hr ⊢
      obtain ⟨o1, r2, hr⟩ := bind_some hr
      refine ⟨fun σ2 H2 => ∃ O' ρ', Cor K H0 Z O' ρ' σ2 H2 ∧ Same (off H O) (off H2 O') ∧ whileN k b m ρ' = some o, fun σ2 H2 h => ⟨m, Nat.lt_succ_self m, h⟩, ?_⟩
      refine hb H0 Z O' ρ' o1 σ' H1 _ r2 (c'.mono s1) ?_
      cases o1 with
      | nx ρ2 => exact fun O4 σ4 H4 c4 s4 => ⟨O4, ρ2, c4, sm1.trans s4, hr⟩
      | ct ρ2 => exact fun O4 σ4 H4 c4 s4 => ⟨O4, ρ2, c4, sm1.trans s4, hr⟩
      | bk ρ2 =>
        cases hr
        exact fun O4 σ4 H4 c4 s4 => q O4 σ4 H4 c4 (sm1.trans s4)
      | rt r =>
        cases hr
        exact q
    · rw [if_neg hx] at hr ⊢
      cases hr
      exact q O' σ' H1 (c'.mono s1) sm1

/-! ### a def -/
def fnD (n N : Nat) (body : Rh → Option Out) (ds : List PyData) : Option Res := if ds.length = n then match body (ds.map (fun d => some (.sh d)) ++ List.replicate (N - n) none) with
    | some (.rt r) => some r
    | some (.nx _) => some (.sh .none)
    | _ => none
  else none
theorem start_cor {H : Hp} {Z : List Addr} {n N : Nat} {vs : List V} {ds : List PyData} {Nm : List Str} (hz : ∀ p ∈ Z, ∃ o, H p = some o) (hd : DpAll K (off H Z) vs ds) (hn : ds.length = n) (hN : Nm.length = N) :
    Cor K H Z Z (ds.map (fun d => some (.sh d)) ++ List.replicate (N - n) none) (L2.start Nm vs) H := by
  have hl := dpa_len hd
  have fro : ∀ (i : Nat) (r : Res), (ds.map (fun d => some (Res.sh d)) ++ List.replicate (N - n) none)[i]? = some (some r) → ∃ d, ds[i]? = some d ∧ r = .sh d := fun i r h => by
    by_cases hi : i < ds.length
    · rw [List.getElem?_append_left (by rw [List.length_map]; exact hi), List.getElem?_map, List.getElem?_eq_getElem hi] at h
      cases h
      exact ⟨_, List.getElem?_eq_getElem hi, rfl⟩
    · rw [List.getElem?_append_right (by rw [List.length_map]; omega)] at h
      have := List.mem_of_getElem? h
      have := (List.mem_replicate.mp this).2
      cases this
  refine ⟨⟨Same.refl H, fun _ h => h, hz, hz⟩, fun i r h => ?_, fun i j xs ys p _ hi _ _ _ => ?_, ?_⟩
  · obtain ⟨d, e, rfl⟩ := fro i r h
    obtain ⟨v, e1, e2⟩ := dpa_get hd e
    refine ⟨v, ?_, e2, fun _ z => by cases z⟩
    have hi := (List.getElem?_eq_some_iff.mp e1).1
    unfold L2.start
    rw [List.getElem?_append_left (by rw [List.length_map]; exact hi), List.getElem?_map, e1]
    rfl
  · obtain ⟨d, _, z⟩ := fro i _ hi
    cases z
  · unfold L2.start
    rw [List.length_append, List.length_append, List.length_map, List.length_map, List.length_replicate, List.length_replicate, hl, hN, hn]
/-- THE RULE of a def of data -/
theorem fnG_data {P : Program} {w : World} {mg : Str → Option Value} {base : Heap} {x qual : Str} {st : Stmt} {f : Addr} {fd : FuncData} {Nm ps : List Str} {k n N : Nat} {body : Rh → Option Out}
    (F : Fun K x qual st f fd) (S : FnScope Nm ps (defScope st)) (hn : ps.length = n) (hN : Nm.length = N)
    (h : ∀ (cdv : Value) (A : Around) (outer : List PySem.Env) (s : Shared) (H : Hp), Room k (A.deeper (envOfC qual (defScope st) s.heap.objs.size f cdv)) → A.guards = some [] →
      ∃ t, PSs (cxOf CX0 P w K mg base Nm qual (defScope st) f cdv A outer s H E0).nox (defBody st) t ∧ SOk K t body) : FnG P w K mg base (k + 1) f fd ps (spD K n (fnD n N body)) := by
  refine fnG_of F S (fun vs H Q E hs => hs.1.trans hn.symm) fun cdv A outer s H vs Q hr hg hs => ?_
  obtain ⟨t, ht, hb⟩ := h cdv A outer s H hr hg
  obtain ⟨hv, ds, r, Z, hz, hd, hgd, q⟩ := hs
  refine ⟨t, ht, ?_⟩
  unfold fnD at hgd
  by_cases hl : ds.length = n
  case neg => rw [if_neg hl] at hgd; cases hgd
  rw [if_pos hl] at hgd
  have c := start_cor (Nm := Nm) hz hd hl hN
  split at hgd
  · rename_i r' hb'
    cases hgd
    exact hb H Z Z _ _ _ H _ hb' c fun v H' s' v' => q v H' s' v'
  · rename_i ρ' hb'
    cases hgd
    exact hb H Z Z _ _ _ H _ hb' c fun O' σ' H' c' _ => q _ H' c'.bs.same .none
  · cases hgd
end
end F3
namespace F3
open PySem L2
theorem bt_int : bootBuiltins "int" = some (.type "int") := by decide +kernel
theorem bt_str : bootBuiltins "str" = some (.type "str") := by decide +kernel
theorem bt_bool : bootBuiltins "bool" = some (.type "bool") := by decide +kernel
theorem bt_list : bootBuiltins "list" = some (.type "list") := by decide +kernel
theorem bt_tuple : bootBuiltins "tuple" = some (.type "tuple") := by decide +kernel
theorem bt_len : bootBuiltins "len" = some (.builtin "len") := by decide +kernel
theorem bt_abs : bootBuiltins "abs" = some (.builtin "abs") := by decide +kernel
theorem bt_max : bootBuiltins "max" = some (.builtin "max") := by decide +kernel
theorem bt_min : bootBuiltins "min" = some (.builtin "min") := by decide +kernel
theorem bt_sum : bootBuiltins "sum" = some (.builtin "sum") := by decide +kernel
theorem bt_repr : bootBuiltins "repr" = some (.builtin "repr") := by decide +kernel
theorem bt_isinstance : bootBuiltins "isinstance" = some (.builtin "isinstance") := by decide +kernel
end F3
namespace F3
open PySem L2
abbrev rSubI : R2 := rI0 fun i j => .int (i - j)
abbrev rMulI : R2 := rI CMulW fun i j => .int (i * j)
abbrev rModI : R2 := rI (fun _ j => j ≠ 0) fun i j => .int (i.fmod j)
abbrev rPowI : R2 := rI CPow fun i j => .int (i ^ j.toNat)
abbrev rLtI : R2 := rI0 fun i j => .bl (decide (i < j))
abbrev rLeI : R2 := rI0 fun i j => .bl (decide (i ≤ j))
abbrev rGtI : R2 := rI0 fun i j => .bl (decide (j < i))
abbrev rGeI : R2 := rI0 fun i j => .bl (decide (j ≤ i))
abbrev rNegI : V → Hp → VK → Prop := rU fun i => .int (-i)
abbrev rInt1 : List V → Hp → VK → Prop := fun xs H Q => (∃ i, xs = [.int i] ∧ Q (.int i) H) ∨ ∃ k, xs = [.bl k] ∧ Q (.int (if k then 1 else 0)) H
abbrev rAbsI : List V → Hp → VK → Prop := fun xs H Q => ∃ i, xs = [.int i] ∧ Q (.int (if i < 0 then -i else i)) H
abbrev rListOf (K : PySem.W.Frag) : List V → Hp → VK → Prop := fun xs H Q => ∃ p ys, xs = [.ref p] ∧ (SqL K H p ys ∨ SqT K H p ys) ∧ ∀ l, H l = none → Q (.ref l) (upd H l (.lst ys))
abbrev rTupOf (K : PySem.W.Frag) : List V → Hp → VK → Prop := fun xs H Q => ∃ p ys, xs = [.ref p] ∧ ((SqL K H p ys ∧ ∀ l, H l = none → Q (.ref l) (upd H l (.tup ys))) ∨ (SqT K H p ys ∧ Q (.ref p) H))
end F3
namespace F3
open PySem L2
theorem ru66 {k : Nat} {A : Around} (r : Room k A) : A.units + 66 < cLine := by have := r.un; omega
theorem ru65 {k : Nat} {A : Around} (r : Room k A) : A.units + 65 < cLine := by have := r.un; omega
end F3
namespace F3
open PySem L2
/-! ### data, for simp -/
@[simp] theorem sp_none : SeqAt.shaped .none = true := by simp [SeqAt.shaped, PyData.canLay0, PyData.depth]
@[simp] theorem sp_bool (b : Bool) : SeqAt.shaped (.bool b) = true := by simp [SeqAt.shaped, PyData.canLay0, PyData.depth]
@[simp] theorem sp_int (i : Int) : SeqAt.shaped (.int i) = true := by simp [SeqAt.shaped, PyData.canLay0, PyData.depth]
@[simp] theorem eqD_int (a b : Int) : eqD (.int a) (.int b) = some (a == b) := by simp [eqD, PyData.eqv]
@[simp] theorem eqD_str (a b : Str) : eqD (.str a) (.str b) = some (decide (a = b)) := rfl
@[simp] theorem eqD_boolI (a : Bool) (b : Int) : eqD (.bool a) (.int b) = some ((if a then 1 else 0) == b) := by simp [eqD, PyData.eqv]
/-- ints alone in a list -/
theorem lay_ints : ∀ ns : List Int, PyData.canLayAll0 (ns.map .int) = true
  | [] => by simp [PyData.canLayAll0]
  | n :: ns => by simp [PyData.canLayAll0, PyData.canLay0, lay_ints ns]
theorem dep_ints : ∀ ns : List Int, PyData.depthAll (ns.map .int) = 0
  | [] => by simp [PyData.depthAll]
  | n :: ns => by simp [PyData.depthAll, PyData.depth, dep_ints ns]
theorem eqv_ints : ∀ (ns ms : List Int), PyData.eqvAll (ns.map .int) (ms.map .int) = decide (ns = ms)
  | [], [] => by simp [PyData.eqvAll]
  | [], _ :: _ => by simp [PyData.eqvAll]
  | _ :: _, [] => by simp [PyData.eqvAll]
  | n :: ns, m :: ms => by
    simp only [List.map_cons, PyData.eqvAll, PyData.eqv, eqv_ints ns ms]
    by_cases h : n = m <;> by_cases g : ns = ms <;> simp [h, g]
@[simp] theorem sp_listInts (ns : List Int) : SeqAt.shaped (.list (ns.map .int)) = true := by simp [SeqAt.shaped, PyData.canLay0, PyData.depth, lay_ints, dep_ints]
@[simp] theorem sp_tupInts (ns : List Int) : SeqAt.shaped (.tuple (ns.map .int)) = true := by simp [SeqAt.shaped, PyData.canLay0, PyData.depth, lay_ints, dep_ints]
@[simp] theorem eqD_listInts (ns ms : List Int) : eqD (.list (ns.map .int)) (.list (ms.map .int)) = some (decide (ns = ms)) := by simp [eqD, PyData.eqv, eqv_ints]
@[simp] theorem sp_lst (ds : List PyData) : SeqAt.shaped (.list ds) = (PyData.canLayAll0 ds && decide (PyData.depthAll ds + 1 ≤ 64)) := by simp [SeqAt.shaped, PyData.canLay0, PyData.depth]
@[simp] theorem sp_tup (ds : List PyData) : SeqAt.shaped (.tuple ds) = (PyData.canLayAll0 ds && decide (PyData.depthAll ds + 1 ≤ 64)) := by simp [SeqAt.shaped, PyData.canLay0, PyData.depth]
end F3
set_option maxRecDepth 100000
/-! F3: equations by which simp runs the data level -/
namespace F3
open PySem PySem.Spec PyProof.Rows L2
section
variable {ρ : Rh} {a b : Rh → Option Out} {r : Res} {ds es : List PyData} {i j : Int} {x y : Str} {k n m : Nat}
@[simp] theorem lst_l : Res.lst (.sh (.list ds)) = some ds := rfl
@[simp] theorem lst_f : Res.lst (.fr ds) = some ds := rfl
@[simp] theorem lst_b : Res.lst (.bo ds) = some ds := rfl
@[simp] theorem lst_t : Res.lst (.sh (.tuple ds)) = none := rfl
@[simp] theorem lst_i : Res.lst (.sh (.int i)) = none := rfl
@[simp] theorem lst_s : Res.lst (.sh (.str x)) = none := rfl
@[simp] theorem tup_t : Res.tup (.sh (.tuple ds)) = some ds := rfl
@[simp] theorem tup_l : Res.tup (.sh (.list ds)) = none := rfl
@[simp] theorem tup_f : Res.tup (.fr ds) = none := rfl
@[simp] theorem tup_b : Res.tup (.bo ds) = none := rfl
@[simp] theorem seq_l : Res.seq (.sh (.list ds)) = some ds := rfl
@[simp] theorem seq_t : Res.seq (.sh (.tuple ds)) = some ds := rfl
@[simp] theorem seq_f : Res.seq (.fr ds) = some ds := rfl
@[simp] theorem seq_b : Res.seq (.bo ds) = some ds := rfl
@[simp] theorem seq_i : Res.seq (.sh (.int i)) = none := rfl
@[simp] theorem seq_s : Res.seq (.sh (.str x)) = none := rfl
@[simp] theorem toi_i : Res.toi (.sh (.int i)) = some i := rfl
@[simp] theorem tos_s : Res.tos (.sh (.str x)) = some x := rfl
@[simp] theorem tos_i : Res.tos (.sh (.int i)) = none := rfl
@[simp] theorem tos_l : Res.tos (.sh (.list ds)) = none := rfl
@[simp] theorem tos_t : Res.tos (.sh (.tuple ds)) = none := rfl
@[simp] theorem tos_f : Res.tos (.fr ds) = none := rfl
@[simp] theorem tos_b : Res.tos (.bo ds) = none := rfl
@[simp] theorem tob_b {q : Bool} : Res.tob (.sh (.bool q)) = some q := rfl
@[simp] theorem isn_n : Res.isNone (.sh .none) = true := rfl
@[simp] theorem isn_i : Res.isNone (.sh (.int i)) = false := rfl
@[simp] theorem isn_t : Res.isNone (.sh (.tuple ds)) = false := rfl
@[simp] theorem isn_l : Res.isNone (.sh (.list ds)) = false := rfl
@[simp] theorem isn_b {q : Bool} : Res.isNone (.sh (.bool q)) = false := rfl
@[simp] theorem isn_s : Res.isNone (.sh (.str x)) = false := rfl
@[simp] theorem isn_f : Res.isNone (.fr ds) = false := rfl
@[simp] theorem isn_bo : Res.isNone (.bo ds) = false := rfl
@[simp] theorem shr_s {d : PyData} : Res.shr (.sh d) = some d := rfl
@[simp] theorem shr_f : Res.shr (.fr ds) = some (.list ds) := rfl
@[simp] theorem shrs_n : shrs [] = some [] := rfl
@[simp] theorem shrs_c {d : PyData} {rs : List Res} : shrs (.sh d :: rs) = (shrs rs).bind fun ds => some (d :: ds) := by
  show (match Res.shr (.sh d), shrs rs with | some d, some ds => some (d :: ds) | _, _ => none) = _
  cases shrs rs <;> rfl
@[simp] theorem shrs_f {rs : List Res} : shrs (.fr ds :: rs) = (shrs rs).bind fun es => some (.list ds :: es) := by
  show (match Res.shr (.fr ds), shrs rs with | some d, some ds => some (d :: ds) | _, _ => none) = _
  cases shrs rs <;> rfl
@[simp] theorem toIs_n : toIs [] = some [] := rfl
@[simp] theorem toIs_c {rs : List Res} : toIs (.sh (.int i) :: rs) = (toIs rs).bind fun is => some (i :: is) := by
  show (match Res.toi (.sh (.int i)), toIs rs with | some d, some ds => some (d :: ds) | _, _ => none) = _
  cases toIs rs <;> rfl
@[simp] theorem toInts_m {ns : List Int} : toInts (ns.map .int) = some ns := toInts_map ns
@[simp] theorem toInts_c : toInts (.int i :: ds) = (toInts ds).bind fun is => some (i :: is) := by
  show (match toInts ds with | some is => some (i :: is) | none => none) = _
  cases toInts ds <;> rfl
@[simp] theorem toInts_n : toInts [] = some [] := rfl
/-! variables -/
@[simp] theorem eVar_eq : eVar k ρ = (ρ[k]?).bind id := by
  unfold eVar
  cases ρ[k]? <;> rfl
@[simp] theorem retR_s {d : PyData} : retR (.sh d) = .sh d := rfl
@[simp] theorem retR_f : retR (.fr ds) = .fr ds := rfl
@[simp] theorem retR_b : retR (.bo ds) = .fr ds := rfl
/-! operators -/
@[simp] theorem addR_ii : addR (.sh (.int i)) (.sh (.int j)) = some (.sh (.int (i + j))) := rfl
@[simp] theorem addR_ss : addR (.sh (.str x)) (.sh (.str y)) = if x.length + y.length ≤ LIM then some (.sh (.str (x ++ y))) else none := rfl
@[simp] theorem addR_tt : addR (.sh (.tuple ds)) (.sh (.tuple es)) = if ds.length + es.length ≤ LIM then some (.sh (.tuple (ds ++ es))) else none := rfl
@[simp] theorem addR_ll : addR (.sh (.list ds)) (.sh (.list es)) = if ds.length + es.length ≤ LIM then some (.fr (ds ++ es)) else none := rfl
@[simp] theorem addR_lf : addR (.sh (.list ds)) (.fr es) = if ds.length + es.length ≤ LIM then some (.fr (ds ++ es)) else none := rfl
@[simp] theorem addR_lb : addR (.sh (.list ds)) (.bo es) = if ds.length + es.length ≤ LIM then some (.fr (ds ++ es)) else none := rfl
@[simp] theorem addR_fl : addR (.fr ds) (.sh (.list es)) = if ds.length + es.length ≤ LIM then some (.fr (ds ++ es)) else none := rfl
@[simp] theorem addR_ff : addR (.fr ds) (.fr es) = if ds.length + es.length ≤ LIM then some (.fr (ds ++ es)) else none := rfl
@[simp] theorem addR_fb : addR (.fr ds) (.bo es) = if ds.length + es.length ≤ LIM then some (.fr (ds ++ es)) else none := rfl
@[simp] theorem addR_bl : addR (.bo ds) (.sh (.list es)) = if ds.length + es.length ≤ LIM then some (.fr (ds ++ es)) else none := rfl
@[simp] theorem addR_bf : addR (.bo ds) (.fr es) = if ds.length + es.length ≤ LIM then some (.fr (ds ++ es)) else none := rfl
@[simp] theorem addR_bb : addR (.bo ds) (.bo es) = if ds.length + es.length ≤ LIM then some (.fr (ds ++ es)) else none := rfl
@[simp] theorem subR_ii : subR (.sh (.int i)) (.sh (.int j)) = some (.sh (.int (i - j))) := rfl
@[simp] theorem mulI_ii (h : mulOk i j) : mulI (.sh (.int i)) (.sh (.int j)) = some (.sh (.int (i * j))) := by
  show (match (if mulOk i j then some (PyData.int (i * j)) else none) with | some d => some (Res.sh d) | none => none) = _
  rw [if_pos h]
@[simp] theorem fdivR_ii (h : divOk j) : fdivR (.sh (.int i)) (.sh (.int j)) = some (.sh (.int (i / j))) := by
  show (match (if divOk j then some (PyData.int (i / j)) else _) with | some d => some (Res.sh d) | none => none) = _
  rw [if_pos h]
@[simp] theorem modR_ii (h : 0 < j) : modR (.sh (.int i)) (.sh (.int j)) = some (.sh (.int (i % j))) := by
  show (match (if 0 < j then some (PyData.int (i % j)) else _) with | some d => some (Res.sh d) | none => none) = _
  rw [if_pos h]
@[simp] theorem powR_ii (h0 : 0 ≤ j) (h1 : j ≤ 1000) (h2 : i.natAbs < 1000000000000) : powR (.sh (.int i)) (.sh (.int j)) = some (.sh (.int (i ^ j.toNat))) := by
  show (match (if 0 ≤ j ∧ j ≤ 1000000 ∧ i.natAbs < 2 ^ 64 then some (PyData.int (i ^ j.toNat)) else _) with | some d => some (Res.sh d) | none => none) = _
  rw [if_pos ⟨h0, by omega, by omega⟩]
@[simp] theorem negR_i : negR (.sh (.int i)) = some (.sh (.int (-i))) := rfl
@[simp] theorem ltR_ii : ltR (.sh (.int i)) (.sh (.int j)) = some (.sh (.bool (decide (i < j)))) := rfl
@[simp] theorem leR_ii : leR (.sh (.int i)) (.sh (.int j)) = some (.sh (.bool (decide (i ≤ j)))) := rfl
@[simp] theorem gtR_ii : gtR (.sh (.int i)) (.sh (.int j)) = some (.sh (.bool (decide (j < i)))) := rfl
@[simp] theorem geR_ii : geR (.sh (.int i)) (.sh (.int j)) = some (.sh (.bool (decide (j ≤ i)))) := rfl
@[simp] theorem eqR_eq {p q : Res} : eqR p q = (eqD p.dat q.dat).bind fun k => some (.sh (.bool k)) := by
  unfold eqR
  cases eqD p.dat q.dat <;> rfl
@[simp] theorem neR_eq {p q : Res} : neR p q = (eqD p.dat q.dat).bind fun k => some (.sh (.bool (!k))) := by
  unfold neR
  cases eqD p.dat q.dat <;> rfl
@[simp] theorem isR_none {p : Res} {neg : Bool} : isR neg p (.sh .none) = some (.sh (.bool (neg != p.isNone))) := rfl
@[simp] theorem isR_bool {p q neg : Bool} : isR neg (.sh (.bool p)) (.sh (.bool q)) = some (.sh (.bool (neg != (p == q)))) := rfl
/-! built-ins -/
@[simp] theorem on1_1 {g : Res → Option Res} : on1 g [r] = g r := rfl
@[simp] theorem lenR_l : lenR (.sh (.list ds)) = some (.sh (.int ds.length)) := rfl
@[simp] theorem lenR_t : lenR (.sh (.tuple ds)) = some (.sh (.int ds.length)) := rfl
@[simp] theorem lenR_f : lenR (.fr ds) = some (.sh (.int ds.length)) := rfl
@[simp] theorem lenR_b : lenR (.bo ds) = some (.sh (.int ds.length)) := rfl
@[simp] theorem lenR_s : lenR (.sh (.str x)) = if x.length ≤ LIM then some (.sh (.int x.length)) else none := rfl
@[simp] theorem absR_i : absR (.sh (.int i)) = some (.sh (.int (if i < 0 then -i else i))) := rfl
@[simp] theorem intR_i : intR (.sh (.int i)) = some (.sh (.int i)) := rfl
@[simp] theorem intR_b {q : Bool} : intR (.sh (.bool q)) = some (.sh (.int (if q then 1 else 0))) := rfl
@[simp] theorem strR_i (h : i.natAbs.log2 < 1920) : strR (.sh (.int i)) = some (.sh (.str (toString i))) := if_pos h
@[simp] theorem listR_l : listR (.sh (.list ds)) = some (.fr ds) := rfl
@[simp] theorem listR_t : listR (.sh (.tuple ds)) = some (.fr ds) := rfl
@[simp] theorem listR_f : listR (.fr ds) = some (.fr ds) := rfl
@[simp] theorem listR_b : listR (.bo ds) = some (.fr ds) := rfl
@[simp] theorem tupR_l : tupR (.sh (.list ds)) = some (.sh (.tuple ds)) := rfl
@[simp] theorem tupR_t : tupR (.sh (.tuple ds)) = some (.sh (.tuple ds)) := rfl
@[simp] theorem tupR_f : tupR (.fr ds) = some (.sh (.tuple ds)) := rfl
@[simp] theorem tupR_b : tupR (.bo ds) = some (.sh (.tuple ds)) := rfl
@[simp] theorem slR_t {lo hi : Option Int} : slR (.sh (.tuple ds)) lo hi = some (.sh (.tuple (cutD ds lo hi))) := rfl
@[simp] theorem slR_l {lo hi : Option Int} : slR (.sh (.list ds)) lo hi = some (.fr (cutD ds lo hi)) := rfl
@[simp] theorem slR_f {lo hi : Option Int} : slR (.fr ds) lo hi = some (.fr (cutD ds lo hi)) := rfl
@[simp] theorem slR_b {lo hi : Option Int} : slR (.bo ds) lo hi = some (.fr (cutD ds lo hi)) := rfl
@[simp] theorem eSl3_eq {e : Rh → Option Res} {lo hi st : Po} : eSl3 e lo hi st ρ = (e ρ).bind fun x => (lo ρ).bind fun l => (hi ρ).bind fun h => (st ρ).bind fun k => x.lst.bind fun ds => if k ≠ some 0 then some (.fr (pickD ds l h k)) else none := by
  unfold eSl3
  congr
  funext x
  congr
  funext l
  congr
  funext h
  congr
  funext k
  cases x.lst <;> rfl
@[simp] theorem ixR_t : ixR (.sh (.tuple ds)) (.sh (.int i)) = (atI ds i).bind fun d => some (.sh d) := by
  show (match atI ds i with | some d => some (Res.sh d) | none => none) = _
  cases atI ds i <;> rfl
@[simp] theorem ixR_l : ixR (.sh (.list ds)) (.sh (.int i)) = (atI ds i).bind fun d => some (.sh d) := by
  show (match atI ds i with | some d => some (Res.sh d) | none => none) = _
  cases atI ds i <;> rfl
@[simp] theorem ixR_f : ixR (.fr ds) (.sh (.int i)) = (atI ds i).bind fun d => some (.sh d) := by
  show (match atI ds i with | some d => some (Res.sh d) | none => none) = _
  cases atI ds i <;> rfl
@[simp] theorem ixR_b : ixR (.bo ds) (.sh (.int i)) = (atI ds i).bind fun d => some (.sh d) := by
  show (match atI ds i with | some d => some (Res.sh d) | none => none) = _
  cases atI ds i <;> rfl
theorem atI_nn {α : Type} {xs : List α} (h : 0 ≤ i) : atI xs i = xs[i.toNat]? := by
  unfold atI ixN
  rw [if_pos h]
  by_cases g : i < xs.length
  · rw [if_pos g]; rfl
  · rw [if_neg g, List.getElem?_eq_none (by omega)]; rfl
@[simp] theorem atI_0 {α : Type} {xs : List α} : atI xs 0 = xs[0]? := atI_nn (by decide)
@[simp] theorem atI_1 {α : Type} {xs : List α} : atI xs 1 = xs[1]? := atI_nn (by decide)
@[simp] theorem atI_2 {α : Type} {xs : List α} : atI xs 2 = xs[2]? := atI_nn (by decide)
@[simp] theorem atI_3 {α : Type} {xs : List α} : atI xs 3 = xs[3]? := atI_nn (by decide)
@[simp] theorem atI_4 {α : Type} {xs : List α} : atI xs 4 = xs[4]? := atI_nn (by decide)
@[simp] theorem atI_5 {α : Type} {xs : List α} : atI xs 5 = xs[5]? := atI_nn (by decide)
@[simp] theorem atI_nat' {α : Type} {xs : List α} : atI xs (k : Int) = xs[k]? := by rw [atI_nn (by omega)]; simp
@[simp] theorem atI_m1 {α : Type} {xs : List α} : atI xs (-1) = xs[xs.length - 1]? := by
  unfold atI ixN
  rw [if_neg (by decide)]
  by_cases g : -(xs.length : Int) ≤ -1
  · rw [if_pos g]
    show xs[(-1 + (xs.length : Int)).toNat]? = _
    congr 1
    omega
  · rw [if_neg g]
    have e : xs.length = 0 := by omega
    rw [List.getElem?_eq_none (by omega)]
    rfl
/-! kinds -/
@[simp] theorem isK_i : ∀ {k : Kd}, isK k (.int i) = decide (k = .int) := fun {k} => by cases k <;> rfl
@[simp] theorem isK_l : ∀ {k : Kd}, isK k (.list ds) = decide (k = .list) := fun {k} => by cases k <;> rfl
@[simp] theorem isK_t : ∀ {k : Kd}, isK k (.tuple ds) = decide (k = .tuple) := fun {k} => by cases k <;> rfl
@[simp] theorem isK_s : ∀ {k : Kd}, isK k (.str x) = decide (k = .str) := fun {k} => by cases k <;> rfl
@[simp] theorem isK_n : ∀ {k : Kd}, isK k .none = false := fun {k} => by cases k <;> rfl
@[simp] theorem isK_b : ∀ {k : Kd} {q : Bool}, isK k (.bool q) = (decide (k = .int) || decide (k = .bool)) := fun {k} => by cases k <;> intro q <;> rfl
@[simp] theorem isK_d : ∀ {k : Kd} {kvs : List (PyData × PyData)}, isK k (.dict kvs) = false := fun {k} => by cases k <;> intro kvs <;> rfl
/-! what is walked, targets -/
@[simp] theorem itSeq_eq {e : Rh → Option Res} : itSeq e ρ = (e ρ).bind fun r => match r with
  | .sh (.list ds) => some ds
  | .sh (.tuple ds) => some ds
  | .fr ds => some ds
  | _ => none := rfl
@[simp] theorem rngD_1 (h : rOk j) : rngD [j] = some (rangeD 0 1 j.toNat) := by
  rw [rngD_eq]
  exact if_pos h
@[simp] theorem rngD_2 (h : rOk i) (g : rOk j) : rngD [i, j] = some (rangeD i 1 (j - i).toNat) := by
  rw [rngD_eq]
  exact if_pos ⟨h, g⟩
@[simp] theorem gsN_n : gsN [] ρ = some ρ := rfl
@[simp] theorem gsC_c {f : PyData → Rh → Option Rh} {fs : List PyData → Rh → Option Rh} {d : PyData} : gsC f fs (d :: ds) ρ = (f d ρ).bind (fs ds) := rfl
@[simp] theorem gTp_t {fs : List PyData → Rh → Option Rh} : gTp fs (.tuple ds) ρ = fs ds ρ := rfl
/-! statements -/
def seqK (b : Rh → Option Out) : Out → Option Out
  | .nx ρ' => b ρ'
  | o => some o
@[simp] theorem sSeq_eq : sSeq a b ρ = (a ρ).bind (seqK b) := by
  unfold sSeq
  congr
@[simp] theorem seqK_n : seqK b (.nx ρ) = b ρ := rfl
@[simp] theorem seqK_r : seqK b (.rt r) = some (.rt r) := rfl
@[simp] theorem seqK_b : seqK b (.bk ρ) = some (.bk ρ) := rfl
@[simp] theorem seqK_c : seqK b (.ct ρ) = some (.ct ρ) := rfl
@[simp] theorem putR_s {d : PyData} : putR ρ k (.sh d) = some (ρ.set k (some (.sh d))) := rfl
@[simp] theorem putR_f : putR ρ k (.fr ds) = some (ρ.set k (some (.bo ds))) := rfl
@[simp] theorem sPar_eq {as : Rh → Option (List Res)} : sPar n m as ρ = (as ρ).bind fun rs => (shrs rs).bind fun ds => match ds with
  | [x, y] => some (.nx ((ρ.set n (some (.sh x))).set m (some (.sh y))))
  | _ => none := rfl
@[simp] theorem sFo_eq {is : List Nat} : sFo is a ρ = (a ρ).bind fun o => some (forgO is o) := rfl
theorem sApp_eq {e : Rh → Option Res} (h : ρ[k]? = some (some (.bo ds))) : sApp k e ρ = (e ρ).bind fun r => r.shr.bind fun d => if ds.length < LIM then some (.nx (ρ.set k (some (.bo (ds ++ [d]))))) else none := by
  unfold sApp
  rw [h]
theorem sPop_eq (h : ρ[k]? = some (some (.bo ds))) : sPop k ρ = if ds ≠ [] then some (.nx (ρ.set k (some (.bo ds.dropLast)))) else none := by
  unfold sPop
  rw [h]
theorem sPut_eq {e f : Rh → Option Res} (h : ρ[k]? = some (some (.bo ds))) : sPut k f e ρ = (e ρ).bind fun r => r.shr.bind fun d => (f ρ).bind fun x => x.toi.bind fun n => (ixN ds.length n).bind fun j => some (.nx (ρ.set k (some (.bo (ds.set j d))))) := by
  unfold sPut
  congr
  funext r
  congr
  funext d
  rw [h]
  simp only
  congr
  funext x
  cases x.toi with
  | none => rfl
  | some n =>
    simp only [Option.bind_some]
    cases ixN ds.length n <;> rfl
@[simp] theorem frz1_b (h : ρ[k]? = some (some (.bo ds))) : frz1 ρ k = ρ.set k (some (.sh (.list ds))) := by
  unfold frz1
  rw [h]
@[simp] theorem frz1_s {d : PyData} (h : ρ[k]? = some (some (.sh d))) : frz1 ρ k = ρ := by
  unfold frz1
  rw [h]
/-- a def's end -/
def finD : Option Out → Option Res
  | some (.rt r) => some r
  | some (.nx _) => some (.sh .none)
  | _ => none
@[simp] theorem finD_r : finD (some (.rt r)) = some r := rfl
@[simp] theorem finD_n : finD (some (.nx ρ)) = some (.sh .none) := rfl
theorem fnD_eq (h : ds.length = n) : fnD n m a ds = finD (a (ds.map (fun d => some (.sh d)) ++ List.replicate (m - n) none)) := by
  unfold fnD
  rw [if_pos h]
  rfl
@[simp] theorem fnD_1 {p : PyData} : fnD 1 m a [p] = finD (a ([some (.sh p)] ++ List.replicate (m - 1) none)) := fnD_eq rfl
@[simp] theorem fnD_2 {p q : PyData} : fnD 2 m a [p, q] = finD (a ([some (.sh p), some (.sh q)] ++ List.replicate (m - 2) none)) := fnD_eq rfl
@[simp] theorem fnD_3 {p q s : PyData} : fnD 3 m a [p, q, s] = finD (a ([some (.sh p), some (.sh q), some (.sh s)] ++ List.replicate (m - 3) none)) := fnD_eq rfl
@[simp] theorem fnD_4 {p q s t : PyData} : fnD 4 m a [p, q, s, t] = finD (a ([some (.sh p), some (.sh q), some (.sh s), some (.sh t)] ++ List.replicate (m - 4) none)) := fnD_eq rfl
@[simp] theorem fnD_0 : fnD 0 m a [] = finD (a (List.replicate m none)) := fnD_eq (ds := []) (n := 0) rfl
end
end F3
set_option maxRecDepth 100000
set_option maxHeartbeats 1000000
/-! two by two matrices of ints, sizes -/
namespace F3
open PySem L2
/-! ### sizes -/
def Bd (n : Nat) (i : Int) : Prop := i.natAbs < 2 ^ n
theorem Bd.mono {n m : Nat} {i : Int} (h : Bd n i) (hm : n ≤ m) : Bd m i := Nat.lt_of_lt_of_le h (Nat.pow_le_pow_right (by decide) hm)
theorem Bd.neg {n : Nat} {i : Int} (h : Bd n i) : Bd n (-i) := by unfold Bd at *; rwa [Int.natAbs_neg]
theorem Bd.mul {n m : Nat} {i j : Int} (h : Bd n i) (g : Bd m j) : Bd (n + m) (i * j) := by
  unfold Bd at *
  rw [Int.natAbs_mul, Nat.pow_add]
  exact Nat.mul_lt_mul'' h g
theorem Bd.add {n : Nat} {i j : Int} (h : Bd n i) (g : Bd n j) : Bd (n + 1) (i + j) := by
  unfold Bd at *
  have := Int.natAbs_add_le i j
  rw [Nat.pow_succ]
  omega
theorem Bd.sub {n : Nat} {i j : Int} (h : Bd n i) (g : Bd n j) : Bd (n + 1) (i - j) := by
  rw [Int.sub_eq_add_neg]
  exact h.add g.neg
theorem Bd.log {n : Nat} {i : Int} (h : Bd n i) (h0 : 0 < n) : i.natAbs.log2 < n := by
  unfold Bd at h
  by_cases z : i.natAbs = 0
  · rw [z]; simpa using h0
  · exact (Nat.log2_lt z).mpr h
theorem Bd.log' {n : Nat} {i : Int} (h : Bd n i) : i.natAbs.log2 ≤ n := by
  have := (h.mono (Nat.le_succ n)).log (by omega)
  omega
theorem mulOk_of {i j : Int} {n m : Nat} (hi : Bd n i) (hj : Bd m j) (h : n + m < 1000000) : mulOk i j := by
  have h1 := hi.log'
  have h2 := hj.log'
  unfold mulOk
  omega
theorem divOk_of {j : Int} {n : Nat} (h0 : 0 < j) (hj : Bd n j) (h : n < 9000) : divOk j := ⟨h0, Nat.lt_of_le_of_lt hj.log' h⟩
theorem bd_of {n : Nat} {i : Int} (h1 : -(2 ^ n : Int) < i) (h2 : i < 2 ^ n) : Bd n i := by
  unfold Bd
  have e : ((2 ^ n : Nat) : Int) = (2 : Int) ^ n := by simp
  omega
theorem Bd.lt {n : Nat} {i : Int} (h : Bd n i) : i < 2 ^ n := by
  unfold Bd at h
  have e : ((2 ^ n : Nat) : Int) = (2 : Int) ^ n := by simp
  omega
theorem Bd.gt {n : Nat} {i : Int} (h : Bd n i) : -(2 ^ n : Int) < i := by
  unfold Bd at h
  have e : ((2 ^ n : Nat) : Int) = (2 : Int) ^ n := by simp
  omega
/-! ### matrices -/
structure M where
  a : Int
  b : Int
  c : Int
  d : Int
  deriving DecidableEq
namespace M
def D (m : M) : PyData := .tuple [.int m.a, .int m.b, .int m.c, .int m.d]
def mul (x y : M) : M := ⟨x.a * y.a + x.b * y.c, x.a * y.b + x.b * y.d, x.c * y.a + x.d * y.c, x.c * y.b + x.d * y.d⟩
instance : Mul M := ⟨mul⟩
def one : M := ⟨1, 0, 0, 1⟩
def inv (m : M) : M := ⟨m.d, -m.b, -m.c, m.a⟩
def det (m : M) : Int := m.a * m.d - m.b * m.c
def tr (m : M) : Int := m.a + m.d
def bd (n : Nat) (m : M) : Prop := Bd n m.a ∧ Bd n m.b ∧ Bd n m.c ∧ Bd n m.d
theorem mul_def (x y : M) : x * y = ⟨x.a * y.a + x.b * y.c, x.a * y.b + x.b * y.d, x.c * y.a + x.d * y.c, x.c * y.b + x.d * y.d⟩ := rfl
@[ext] theorem ext' {x y : M} (h1 : x.a = y.a) (h2 : x.b = y.b) (h3 : x.c = y.c) (h4 : x.d = y.d) : x = y := by
  cases x; cases y; simp_all
theorem mul_assoc (x y z : M) : x * y * z = x * (y * z) := by
  simp only [mul_def]
  ext <;> simp only [] <;> simp only [Int.add_mul, Int.mul_add, Int.mul_assoc] <;> omega
theorem one_mul (x : M) : one * x = x := by
  simp only [mul_def, one]
  ext <;> simp
theorem mul_one (x : M) : x * one = x := by
  simp only [mul_def, one]
  ext <;> simp
theorem mul_inv {x : M} (h : x.det = 1) : x * x.inv = one := by
  unfold det at h
  simp only [mul_def, one, inv]
  have h1 := Int.mul_comm x.a x.d
  have h2 := Int.mul_comm x.b x.c
  have h3 := Int.mul_comm x.a x.b
  have h4 := Int.mul_comm x.c x.d
  ext <;> simp only [Int.mul_neg] <;> omega
theorem inv_mul {x : M} (h : x.det = 1) : x.inv * x = one := by
  unfold det at h
  simp only [mul_def, one, inv]
  have h1 := Int.mul_comm x.a x.d
  have h2 := Int.mul_comm x.b x.c
  have h3 := Int.mul_comm x.b x.d
  have h4 := Int.mul_comm x.c x.a
  ext <;> simp only [Int.neg_mul] <;> omega
theorem det_mul (x y : M) : (x * y).det = x.det * y.det := by
  simp only [det, mul_def]
  have e : ∀ p q r s t u v w : Int, (p * t + q * v) * (r * u + s * w) - (p * u + q * w) * (r * t + s * v) = (p * s - q * r) * (t * w - u * v) := by
    intro p q r s t u v w
    simp only [Int.sub_mul, Int.mul_sub, Int.add_mul, Int.mul_add]
    have c1 : p * t * (r * u) = p * u * (r * t) := by ac_rfl
    have c2 : p * t * (s * w) = p * s * (t * w) := by ac_rfl
    have c3 : q * v * (r * u) = q * r * (u * v) := by ac_rfl
    have c4 : q * v * (s * w) = q * w * (s * v) := by ac_rfl
    have c5 : p * u * (s * v) = p * s * (u * v) := by ac_rfl
    have c6 : q * w * (r * t) = q * r * (t * w) := by ac_rfl
    omega
  exact e _ _ _ _ _ _ _ _
theorem det_inv (x : M) : x.inv.det = x.det := by
  simp only [det, inv, Int.neg_mul, Int.mul_neg, Int.neg_neg]
  rw [Int.mul_comm]
theorem inv_inv (x : M) : x.inv.inv = x := by
  simp only [inv, Int.neg_neg]
theorem inv_mul_rev (x y : M) : (x * y).inv = y.inv * x.inv := by
  simp only [inv, mul_def]
  ext <;> simp only [Int.neg_mul, Int.mul_neg, Int.neg_neg, Int.neg_add] <;> (try simp only [Int.mul_comm]) <;> omega
theorem tr_comm (x y : M) : (x * y).tr = (y * x).tr := by
  simp only [tr, mul_def]
  have h1 := Int.mul_comm x.a y.a
  have h2 := Int.mul_comm x.b y.c
  have h3 := Int.mul_comm x.c y.b
  have h4 := Int.mul_comm x.d y.d
  omega
/-- turned by h -/
def by_ (h x : M) : M := h * x * h.inv
theorem by_lead {h x : M} (hd : h.det = 1) : h * x = by_ h x * h := by
  unfold by_
  rw [mul_assoc, inv_mul hd, mul_one]
theorem by_tr {h : M} (hd : h.det = 1) (x : M) : (by_ h x).tr = x.tr := by
  unfold by_
  rw [tr_comm, ← mul_assoc, inv_mul hd, one_mul]
theorem by_det {h : M} (hd : h.det = 1) (x : M) : (by_ h x).det = x.det := by
  unfold by_
  rw [det_mul, det_mul, det_inv, hd, Int.one_mul, Int.mul_one]
theorem bd.mono {n m : Nat} {x : M} (h : x.bd n) (hm : n ≤ m) : x.bd m := ⟨h.1.mono hm, h.2.1.mono hm, h.2.2.1.mono hm, h.2.2.2.mono hm⟩
theorem bd.mul {n m : Nat} {x y : M} (h : x.bd n) (g : y.bd m) : (x * y).bd (n + m + 1) := by
  obtain ⟨h1, h2, h3, h4⟩ := h
  obtain ⟨g1, g2, g3, g4⟩ := g
  exact ⟨(h1.mul g1).add (h2.mul g3), (h1.mul g2).add (h2.mul g4), (h3.mul g1).add (h4.mul g3), (h3.mul g2).add (h4.mul g4)⟩
theorem bd.inv {n : Nat} {x : M} (h : x.bd n) : x.inv.bd n := ⟨h.2.2.2, h.2.1.neg, h.2.2.1.neg, h.1⟩
theorem bd.by_ {n m : Nat} {x y : M} (h : x.bd n) (g : y.bd m) : (M.by_ x y).bd (n + m + 1 + n + 1) := (h.mul g).mul h.inv
theorem D_inj {x y : M} (h : x.D = y.D) : x = y := by
  unfold D at h
  cases x; cases y
  simp at h
  simp [h]
end M
theorem eqD_M (x y : M) : eqD x.D y.D = some (decide (x = y)) := by
  have e : eqD x.D y.D = some (PyData.eqv x.D y.D) := by
    simp [eqD, M.D, PyData.canLayAll0, PyData.canLay0, PyData.depthAll, PyData.depth]
  rw [e]
  congr 1
  rw [Bool.eq_iff_iff]
  simp only [M.D, PyData.eqv, PyData.eqvAll, decide_eq_true_eq, Bool.and_eq_true, beq_iff_eq, and_true]
  constructor
  · intro ⟨h1, h2, h3, h4⟩
    exact M.ext' h1 h2 h3 h4
  · intro h
    subst h
    exact ⟨rfl, rfl, rfl, rfl⟩
end F3
set_option maxRecDepth 100000
set_option maxHeartbeats 1000000
/-! data that may be shown: sizes -/
namespace F3
open PySem L2
instance (n : Nat) (i : Int) : Decidable (Bd n i) := inferInstanceAs (Decidable (_ < _))
abbrev IB : Nat := 1700
mutual
/-- each int below 2 ^ 1700, each text short -/
def okB : PyData → Bool
  | .none | .bool _ => true
  | .int i => decide (Bd IB i)
  | .str x => decide (x.length ≤ 600) && PyData.strOk x
  | .list xs | .tuple xs => okL xs
  | .dict _ => false
def okL : List PyData → Bool
  | [] => true
  | x :: xs => okB x && okL xs
end
mutual
/-- how many nodes -/
def cn : PyData → Nat
  | .none | .bool _ | .int _ => 1
  | .str x => 1 + x.length
  | .list xs | .tuple xs => cnL xs + 1
  | .dict _ => 1
def cnL : List PyData → Nat
  | [] => 0
  | x :: xs => cn x + cnL xs
end
@[simp] theorem okB_n : okB .none = true := by simp only [okB]
@[simp] theorem okB_b {b : Bool} : okB (.bool b) = true := by simp only [okB]
@[simp] theorem okB_i {i : Int} : okB (.int i) = decide (Bd IB i) := by simp only [okB]
@[simp] theorem okB_s {x : Str} : okB (.str x) = (decide (x.length ≤ 600) && PyData.strOk x) := by simp only [okB]
@[simp] theorem okB_l {ds : List PyData} : okB (.list ds) = okL ds := by simp only [okB]
@[simp] theorem okB_t {ds : List PyData} : okB (.tuple ds) = okL ds := by simp only [okB]
@[simp] theorem okL_n : okL [] = true := by simp only [okL]
@[simp] theorem okL_c {d : PyData} {ds : List PyData} : okL (d :: ds) = (okB d && okL ds) := by simp only [okL]
@[simp] theorem cn_n : cn .none = 1 := by simp only [cn]
@[simp] theorem cn_b {b : Bool} : cn (.bool b) = 1 := by simp only [cn]
@[simp] theorem cn_i {i : Int} : cn (.int i) = 1 := by simp only [cn]
@[simp] theorem cn_s {x : Str} : cn (.str x) = 1 + x.length := by simp only [cn]
@[simp] theorem cn_l {ds : List PyData} : cn (.list ds) = cnL ds + 1 := by simp only [cn]
@[simp] theorem cn_t {ds : List PyData} : cn (.tuple ds) = cnL ds + 1 := by simp only [cn]
@[simp] theorem cnL_n : cnL [] = 0 := by simp only [cnL]
@[simp] theorem cnL_c {d : PyData} {ds : List PyData} : cnL (d :: ds) = cn d + cnL ds := by simp only [cnL]
@[simp] theorem dpA_n : PyData.depthAll [] = 0 := by simp only [PyData.depthAll]
@[simp] theorem dpA_c {d : PyData} {ds : List PyData} : PyData.depthAll (d :: ds) = max d.depth (PyData.depthAll ds) := by simp only [PyData.depthAll]
@[simp] theorem dp_n : PyData.depth .none = 0 := by simp only [PyData.depth]
@[simp] theorem dp_b {b : Bool} : PyData.depth (.bool b) = 0 := by simp only [PyData.depth]
@[simp] theorem dp_i {i : Int} : PyData.depth (.int i) = 0 := by simp only [PyData.depth]
@[simp] theorem dp_s {x : Str} : PyData.depth (.str x) = 0 := by simp only [PyData.depth]
@[simp] theorem dp_l {ds : List PyData} : PyData.depth (.list ds) = PyData.depthAll ds + 1 := by simp only [PyData.depth]
@[simp] theorem dp_t {ds : List PyData} : PyData.depth (.tuple ds) = PyData.depthAll ds + 1 := by simp only [PyData.depth]
@[simp] theorem okL_app : ∀ {xs ys : List PyData}, okL (xs ++ ys) = (okL xs && okL ys)
  | [], ys => by simp
  | x :: xs, ys => by simp [okL_app (xs := xs), Bool.and_assoc]
@[simp] theorem cnL_app : ∀ {xs ys : List PyData}, cnL (xs ++ ys) = cnL xs + cnL ys
  | [], ys => by simp
  | x :: xs, ys => by simp [cnL_app (xs := xs), Nat.add_assoc]
@[simp] theorem dpA_app : ∀ {xs ys : List PyData}, PyData.depthAll (xs ++ ys) = max (PyData.depthAll xs) (PyData.depthAll ys)
  | [], ys => by simp
  | x :: xs, ys => by simp [dpA_app (xs := xs), Nat.max_assoc]
theorem okL_iff : ∀ {ds : List PyData}, okL ds = true ↔ ∀ d ∈ ds, okB d = true
  | [] => by simp
  | d :: ds => by simp [okL_iff (ds := ds)]
theorem cnL_mem : ∀ {ds : List PyData} {d : PyData}, d ∈ ds → cn d ≤ cnL ds
  | d :: ds, e, h => by
    rcases List.mem_cons.mp h with rfl | h
    · simp
    · have := cnL_mem h
      simp
      omega
theorem cn_pos : ∀ d : PyData, 1 ≤ cn d := fun d => by cases d <;> simp [cn]
theorem cnL_len : ∀ ds : List PyData, ds.length ≤ cnL ds
  | [] => by simp
  | d :: ds => by
    have := cnL_len ds
    have := cn_pos d
    simp
    omega
theorem dpA_mem : ∀ {ds : List PyData} {d : PyData}, d ∈ ds → d.depth ≤ PyData.depthAll ds
  | d :: ds, e, h => by
    rcases List.mem_cons.mp h with rfl | h
    · simp; omega
    · have := dpA_mem h
      simp
      omega
theorem dpA_le : ∀ {ds : List PyData} {n : Nat}, (∀ d ∈ ds, d.depth ≤ n) → PyData.depthAll ds ≤ n
  | [], n, _ => by simp
  | d :: ds, n, h => by
    have h1 := h d List.mem_cons_self
    have h2 := dpA_le (ds := ds) (n := n) fun e he => h e (List.mem_cons_of_mem _ he)
    simp
    omega
/-! sublists -/
theorem cnL_take (n : Nat) : ∀ ds : List PyData, cnL (ds.take n) ≤ cnL ds := fun ds => by
  have h : cnL ds = cnL (ds.take n) + cnL (ds.drop n) := by rw [← cnL_app, List.take_append_drop]
  omega
theorem cnL_drop (n : Nat) : ∀ ds : List PyData, cnL (ds.drop n) ≤ cnL ds := fun ds => by
  have h : cnL ds = cnL (ds.take n) + cnL (ds.drop n) := by rw [← cnL_app, List.take_append_drop]
  omega
theorem cut_mem {ds : List PyData} {lo hi : Option Int} {d : PyData} (h : d ∈ cutD ds lo hi) : d ∈ ds := List.mem_of_mem_drop (List.mem_of_mem_take h)
theorem cnL_cut (ds : List PyData) (lo hi : Option Int) : cnL (cutD ds lo hi) ≤ cnL ds := Nat.le_trans (cnL_take _ _) (cnL_drop _ _)
theorem okL_cut {ds : List PyData} (lo hi : Option Int) (h : okL ds = true) : okL (cutD ds lo hi) = true := okL_iff.mpr fun d hd => okL_iff.mp h d (cut_mem hd)
theorem dpA_cut (ds : List PyData) (lo hi : Option Int) : PyData.depthAll (cutD ds lo hi) ≤ PyData.depthAll ds := dpA_le fun d hd => dpA_mem (cut_mem hd)
@[simp] theorem okL_ints {ns : List Int} : okL (ns.map .int) = ns.all (fun i => decide (Bd IB i)) := by
  induction ns with
  | nil => simp
  | cons n ns ih => simp [ih]
@[simp] theorem cnL_ints {ns : List Int} : cnL (ns.map .int) = ns.length := by
  induction ns with
  | nil => simp
  | cons n ns ih => simp [ih]; omega
@[simp] theorem dpA_ints {ns : List Int} : PyData.depthAll (ns.map .int) = 0 := dep_ints ns
/-! what is shown -/
mutual
theorem show_ok : ∀ d : PyData, okB d = true → d.showable = true ∧ d.canLay0 = true ∧ d.shown.length + 4 ≤ 1930 * cn d
  | .none, _ => by
    refine ⟨by simp [PyData.showable], by simp [PyData.canLay0], ?_⟩
    simp only [PyData.shown, cn_n]
    decide
  | .bool b, _ => by
    refine ⟨by simp [PyData.showable], by simp [PyData.canLay0], ?_⟩
    simp only [PyData.shown, cn_b]
    cases b <;> decide
  | .int i, h => by
    have hb : Bd IB i := of_decide_eq_true (by rwa [okB_i] at h)
    have hl : i.natAbs.log2 ≤ 1700 := hb.log'
    have hl2 : i.natAbs.log2 < 1920 := by omega
    have := PyProof.Rows.int_text_len_1921 hl2
    refine ⟨by simp [PyData.showable]; exact hl2, by simp [PyData.canLay0], ?_⟩
    simp only [PyData.shown, cn_i]
    omega
  | .str x, h => by
    rw [okB_s, Bool.and_eq_true] at h
    have h1 : x.length ≤ 600 := of_decide_eq_true h.1
    refine ⟨by simp [PyData.showable], by simp only [PyData.canLay0]; exact h.2, ?_⟩
    have h2 := StrLaws.reprText_len x fun c hc => by
      have := h.2
      unfold PyData.strOk at this
      have h3 := Array.all_eq_true'.mp this c (by simpa using hc)
      have h4 : c < 1114112 := by simpa using h3
      omega
    simp only [PyData.shown, cn_s]
    omega
  | .list ds, h => by
    obtain ⟨h1, h2, h3⟩ := show_okL ds (by rwa [okB_l] at h)
    refine ⟨by simpa [PyData.showable] using h1, by simpa [PyData.canLay0] using h2, ?_⟩
    simp only [PyData.shown, cn_l]
    have : (listText (PyData.shownAll ds)).length ≤ piled (PyData.shownAll ds) + 3 := by
      cases PyData.shownAll ds with
      | nil => decide
      | cons t r =>
        have h := textFrom_length_pos r 1 (("[" : Str) ++ (if (0 : Nat) > 0 then ", " else "" : String) ++ t) (Nat.succ_pos 0)
        have e : ((("[" : Str) ++ (if (0 : Nat) > 0 then ", " else "" : String) ++ t)).length = 1 + t.length := by
          rw [strLen_append, strLen_append]; rfl
        have hX : (listText (t :: r)).length = (textFrom 1 (("[" : Str) ++ (if (0 : Nat) > 0 then ", " else "" : String) ++ t) r).length + 1 := by
          show (textFrom 0 "[" (t :: r) ++ "]").length = _
          rw [strLen_append]; rfl
        rw [hX, h, e, piled_cons]
        omega
    omega
  | .tuple ds, h => by
    obtain ⟨h1, h2, h3⟩ := show_okL ds (by rwa [okB_t] at h)
    refine ⟨by simpa [PyData.showable] using h1, by simpa [PyData.canLay0] using h2, ?_⟩
    simp only [PyData.shown, cn_t]
    have : (tupleText (PyData.shownAll ds)).length ≤ piled (PyData.shownAll ds) + 3 := by
      unfold tupleText
      rw [strLen_append, strLen_append]
      have e1 : ((("(" : String) : Str)).length = 1 := rfl
      have e3 : (((if (PyData.shownAll ds).length == 1 then ",)" else ")" : String) : Str)).length ≤ 2 := by split <;> decide
      rw [e1]
      by_cases h : PyData.shownAll ds = []
      · rw [h] at e3 ⊢
        have e4 : (Str.join ", " ([] : List Str)).length = 0 := rfl
        rw [e4]
        simp only [piled_nil]
        omega
      · have := join_length_add _ h
        omega
    omega
  | .dict _, h => by simp [okB] at h
theorem show_okL : ∀ ds : List PyData, okL ds = true → PyData.showableAll ds = true ∧ PyData.canLayAll0 ds = true ∧ piled (PyData.shownAll ds) ≤ 1930 * cnL ds
  | [], _ => ⟨by simp [PyData.showableAll], by simp [PyData.canLayAll0], by simp [PyData.shownAll, piled]⟩
  | d :: ds, h => by
    rw [okL_c, Bool.and_eq_true] at h
    obtain ⟨h1, h2, h3⟩ := show_ok d h.1
    obtain ⟨g1, g2, g3⟩ := show_okL ds h.2
    refine ⟨by simp [PyData.showableAll, h1, g1], by simp [PyData.canLayAll0, h2, g2], ?_⟩
    simp only [PyData.shownAll, piled_cons, cnL_c]
    omega
end
/-- data as the laws' papers are -/
structure Gd (d : PyData) : Prop where
  ok : okB d = true
  few : cn d ≤ 500
  deep : d.depth ≤ 20
theorem Gd.shaped {d : PyData} (h : Gd d) : SeqAt.shaped d = true := by
  unfold SeqAt.shaped
  rw [Bool.and_eq_true]
  exact ⟨(show_ok d h.ok).2.1, decide_eq_true (Nat.le_trans h.deep (by decide))⟩
theorem Gd.repr {d : PyData} (h : Gd d) : reprR (.sh d) = some (.sh (.str d.shown)) := by
  have h1 := (show_ok d h.ok).2.2
  have h2 := h.few
  unfold reprR
  exact if_pos ⟨(show_ok d h.ok).1, h.shaped, by simp only [Res.dat, LIM]; omega⟩
theorem Gd.item {d : PyData} {ds : List PyData} (h : Gd (.list ds)) (hd : d ∈ ds) : Gd d := by
  obtain ⟨h1, h2, h3⟩ := h
  rw [okB_l] at h1
  rw [cn_l] at h2
  rw [dp_l] at h3
  have := cnL_mem hd
  have := dpA_mem hd
  exact ⟨okL_iff.mp h1 d hd, by omega, by omega⟩
theorem Gd.itemT {d : PyData} {ds : List PyData} (h : Gd (.tuple ds)) (hd : d ∈ ds) : Gd d := by
  obtain ⟨h1, h2, h3⟩ := h
  rw [okB_t] at h1
  rw [cn_t] at h2
  rw [dp_t] at h3
  have := cnL_mem hd
  have := dpA_mem hd
  exact ⟨okL_iff.mp h1 d hd, by omega, by omega⟩
theorem Gd.int {i : Int} (h : Gd (.int i)) : Bd IB i := of_decide_eq_true (by have := h.ok; rwa [okB_i] at this)
end F3
set_option maxRecDepth 100000
set_option maxHeartbeats 1000000
/-! turns without a negative, words of the two shears, turns that turn one into the other -/
namespace F3
namespace M
structure Nn (m : M) : Prop where
  a : 0 ≤ m.a
  b : 0 ≤ m.b
  c : 0 ≤ m.c
  d : 0 ≤ m.d
  det : m.det = 1
theorem Nn.ad {m : M} (h : Nn m) : 0 < m.a ∧ 0 < m.d := by
  obtain ⟨h1, h2, h3, h4, h5⟩ := h
  unfold M.det at h5
  have h6 := Int.mul_nonneg h2 h3
  constructor
  · by_cases h : m.a = 0
    · rw [h, Int.zero_mul] at h5
      omega
    · omega
  · by_cases h : m.d = 0
    · rw [h, Int.mul_zero] at h5
      omega
    · omega
theorem Nn.comp {m : M} (h : Nn m) (hn : ¬ (m.c ≤ m.a ∧ m.d ≤ m.b)) : m = M.one ∨ (m.a ≤ m.c ∧ m.b ≤ m.d) := by
  obtain ⟨h1, h2, h3, h4, h5⟩ := h
  unfold M.det at h5
  by_cases hq : m.a ≤ m.c ∧ m.b ≤ m.d
  · exact Or.inr hq
  · left
    by_cases g : m.a < m.c
    · have g2 : m.d < m.b := by omega
      have g3 : m.a * m.d ≤ (m.c - 1) * (m.b - 1) := Int.mul_le_mul (by omega) (by omega) h4 (by omega)
      have g4 : (m.c - 1) * (m.b - 1) = m.b * m.c - m.b - m.c + 1 := by
        simp only [Int.sub_mul, Int.mul_sub, Int.mul_comm m.c m.b]
        omega
      omega
    · have g1 : m.b < m.d := by omega
      have g2 : m.c < m.a := by omega
      have g3 : (m.c + 1) * (m.b + 1) ≤ m.a * m.d := Int.mul_le_mul (by omega) (by omega) (by omega) (by omega)
      have g4 : (m.c + 1) * (m.b + 1) = m.b * m.c + m.b + m.c + 1 := by
        simp only [Int.add_mul, Int.mul_add, Int.mul_comm m.c m.b]
        omega
      have hb : m.b = 0 := by omega
      have hc : m.c = 0 := by omega
      have hd : m.a * m.d = 1 := by rw [hb, Int.zero_mul] at h5; omega
      have k1 : m.a.natAbs * m.d.natAbs = 1 := by rw [← Int.natAbs_mul, hd]; rfl
      have k2 := Nat.eq_one_of_mul_eq_one_right k1
      have k3 := Nat.eq_one_of_mul_eq_one_left k1
      exact M.ext' (by show m.a = 1; omega) hb hc (by show m.d = 1; omega)
theorem nn_one : Nn M.one := ⟨by decide, by decide, by decide, by decide, by decide⟩
theorem Nn.mul {x y : M} (h : Nn x) (g : Nn y) : Nn (x * y) := by
  have p := fun {i j : Int} (h1 : 0 ≤ i) (h2 : 0 ≤ j) => Int.mul_nonneg h1 h2
  refine ⟨?_, ?_, ?_, ?_, by rw [M.det_mul, h.det, g.det]; rfl⟩
  · exact Int.add_nonneg (p h.a g.a) (p h.b g.c)
  · exact Int.add_nonneg (p h.a g.b) (p h.b g.d)
  · exact Int.add_nonneg (p h.c g.a) (p h.d g.c)
  · exact Int.add_nonneg (p h.c g.b) (p h.d g.d)
/-- the two shears: true the upper one -/
def lm (u : Bool) : M := if u = true then ⟨1, 1, 0, 1⟩ else ⟨1, 0, 1, 1⟩
def wm : List Bool → M
  | [] => M.one
  | u :: w => lm u * wm w
theorem wm_app : ∀ w v : List Bool, wm (w ++ v) = wm w * wm v
  | [], v => by
    show wm v = M.one * wm v
    rw [M.one_mul]
  | u :: w, v => by
    show lm u * wm (w ++ v) = lm u * wm w * wm v
    rw [wm_app w v, M.mul_assoc]
theorem nn_lm (u : Bool) : Nn (lm u) := by cases u <;> exact ⟨by decide, by decide, by decide, by decide, by decide⟩
theorem nn_wm : ∀ w : List Bool, Nn (wm w)
  | [] => nn_one
  | u :: w => (nn_lm u).mul (nn_wm w)
theorem up_eq (x : M) : lm true * x = ⟨x.a + x.c, x.b + x.d, x.c, x.d⟩ := by
  show (⟨1, 1, 0, 1⟩ : M) * x = _
  rw [M.mul_def]
  ext <;> simp
theorem lo_eq (x : M) : lm false * x = ⟨x.a, x.b, x.a + x.c, x.b + x.d⟩ := by
  show (⟨1, 0, 1, 1⟩ : M) * x = _
  rw [M.mul_def]
  ext <;> simp
theorem cancel {z x y : M} (hz : z.det = 1) (h : z * x = z * y) : x = y := by
  have := congrArg (z.inv * ·) h
  simp only [← M.mul_assoc, M.inv_mul hz, M.one_mul] at this
  exact this
theorem lm_ne {x y : M} (hx : Nn x) (hy : Nn y) : lm true * x ≠ lm false * y := fun h => by
  rw [up_eq, lo_eq] at h
  have e1 := congrArg M.a h
  have e2 := congrArg M.c h
  simp only [] at e1 e2
  have := hx.ad.1
  have := hy.c
  have := hx.c
  omega
theorem lm_one {u : Bool} {x : M} (hx : Nn x) : lm u * x ≠ M.one := fun h => by
  have h1 := hx.ad
  have h2 := hx.b
  have h3 := hx.c
  cases u
  · rw [lo_eq] at h
    have e1 := congrArg M.c h
    simp only [M.one] at e1
    omega
  · rw [up_eq] at h
    have e1 := congrArg M.b h
    simp only [M.one] at e1
    omega
theorem wm_inj : ∀ {w v : List Bool}, wm w = wm v → w = v
  | [], [], _ => rfl
  | [], u :: v, h => absurd h.symm (lm_one (nn_wm v))
  | u :: w, [], h => absurd h (lm_one (nn_wm w))
  | u :: w, t :: v, h => by
    have h : lm u * wm w = lm t * wm v := h
    have e : u = t := by
      cases u <;> cases t
      · rfl
      · exact absurd h.symm (lm_ne (nn_wm v) (nn_wm w))
      · exact absurd h (lm_ne (nn_wm w) (nn_wm v))
      · rfl
    subst e
    rw [wm_inj (cancel (nn_lm u).det h)]
theorem wm_of : ∀ (n : Nat) (m : M), Nn m → m.a + m.b + m.c + m.d ≤ n → ∃ w, m = wm w
  | 0, m, h, hn => by
    have := h.ad
    have := h.b
    have := h.c
    omega
  | n + 1, m, h, hn => by
    obtain ⟨pa, pd⟩ := h.ad
    have hb := h.b
    have hc := h.c
    have hd := h.det
    unfold M.det at hd
    by_cases h1 : m.c ≤ m.a ∧ m.d ≤ m.b
    · obtain ⟨w, hw⟩ := wm_of n ⟨m.a - m.c, m.b - m.d, m.c, m.d⟩ ⟨by show 0 ≤ m.a - m.c; omega, by show 0 ≤ m.b - m.d; omega, hc, by show 0 ≤ m.d; omega, by
        unfold M.det
        simp only [Int.sub_mul, Int.mul_comm m.d m.c]
        omega⟩ (by simp only []; omega)
      refine ⟨true :: w, ?_⟩
      show m = lm true * wm w
      rw [← hw, up_eq]
      ext <;> simp only [] <;> omega
    · rcases h.comp h1 with e | ⟨g1, g2⟩
      · exact ⟨[], e⟩
      · obtain ⟨w, hw⟩ := wm_of n ⟨m.a, m.b, m.c - m.a, m.d - m.b⟩ ⟨by show 0 ≤ m.a; omega, hb, by show 0 ≤ m.c - m.a; omega, by show 0 ≤ m.d - m.b; omega, by
          unfold M.det
          simp only [Int.mul_sub, Int.mul_comm m.b m.a]
          omega⟩ (by simp only []; omega)
        refine ⟨false :: w, ?_⟩
        show m = lm false * wm w
        rw [← hw, lo_eq]
        ext <;> simp only [] <;> omega
/-- two lists of which one is the other one turned on -/
theorem turned_lists {α : Type} : ∀ (n : Nat) (u w v : List α), u.length ≤ n → u ++ w = v ++ u → ∃ x y, w = x ++ y ∧ v = y ++ x
  | n, u, w, v, hn, h => by
    have hl : w.length = v.length := by
      have := congrArg List.length h
      rw [List.length_append, List.length_append] at this
      omega
    rcases List.append_eq_append_iff.mp h with ⟨z, h1, h2⟩ | ⟨z, h1, h2⟩
    · exact ⟨z, u, h2, h1⟩
    · cases v with
      | nil =>
        have : w = [] := List.eq_nil_of_length_eq_zero hl
        subst this
        exact ⟨[], [], rfl, rfl⟩
      | cons s v =>
        match n, hn with
        | 0, hn =>
          have := congrArg List.length h1
          simp at this
          omega
        | n + 1, hn =>
          exact turned_lists n z w (s :: v) (by have := congrArg List.length h1; simp at this; omega) (by rw [← h2, ← h1])
/-! ### columns -/
/-- all numbers above 0 -/
structure Ps (m : M) : Prop where
  a : 1 ≤ m.a
  b : 1 ≤ m.b
  c : 1 ≤ m.c
  d : 1 ≤ m.d
  det : m.det = 1
def mv (m : M) (v : Int × Int) : Int × Int := (m.a * v.1 + m.b * v.2, m.c * v.1 + m.d * v.2)
def Up (v : Int × Int) : Prop := 0 ≤ v.1 ∧ 0 ≤ v.2
def Dn (v : Int × Int) : Prop := v.1 ≤ 0 ∧ v.2 ≤ 0
theorem mv_up {m : M} (h : Ps m) {v : Int × Int} (hv : Up v) : Up (mv m v) := by
  have p := fun {i j : Int} (h1 : 1 ≤ i) (h2 : 0 ≤ j) => Int.mul_nonneg (show 0 ≤ i by omega) h2
  exact ⟨Int.add_nonneg (p h.a hv.1) (p h.b hv.2), Int.add_nonneg (p h.c hv.1) (p h.d hv.2)⟩
theorem mv_dn {m : M} (h : Ps m) {v : Int × Int} (hv : Dn v) : Dn (mv m v) := by
  have p := fun {i j : Int} (h1 : 1 ≤ i) (h2 : j ≤ 0) => Int.mul_nonneg (show 0 ≤ i by omega) (show 0 ≤ -j by omega)
  have p1 := p h.a hv.1
  have p2 := p h.b hv.2
  have p3 := p h.c hv.1
  have p4 := p h.d hv.2
  simp only [Int.mul_neg] at p1 p2 p3 p4
  exact ⟨by show m.a * v.1 + m.b * v.2 ≤ 0; omega, by show m.c * v.1 + m.d * v.2 ≤ 0; omega⟩
def it (m : M) : Nat → (Int × Int) → (Int × Int)
  | 0, v => v
  | k + 1, v => it m k (mv m v)
theorem it_up {m : M} (h : Ps m) : ∀ (k : Nat) {v : Int × Int}, Up v → Up (it m k v)
  | 0, _, hv => hv
  | k + 1, _, hv => it_up h k (mv_up h hv)
theorem it_dn {m : M} (h : Ps m) : ∀ (k : Nat) {v : Int × Int}, Dn v → Dn (it m k v)
  | 0, _, hv => hv
  | k + 1, _, hv => it_dn h k (mv_dn h hv)
/-- a vector of unlike signs gets shorter -/
theorem mv_less {m : M} (h : Ps m) {v : Int × Int} (h1 : ¬ Up (mv m v)) (h2 : ¬ Dn (mv m v)) : (mv m v).1.natAbs + (mv m v).2.natAbs < v.1.natAbs + v.2.natAbs := by
  have hd := h.det
  unfold M.det at hd
  obtain ⟨x, y⟩ := v
  obtain ⟨p, hp⟩ : ∃ p, p = m.a * x + m.b * y := ⟨_, rfl⟩
  obtain ⟨q, hq⟩ : ∃ q, q = m.c * x + m.d * y := ⟨_, rfl⟩
  have e1 : x = m.d * p - m.b * q := by
    rw [hp, hq]
    simp only [Int.mul_add]
    have c1 : m.d * (m.a * x) = m.a * m.d * x := by ac_rfl
    have c2 : m.d * (m.b * y) = m.b * (m.d * y) := by ac_rfl
    have c3 : m.b * (m.c * x) = m.b * m.c * x := by ac_rfl
    have c4 : m.a * m.d * x - m.b * m.c * x = x := by rw [← Int.sub_mul, hd, Int.one_mul]
    omega
  have e2 : y = m.a * q - m.c * p := by
    rw [hp, hq]
    simp only [Int.mul_add]
    have c1 : m.a * (m.d * y) = m.a * m.d * y := by ac_rfl
    have c2 : m.a * (m.c * x) = m.c * (m.a * x) := by ac_rfl
    have c3 : m.c * (m.b * y) = m.b * m.c * y := by ac_rfl
    have c4 : m.a * m.d * y - m.b * m.c * y = y := by rw [← Int.sub_mul, hd, Int.one_mul]
    omega
  change ¬ (0 ≤ m.a * x + m.b * y ∧ 0 ≤ m.c * x + m.d * y) at h1
  change ¬ (m.a * x + m.b * y ≤ 0 ∧ m.c * x + m.d * y ≤ 0) at h2
  show (m.a * x + m.b * y).natAbs + (m.c * x + m.d * y).natAbs < x.natAbs + y.natAbs
  rw [← hp, ← hq] at h1 h2 ⊢
  have ge : ∀ {i j : Int}, 1 ≤ i → 0 ≤ j → j ≤ i * j := fun {i j} hi hj => by
    have := Int.mul_le_mul_of_nonneg_right hi hj
    omega
  by_cases hp0 : 0 < p
  · have hq0 : q < 0 := by omega
    have g1 := ge h.d (show 0 ≤ p by omega)
    have g2 := ge h.b (show 0 ≤ -q by omega)
    have g3 := ge h.a (show 0 ≤ -q by omega)
    have g4 := ge h.c (show 0 ≤ p by omega)
    rw [Int.mul_neg] at g2 g3
    omega
  · have hq0 : 0 < q := by omega
    have g1 := ge h.d (show 0 ≤ -p by omega)
    have g2 := ge h.b (show 0 ≤ q by omega)
    have g3 := ge h.a (show 0 ≤ q by omega)
    have g4 := ge h.c (show 0 ≤ -p by omega)
    rw [Int.mul_neg] at g1 g4
    omega
theorem it_quad {m : M} (h : Ps m) : ∀ (n : Nat) (v : Int × Int), v.1.natAbs + v.2.natAbs ≤ n → ∃ k0, ∀ k, k0 ≤ k → Up (it m k v) ∨ Dn (it m k v)
  | n, v, hn => by
    by_cases hu : Up (mv m v)
    · exact ⟨1, fun k hk => by
        obtain ⟨j, rfl⟩ : ∃ j, k = j + 1 := ⟨k - 1, by omega⟩
        exact Or.inl (it_up h j hu)⟩
    · by_cases hd : Dn (mv m v)
      · exact ⟨1, fun k hk => by
          obtain ⟨j, rfl⟩ : ∃ j, k = j + 1 := ⟨k - 1, by omega⟩
          exact Or.inr (it_dn h j hd)⟩
      · have hl := mv_less h hu hd
        match n, hn with
        | 0, hn => omega
        | n + 1, hn =>
          obtain ⟨k0, hk0⟩ := it_quad h n (mv m v) (by omega)
          exact ⟨k0 + 1, fun k hk => by
            obtain ⟨j, rfl⟩ : ∃ j, k = j + 1 := ⟨k - 1, by omega⟩
            exact hk0 j (by omega)⟩
end M
end F3
set_option maxRecDepth 100000
set_option maxHeartbeats 1000000
namespace F3
namespace M
def pw (m g : M) : Nat → M
  | 0 => g
  | k + 1 => pw m (m * g) k
theorem pw_col1 (m : M) : ∀ (k : Nat) (g : M), ((pw m g k).a, (pw m g k).c) = it m k (g.a, g.c)
  | 0, g => rfl
  | k + 1, g => by
    show ((pw m (m * g) k).a, (pw m (m * g) k).c) = it m k (mv m (g.a, g.c))
    rw [pw_col1 m k (m * g)]
    rfl
theorem pw_col2 (m : M) : ∀ (k : Nat) (g : M), ((pw m g k).b, (pw m g k).d) = it m k (g.b, g.d)
  | 0, g => rfl
  | k + 1, g => by
    show ((pw m (m * g) k).b, (pw m (m * g) k).d) = it m k (mv m (g.b, g.d))
    rw [pw_col2 m k (m * g)]
    rfl
theorem pw_lead {m m' : M} : ∀ (k : Nat) {g : M}, g * m = m' * g → pw m' g k * m = m' * pw m' g k
  | 0, _, h => h
  | k + 1, g, h => pw_lead k (g := m' * g) (by rw [mul_assoc, h])
theorem pw_det {m : M} (hm : m.det = 1) : ∀ (k : Nat) {g : M}, g.det = 1 → (pw m g k).det = 1
  | 0, _, h => h
  | k + 1, g, h => pw_det hm k (g := m * g) (by rw [det_mul, hm, h]; rfl)
/-- columns of unlike signs can't be -/
theorem no_unlike {m m' : M} (hm : Ps m) (hm' : Ps m') : ∀ (n : Nat) (y : M), y.a ≤ n → Up (y.a, y.c) → Dn (y.b, y.d) → y.det = 1 → y * m = m' * y → False
  | n, y, hn, hu, hd, h1, h2 => by
    have hu1 : 0 ≤ y.a := hu.1
    have hu2 : 0 ≤ y.c := hu.2
    have hd1 : y.b ≤ 0 := hd.1
    have hd2 : y.d ≤ 0 := hd.2
    have u' : Up ((m' * y).a, (m' * y).c) := mv_up hm' hu
    have d' : Dn ((m' * y).b, (m' * y).d) := mv_dn hm' hd
    have det' : (m' * y).det = 1 := by rw [det_mul, hm'.det, h1]; rfl
    -- the second column is not 0
    have hne : ¬ (y.b = 0 ∧ y.d = 0) := fun ⟨e1, e2⟩ => by
      unfold det at h1
      rw [e1, e2, Int.mul_zero, Int.zero_mul] at h1
      omega
    have eb : (m' * y).b = m'.a * y.b + m'.b * y.d := rfl
    have hb1 : (m' * y).b ≤ -1 := by
      have g1 := Int.mul_le_mul_of_nonneg_right hm'.a (show 0 ≤ -y.b by omega)
      have g2 := Int.mul_le_mul_of_nonneg_right hm'.b (show 0 ≤ -y.d by omega)
      simp only [Int.mul_neg, Int.one_mul] at g1 g2
      omega
    -- the number at the left above gets less
    have e1 : (m' * y).a = y.a * m.a + y.b * m.c := by rw [← h2]; rfl
    have e2 : (m' * y).b = y.a * m.b + y.b * m.d := by rw [← h2]; rfl
    have key : y.a = (m' * y).a * m.d - (m' * y).b * m.c := by
      rw [e1, e2]
      have hmd := hm.det
      unfold det at hmd
      simp only [Int.add_mul]
      have c1 : y.a * m.a * m.d = y.a * (m.a * m.d) := by ac_rfl
      have c2 : y.b * m.c * m.d = y.b * m.d * m.c := by ac_rfl
      have c3 : y.a * m.b * m.c = y.a * (m.b * m.c) := by ac_rfl
      have c4 : y.a * (m.a * m.d) - y.a * (m.b * m.c) = y.a := by rw [← Int.mul_sub, hmd, Int.mul_one]
      omega
    have ua : 0 ≤ (m' * y).a := u'.1
    have k1 := Int.mul_le_mul_of_nonneg_left hm.d ua
    have k2 := Int.mul_le_mul_of_nonneg_left hm.c (show 0 ≤ -(m' * y).b by omega)
    simp only [Int.neg_mul, Int.mul_one] at k1 k2
    match n, hn with
    | 0, hn => omega
    | n + 1, hn => exact no_unlike hm hm' n (m' * y) (by omega) u' d' det' (by rw [mul_assoc, h2])
def neg (m : M) : M := ⟨-m.a, -m.b, -m.c, -m.d⟩
theorem neg_mul (x y : M) : neg x * y = neg (x * y) := by
  simp only [neg, mul_def]
  ext <;> simp only [Int.neg_mul] <;> omega
theorem mul_neg (x y : M) : x * neg y = neg (x * y) := by
  simp only [neg, mul_def]
  ext <;> simp only [Int.mul_neg] <;> omega
theorem neg_det (x : M) : (neg x).det = x.det := by
  simp only [neg, det, Int.neg_mul, Int.mul_neg, Int.neg_neg]
/-- where one turn leads to another one, a turn without a negative does -/
theorem conj_nn {m m' g : M} (hm : Ps m) (hm' : Ps m') (hg : g.det = 1) (h : g * m = m' * g) : ∃ y, Nn y ∧ y * m = m' * y := by
  obtain ⟨k1, h1⟩ := it_quad hm' _ (g.a, g.c) (Nat.le_refl _)
  obtain ⟨k2, h2⟩ := it_quad hm' _ (g.b, g.d) (Nat.le_refl _)
  have q1 := h1 (max k1 k2) (by omega)
  have q2 := h2 (max k1 k2) (by omega)
  rw [← pw_col1] at q1
  rw [← pw_col2] at q2
  have hl := pw_lead (max k1 k2) h
  have hd := pw_det hm'.det (max k1 k2) hg
  generalize pw m' g (max k1 k2) = y at *
  have hln : neg y * m = m' * neg y := by rw [neg_mul, mul_neg, hl]
  have hdn : (neg y).det = 1 := by rw [neg_det, hd]
  rcases q1 with q1 | q1 <;> rcases q2 with q2 | q2
  · exact ⟨y, ⟨q1.1, q2.1, q1.2, q2.2, hd⟩, hl⟩
  · exact absurd (no_unlike hm hm' y.a.toNat y (by have : 0 ≤ y.a := q1.1; omega) q1 q2 hd hl) not_false
  · have u : Up ((neg y).a, (neg y).c) := ⟨by have : y.a ≤ 0 := q1.1; show 0 ≤ -y.a; omega, by have : y.c ≤ 0 := q1.2; show 0 ≤ -y.c; omega⟩
    have d : Dn ((neg y).b, (neg y).d) := ⟨by have : 0 ≤ y.b := q2.1; show -y.b ≤ 0; omega, by have : 0 ≤ y.d := q2.2; show -y.d ≤ 0; omega⟩
    exact absurd (no_unlike hm hm' (neg y).a.toNat (neg y) (by have : 0 ≤ (neg y).a := u.1; omega) u d hdn hln) not_false
  · refine ⟨neg y, ⟨?_, ?_, ?_, ?_, hdn⟩, hln⟩
    · have : y.a ≤ 0 := q1.1
      show 0 ≤ -y.a
      omega
    · have : y.b ≤ 0 := q2.1
      show 0 ≤ -y.b
      omega
    · have : y.c ≤ 0 := q1.2
      show 0 ≤ -y.c
      omega
    · have : y.d ≤ 0 := q2.2
      show 0 ≤ -y.d
      omega
theorem words_turn {w v : List Bool} {g : M} (hw : Ps (wm w)) (hv : Ps (wm v)) (hg : g.det = 1) (h : g * wm w = wm v * g) : ∃ x y, w = x ++ y ∧ v = y ++ x := by
  obtain ⟨n, hn, e⟩ := conj_nn hw hv hg h
  obtain ⟨u, hu⟩ := wm_of (n.a + n.b + n.c + n.d).toNat n hn (by have := hn.a; have := hn.b; have := hn.c; have := hn.d; omega)
  rw [hu, ← wm_app, ← wm_app] at e
  exact turned_lists u.length u w v (Nat.le_refl _) (wm_inj e)
end M
end F3
set_option maxRecDepth 100000
set_option maxHeartbeats 4000000
namespace Lk75
open PySem L2 F3
/-! the data-level reading of each def -/
def c_STILL : PyData := (PyData.tuple [(PyData.int 1), (PyData.int 0), (PyData.int 0), (PyData.int 1)])
def c_QUARTER : PyData := (PyData.tuple [(PyData.int 0), (PyData.int (-1)), (PyData.int 1), (PyData.int 0)])
noncomputable def b_nearest : Rh → Option Out := (sSeq (sIf (tOf (eBin ltR (eVar 1) (eC (.int 0))))
  (sSeq (sSet 0 (eUn negR (eVar 0)))
 (sSet 1 (eUn negR (eVar 1))))
  sPass)
 (sRet (eBin fdivR (eBin addR (eBin mulI (eC (.int 2)) (eVar 0)) (eVar 1)) (eBin mulI (eC (.int 2)) (eVar 1)))))
noncomputable def f_nearest : List PyData → Option Res := fnD 2 2 b_nearest
noncomputable def b_is_number : Rh → Option Out := (sRet (eAndD (eIsi .int (eVar 0)) (eNotD (eIsi .bool (eVar 0)))))
noncomputable def f_is_number : List PyData → Option Res := fnD 1 1 b_is_number
noncomputable def b_is_number_tuple : Rh → Option Out := (sSeq (sIf (tOrD (tNotD (tOf (eIsi .tuple (eVar 0)))) (tOf (eBin neR (eCall (on1 lenR) (aCons (eVar 0) aNil)) (eVar 1))))
  (sRet (eC (.bool false)))
  sPass)
 (sSeq (sFo [2] (sPre [2] (sFor (itSeq (eVar 0)) (gNm 2)
  (sFo [2] (sIf (tNotD (tOf (eFn f_is_number (aCons (eVar 2) aNil))))
  (sRet (eC (.bool false)))
  sPass)))))
 (sRet (eC (.bool true)))))
noncomputable def f_is_number_tuple : List PyData → Option Res := fnD 2 3 b_is_number_tuple
noncomputable def b_is_tagged : Rh → Option Out := (sSeq (sIf (tOrD (tNotD (tOf (eIsi .tuple (eVar 0)))) (tOf (eBin neR (eCall (on1 lenR) (aCons (eVar 0) aNil)) (eVar 2))))
  (sRet (eC (.bool false)))
  sPass)
 (sRet (eAndD (eIsi .str (eBin ixR (eVar 0) (eC (.int 0)))) (eBin eqR (eBin ixR (eVar 0) (eC (.int 0))) (eVar 1)))))
noncomputable def f_is_tagged : List PyData → Option Res := fnD 3 3 b_is_tagged
noncomputable def b_is_turn : Rh → Option Out := (sRet (eAndD (eFn f_is_number_tuple (aCons (eVar 0) (aCons (eC (.int 4)) aNil))) (eBin eqR (eBin subR (eBin mulI (eBin ixR (eVar 0) (eC (.int 0))) (eBin ixR (eVar 0) (eC (.int 3)))) (eBin mulI (eBin ixR (eVar 0) (eC (.int 1))) (eBin ixR (eVar 0) (eC (.int 2))))) (eC (.int 1)))))
noncomputable def f_is_turn : List PyData → Option Res := fnD 1 1 b_is_turn
noncomputable def b_turn_product : Rh → Option Out := (sSeq (sUnp (gTp (gsC (gNm 2) (gsC (gNm 3) (gsC (gNm 4) (gsC (gNm 5) gsN))))) (eVar 0))
 (sSeq (sUnp (gTp (gsC (gNm 6) (gsC (gNm 7) (gsC (gNm 8) (gsC (gNm 9) gsN))))) (eVar 1))
 (sRet (eTup (aCons (eBin addR (eBin mulI (eVar 2) (eVar 6)) (eBin mulI (eVar 3) (eVar 8))) (aCons (eBin addR (eBin mulI (eVar 2) (eVar 7)) (eBin mulI (eVar 3) (eVar 9))) (aCons (eBin addR (eBin mulI (eVar 4) (eVar 6)) (eBin mulI (eVar 5) (eVar 8))) (aCons (eBin addR (eBin mulI (eVar 4) (eVar 7)) (eBin mulI (eVar 5) (eVar 9))) aNil))))))))
noncomputable def f_turn_product : List PyData → Option Res := fnD 2 10 b_turn_product
noncomputable def b_turn_back : Rh → Option Out := (sSeq (sUnp (gTp (gsC (gNm 1) (gsC (gNm 2) (gsC (gNm 3) (gsC (gNm 4) gsN))))) (eVar 0))
 (sRet (eTup (aCons (eVar 4) (aCons (eUn negR (eVar 2)) (aCons (eUn negR (eVar 3)) (aCons (eVar 1) aNil)))))))
noncomputable def f_turn_back : List PyData → Option Res := fnD 1 5 b_turn_back
noncomputable def b_turned_by : Rh → Option Out := (sRet (eFn f_turn_product (aCons (eFn f_turn_product (aCons (eVar 1) (aCons (eVar 0) aNil))) (aCons (eFn f_turn_back (aCons (eVar 1) aNil)) aNil))))
noncomputable def f_turned_by : List PyData → Option Res := fnD 2 2 b_turned_by
noncomputable def b_centring : Rh → Option Out := (sRet (eTup (aCons (eC (.int 1)) (aCons (eUn negR (eFn f_nearest (aCons (eBin subR (eBin ixR (eVar 0) (eC (.int 0))) (eBin ixR (eVar 0) (eC (.int 3)))) (aCons (eBin mulI (eC (.int 2)) (eBin ixR (eVar 0) (eC (.int 2)))) aNil)))) (aCons (eC (.int 0)) (aCons (eC (.int 1)) aNil))))))
noncomputable def f_centring : List PyData → Option Res := fnD 1 1 b_centring
noncomputable def b_positive_form : Rh → Option Out := (sSeq (sSet 1 (eVar 0))
 (sSeq (sSet 2 (eC c_STILL))
 (sSeq (sFo [3] (sPre [3] (sWhile (tOrD (tOf (eBin ltR (eBin ixR (eVar 1) (eC (.int 1))) (eC (.int 0)))) (tOf (eBin ltR (eBin ixR (eVar 1) (eC (.int 2))) (eC (.int 0)))))
  (sFo [3] (sSeq (sSet 3 (eFn f_centring (aCons (eVar 1) aNil)))
 (sSeq (sIf (tOrD (tOf (eBin ltR (eBin ixR (eFn f_turned_by (aCons (eVar 1) (aCons (eVar 3) aNil))) (eC (.int 1))) (eC (.int 0)))) (tOf (eBin ltR (eBin ixR (eVar 1) (eC (.int 2))) (eC (.int 0)))))
  (sSet 3 (eFn f_turn_product (aCons (eC c_QUARTER) (aCons (eVar 3) aNil))))
  sPass)
 (sSeq (sSet 1 (eFn f_turned_by (aCons (eVar 1) (aCons (eVar 3) aNil))))
 (sSet 2 (eFn f_turn_product (aCons (eVar 3) (aCons (eVar 2) aNil)))))))))))
 (sRet (eTup (aCons (eVar 1) (aCons (eVar 2) aNil)))))))
noncomputable def f_positive_form : List PyData → Option Res := fnD 1 4 b_positive_form
noncomputable def b_fitting : Rh → Option Out := (sSeq (sIf (tOf (eBin eqR (eVar 1) (eC (.int 0))))
  (sRet (eBin fdivR (eVar 2) (eVar 3)))
  sPass)
 (sSeq (sIf (tOf (eBin eqR (eVar 3) (eC (.int 0))))
  (sRet (eBin fdivR (eVar 0) (eVar 1)))
  sPass)
 (sRet (eCall (mmR minL) (aCons (eBin fdivR (eVar 0) (eVar 1)) (aCons (eBin fdivR (eVar 2) (eVar 3)) aNil))))))
noncomputable def f_fitting : List PyData → Option Res := fnD 4 4 b_fitting
noncomputable def b_runs_of : Rh → Option Out := (sSeq (sUnp (gTp (gsC (gNm 1) (gsC (gNm 2) (gsC (gNm 3) (gsC (gNm 4) gsN))))) (eVar 0))
 (sSeq (sSet 5 (eLst aNil))
 (sSeq (sFo [1, 2, 3, 4, 6] (sPre [6] (sWhile (tOf (eBin neR (eTup (aCons (eVar 1) (aCons (eVar 2) (aCons (eVar 3) (aCons (eVar 4) aNil))))) (eC c_STILL)))
  (sFo [6] (sFo [6] (sIf (tAndD (tOf (eBin geR (eVar 1) (eVar 3))) (tOf (eBin geR (eVar 2) (eVar 4))))
  (sSeq (sSet 6 (eFn f_fitting (aCons (eVar 1) (aCons (eVar 3) (aCons (eVar 2) (aCons (eVar 4) aNil))))))
 (sSeq (sSet 1 (eBin subR (eVar 1) (eBin mulI (eVar 6) (eVar 3))))
 (sSeq (sSet 2 (eBin subR (eVar 2) (eBin mulI (eVar 6) (eVar 4))))
 (sApp 5 (eTup (aCons (eC (.int 0)) (aCons (eVar 6) aNil)))))))
  (sSeq (sSet 6 (eFn f_fitting (aCons (eVar 3) (aCons (eVar 1) (aCons (eVar 4) (aCons (eVar 2) aNil))))))
 (sSeq (sSet 3 (eBin subR (eVar 3) (eBin mulI (eVar 6) (eVar 1))))
 (sSeq (sSet 4 (eBin subR (eVar 4) (eBin mulI (eVar 6) (eVar 2))))
 (sApp 5 (eTup (aCons (eC (.int 1)) (aCons (eVar 6) aNil)))))))))))))
 (sRet (eVar 5)))))
noncomputable def f_runs_of : List PyData → Option Res := fnD 1 7 b_runs_of
noncomputable def b_joined : Rh → Option Out := (sSeq (sSet 1 (eLst aNil))
 (sSeq (sFo [2, 3] (sPre [2, 3] (sFor (itSeq (eVar 0)) (gTp (gsC (gNm 2) (gsC (gNm 3) gsN)))
  (sFo [2, 3] (sIf (tAndD (tOf (eBin gtR (eCall (on1 lenR) (aCons (eVar 1) aNil)) (eC (.int 0)))) (tOf (eBin eqR (eBin ixR (eBin ixR (eVar 1) (eUn negR (eC (.int 1)))) (eC (.int 0))) (eVar 2))))
  (sPut 1 (eUn negR (eC (.int 1))) (eTup (aCons (eVar 2) (aCons (eBin addR (eBin ixR (eBin ixR (eVar 1) (eUn negR (eC (.int 1)))) (eC (.int 1))) (eVar 3)) aNil))))
  (sApp 1 (eTup (aCons (eVar 2) (aCons (eVar 3) aNil)))))))))
 (sRet (eVar 1))))
noncomputable def f_joined : List PyData → Option Res := fnD 1 4 b_joined
noncomputable def b_cycle_of : Rh → Option Out := (sSeq (sUnp (gTp (gsC (gNm 1) (gsC (gNm 2) gsN))) (eFn f_positive_form (aCons (eVar 0) aNil)))
 (sSeq (sSet 3 (eFn f_runs_of (aCons (eVar 1) aNil)))
 (sSeq (sIf (tOf (eBin eqR (eBin ixR (eBin ixR (eVar 3) (eC (.int 0))) (eC (.int 0))) (eC (.int 1))))
  (sSeq (sSet 2 (eFn f_turn_product (aCons (eTup (aCons (eC (.int 1)) (aCons (eC (.int 0)) (aCons (eUn negR (eBin ixR (eBin ixR (eVar 3) (eC (.int 0))) (eC (.int 1)))) (aCons (eC (.int 1)) aNil))))) (aCons (eVar 2) aNil))))
 (sSet 3 (eFn f_joined (aCons (eBin addR (eSl (eVar 3) (oIs (eC (.int 1))) oNo) (eSl (eVar 3) oNo (oIs (eC (.int 1))))) aNil))))
  (sIf (tOf (eBin eqR (eBin ixR (eBin ixR (eVar 3) (eUn negR (eC (.int 1)))) (eC (.int 0))) (eC (.int 0))))
  (sSeq (sSet 2 (eFn f_turn_product (aCons (eTup (aCons (eC (.int 1)) (aCons (eBin ixR (eBin ixR (eVar 3) (eUn negR (eC (.int 1)))) (eC (.int 1))) (aCons (eC (.int 0)) (aCons (eC (.int 1)) aNil))))) (aCons (eVar 2) aNil))))
 (sSet 3 (eFn f_joined (aCons (eBin addR (eSl (eVar 3) (oIs (eUn negR (eC (.int 1)))) oNo) (eSl (eVar 3) oNo (oIs (eUn negR (eC (.int 1)))))) aNil))))
  sPass))
 (sFrz [3] (sRet (eTup (aCons (eLc (itSeq (eVar 3)) (gTp (gsC (gNm 4) (gsC (gNm 5) gsN))) tYesD (eVar 5) [4, 5]) (aCons (eVar 2) aNil))))))))
noncomputable def f_cycle_of : List PyData → Option Res := fnD 1 6 b_cycle_of
noncomputable def b_cycle_turn : Rh → Option Out := (sSeq (sSet 1 (eC c_STILL))
 (sSeq (sFo [2] (sPre [2] (sFor (itRng (aCons (eCall (on1 lenR) (aCons (eVar 0) aNil)) aNil)) (gNm 2)
  (sFo [2] (sIf (tOf (eBin eqR (eBin modR (eVar 2) (eC (.int 2))) (eC (.int 0))))
  (sSet 1 (eFn f_turn_product (aCons (eVar 1) (aCons (eTup (aCons (eC (.int 1)) (aCons (eBin ixR (eVar 0) (eVar 2)) (aCons (eC (.int 0)) (aCons (eC (.int 1)) aNil))))) aNil))))
  (sSet 1 (eFn f_turn_product (aCons (eVar 1) (aCons (eTup (aCons (eC (.int 1)) (aCons (eC (.int 0)) (aCons (eBin ixR (eVar 0) (eVar 2)) (aCons (eC (.int 1)) aNil))))) aNil)))))))))
 (sRet (eVar 1))))
noncomputable def f_cycle_turn : List PyData → Option Res := fnD 1 3 b_cycle_turn
noncomputable def b_turned_on : Rh → Option Out := (sRet (eBin addR (eSl (eVar 0) (oIs (eVar 1)) oNo) (eSl (eVar 0) oNo (oIs (eVar 1)))))
noncomputable def f_turned_on : List PyData → Option Res := fnD 2 2 b_turned_on
noncomputable def b_meeting : Rh → Option Out := (sSeq (sFo [2] (sPre [2] (sFor (itRng (aCons (eC (.int 0)) (aCons (eCall (on1 lenR) (aCons (eVar 0) aNil)) (aCons (eC (.int 2)) aNil)))) (gNm 2)
  (sFo [2] (sIf (tOf (eBin eqR (eFn f_turned_on (aCons (eVar 0) (aCons (eVar 2) aNil))) (eVar 1)))
  (sRet (eVar 2))
  sPass)))))
 (sRet (eC .none)))
noncomputable def f_meeting : List PyData → Option Res := fnD 2 3 b_meeting
noncomputable def b_way_between : Rh → Option Out := (sSeq (sSet 3 (eFn f_turn_back (aCons (eFn f_cycle_turn (aCons (eSl (eBin ixR (eVar 0) (eC (.int 0))) oNo (oIs (eVar 2))) aNil)) aNil)))
 (sRet (eFn f_turn_product (aCons (eFn f_turn_back (aCons (eBin ixR (eVar 1) (eC (.int 1))) aNil)) (aCons (eFn f_turn_product (aCons (eVar 3) (aCons (eBin ixR (eVar 0) (eC (.int 1))) aNil))) aNil)))))
noncomputable def f_way_between : List PyData → Option Res := fnD 3 4 b_way_between
noncomputable def b_leads : Rh → Option Out := (sRet (eBin eqR (eFn f_turn_product (aCons (eVar 2) (aCons (eVar 0) aNil))) (eFn f_turn_product (aCons (eVar 1) (aCons (eVar 2) aNil)))))
noncomputable def f_leads : List PyData → Option Res := fnD 3 3 b_leads
noncomputable def b_kind_paper : Rh → Option Out := (sSeq (sSet 2 (eFn f_cycle_of (aCons (eVar 0) aNil)))
 (sSeq (sSet 3 (eFn f_cycle_of (aCons (eVar 1) aNil)))
 (sSeq (sSet 4 (eFn f_meeting (aCons (eBin ixR (eVar 2) (eC (.int 0))) (aCons (eBin ixR (eVar 3) (eC (.int 0))) aNil))))
 (sSeq (sIf (tOf (eBin (isR false) (eVar 4) (eC .none)))
  (sRet (eTup (aCons (eC (.str "two")) (aCons (eVar 2) (aCons (eVar 3) aNil)))))
  sPass)
 (sRet (eTup (aCons (eC (.str "one")) (aCons (eFn f_way_between (aCons (eVar 2) (aCons (eVar 3) (aCons (eVar 4) aNil)))) aNil))))))))
noncomputable def f_kind_paper : List PyData → Option Res := fnD 2 5 b_kind_paper
noncomputable def b_shows_one : Rh → Option Out := (sSeq (sIf (tOrD (tNotD (tOf (eFn f_is_tagged (aCons (eVar 2) (aCons (eC (.str "one")) (aCons (eC (.int 2)) aNil)))))) (tNotD (tOf (eFn f_is_turn (aCons (eBin ixR (eVar 2) (eC (.int 1))) aNil)))))
  (sRet (eC (.bool false)))
  sPass)
 (sRet (eFn f_leads (aCons (eVar 0) (aCons (eVar 1) (aCons (eBin ixR (eVar 2) (eC (.int 1))) aNil))))))
noncomputable def f_shows_one : List PyData → Option Res := fnD 3 3 b_shows_one
noncomputable def b__law_draws : Rh → Option Out := (sSeq (sSet 2 (eLst aNil))
 (sSeq (sFo [3, 4, 5, 6] (sPre [3, 4, 5, 6] (sFor (itSeq (eSl (eVar 0) oNo (oIs (eC (.int 63))))) (gNm 3)
  (sFo [3, 4, 5, 6] (sSeq (sSet 4 (eCall (on1 absR) (aCons (eCall (on1 intR) (aCons (eVar 3) aNil)) aNil)))
 (sFo [4, 5, 6] (sIf (tOf (eBin geR (eVar 4) (eBin powR (eC (.int 10)) (eC (.int 18)))))
  (sFo [4, 5] (sPre [5] (sFor (itRng (aCons (eC (.int 60)) aNil)) (gNm 5)
  (sFo [5] (sIf (tOf (eBin gtR (eVar 4) (eC (.int 0))))
  (sSeq (sApp 2 (eBin modR (eVar 4) (eC (.int 1000003))))
 (sSet 4 (eBin fdivR (eVar 4) (eC (.int 1000003)))))
  sPass)))))
  (sSeq (sSet 6 (eBin modR (eBin addR (eBin addR (eBin mulI (eVar 4) (eC (.int 48271))) (eBin mulI (eC (.int 7)) (eCall (on1 lenR) (aCons (eVar 2) aNil)))) (eC (.int 11))) (eC (.int 2147483647))))
 (sFo [5, 6] (sPre [5] (sFor (itRng (aCons (eC (.int 4)) aNil)) (gNm 5)
  (sFo [5] (sSeq (sSet 6 (eBin modR (eBin addR (eBin addR (eBin addR (eBin mulI (eVar 6) (eC (.int 69621))) (eBin fdivR (eVar 6) (eC (.int 65536)))) (eBin mulI (eC (.int 13)) (eVar 5))) (eC (.int 5))) (eC (.int 2147483629))))
 (sApp 2 (eBin modR (eBin fdivR (eVar 6) (eC (.int 8))) (eC (.int 1000003)))))))))))))))))
 (sSeq (sFo [5, 7] (sPre [5, 7] (sFor (itRng (aCons (eVar 1) aNil)) (gNm 5)
  (sFo [5, 7] (sFo [7] (sIf (tOf (eBin ltR (eCall (on1 lenR) (aCons (eVar 2) aNil)) (eVar 1)))
  (sSeq (sSet 7 (eC (.int 0)))
 (sSeq (sIf (tOf (eBin gtR (eCall (on1 lenR) (aCons (eVar 2) aNil)) (eC (.int 0))))
  (sSet 7 (eBin ixR (eVar 2) (eBin modR (eVar 5) (eCall (on1 lenR) (aCons (eVar 2) aNil)))))
  sPass)
 (sApp 2 (eBin modR (eBin addR (eBin addR (eBin mulI (eVar 7) (eC (.int 16807))) (eBin mulI (eC (.int 31)) (eCall (on1 lenR) (aCons (eVar 2) aNil)))) (eC (.int 17))) (eC (.int 1000003))))))
  sPass))))))
 (sRet (eSl (eVar 2) oNo (oIs (eVar 1)))))))
noncomputable def f__law_draws : List PyData → Option Res := fnD 2 8 b__law_draws
noncomputable def b__law_is_number : Rh → Option Out := (sRet (eAndD (eIsi .int (eVar 0)) (eNotD (eIsi .bool (eVar 0)))))
noncomputable def f__law_is_number : List PyData → Option Res := fnD 1 1 b__law_is_number
noncomputable def b__law_is_tuple : Rh → Option Out := (sSeq (sIf (tOrD (tNotD (tOf (eIsi .tuple (eVar 0)))) (tOf (eBin neR (eCall (on1 lenR) (aCons (eVar 0) aNil)) (eVar 1))))
  (sRet (eC (.bool false)))
  sPass)
 (sSeq (sFo [2] (sPre [2] (sFor (itSeq (eVar 0)) (gNm 2)
  (sFo [2] (sIf (tNotD (tOf (eFn f__law_is_number (aCons (eVar 2) aNil))))
  (sRet (eC (.bool false)))
  sPass)))))
 (sRet (eC (.bool true)))))
noncomputable def f__law_is_tuple : List PyData → Option Res := fnD 2 3 b__law_is_tuple
noncomputable def b__law_is_numbers : Rh → Option Out := (sSeq (sIf (tNotD (tOf (eIsi .list (eVar 0))))
  (sRet (eC (.bool false)))
  sPass)
 (sSeq (sFo [1] (sPre [1] (sFor (itSeq (eVar 0)) (gNm 1)
  (sFo [1] (sIf (tNotD (tOf (eFn f__law_is_number (aCons (eVar 1) aNil))))
  (sRet (eC (.bool false)))
  sPass)))))
 (sRet (eC (.bool true)))))
noncomputable def f__law_is_numbers : List PyData → Option Res := fnD 1 2 b__law_is_numbers
noncomputable def f__law_same : Nat → List PyData → Option Res
  | 0 => fun _ => none
  | n + 1 => fnD 2 3 (sSeq (sIf (tOf (eIsi .bool (eVar 1)))
  (sRet (eAndD (eIsi .bool (eVar 0)) (eBin eqR (eVar 0) (eVar 1))))
  sPass)
 (sSeq (sIf (tOf (eIsi .int (eVar 1)))
  (sRet (eAndD (eFn f__law_is_number (aCons (eVar 0) aNil)) (eBin eqR (eVar 0) (eVar 1))))
  sPass)
 (sSeq (sIf (tOf (eIsi .str (eVar 1)))
  (sRet (eAndD (eIsi .str (eVar 0)) (eBin eqR (eVar 0) (eVar 1))))
  sPass)
 (sSeq (sIf (tOf (eBin (isR false) (eVar 1) (eC .none)))
  (sRet (eBin (isR false) (eVar 0) (eC .none)))
  sPass)
 (sSeq (sIf (tAndD (tOf (eIsi .tuple (eVar 1))) (tNotD (tOf (eIsi .tuple (eVar 0)))))
  (sRet (eC (.bool false)))
  sPass)
 (sSeq (sIf (tAndD (tOf (eIsi .list (eVar 1))) (tNotD (tOf (eIsi .list (eVar 0)))))
  (sRet (eC (.bool false)))
  sPass)
 (sSeq (sIf (tOf (eBin neR (eCall (on1 lenR) (aCons (eVar 0) aNil)) (eCall (on1 lenR) (aCons (eVar 1) aNil))))
  (sRet (eC (.bool false)))
  sPass)
 (sSeq (sFo [2] (sPre [2] (sFor (itRng (aCons (eCall (on1 lenR) (aCons (eVar 1) aNil)) aNil)) (gNm 2)
  (sFo [2] (sIf (tNotD (tOf (eFn (f__law_same n) (aCons (eBin ixR (eVar 0) (eVar 2)) (aCons (eBin ixR (eVar 1) (eVar 2)) aNil)))))
  (sRet (eC (.bool false)))
  sPass)))))
 (sRet (eC (.bool true)))))))))))
noncomputable def b__law_times : Rh → Option Out := (sSeq (sUnp (gTp (gsC (gNm 2) (gsC (gNm 3) (gsC (gNm 4) (gsC (gNm 5) gsN))))) (eVar 0))
 (sSeq (sUnp (gTp (gsC (gNm 6) (gsC (gNm 7) (gsC (gNm 8) (gsC (gNm 9) gsN))))) (eVar 1))
 (sRet (eTup (aCons (eBin addR (eBin mulI (eVar 2) (eVar 6)) (eBin mulI (eVar 3) (eVar 8))) (aCons (eBin addR (eBin mulI (eVar 2) (eVar 7)) (eBin mulI (eVar 3) (eVar 9))) (aCons (eBin addR (eBin mulI (eVar 4) (eVar 6)) (eBin mulI (eVar 5) (eVar 8))) (aCons (eBin addR (eBin mulI (eVar 4) (eVar 7)) (eBin mulI (eVar 5) (eVar 9))) aNil))))))))
noncomputable def f__law_times : List PyData → Option Res := fnD 2 10 b__law_times
noncomputable def b__law_is_turn : Rh → Option Out := (sRet (eAndD (eFn f__law_is_tuple (aCons (eVar 0) (aCons (eC (.int 4)) aNil))) (eBin eqR (eBin subR (eBin mulI (eBin ixR (eVar 0) (eC (.int 0))) (eBin ixR (eVar 0) (eC (.int 3)))) (eBin mulI (eBin ixR (eVar 0) (eC (.int 1))) (eBin ixR (eVar 0) (eC (.int 2))))) (eC (.int 1)))))
noncomputable def f__law_is_turn : List PyData → Option Res := fnD 1 1 b__law_is_turn
noncomputable def b__law_cycle_turn : Rh → Option Out := (sSeq (sUnp (gTp (gsC (gNm 1) (gsC (gNm 2) (gsC (gNm 3) (gsC (gNm 4) gsN))))) (eTup (aCons (eC (.int 1)) (aCons (eC (.int 0)) (aCons (eC (.int 0)) (aCons (eC (.int 1)) aNil))))))
 (sSeq (sFo [5] (sPre [5] (sFor (itRng (aCons (eCall (on1 lenR) (aCons (eVar 0) aNil)) aNil)) (gNm 5)
  (sFo [5] (sIf (tOf (eBin eqR (eBin modR (eVar 5) (eC (.int 2))) (eC (.int 0))))
  (sSeq (sSet 2 (eBin addR (eVar 2) (eBin mulI (eVar 1) (eBin ixR (eVar 0) (eVar 5)))))
 (sSet 4 (eBin addR (eVar 4) (eBin mulI (eVar 3) (eBin ixR (eVar 0) (eVar 5))))))
  (sSeq (sSet 1 (eBin addR (eVar 1) (eBin mulI (eVar 2) (eBin ixR (eVar 0) (eVar 5)))))
 (sSet 3 (eBin addR (eVar 3) (eBin mulI (eVar 4) (eBin ixR (eVar 0) (eVar 5)))))))))))
 (sRet (eTup (aCons (eVar 1) (aCons (eVar 2) (aCons (eVar 3) (aCons (eVar 4) aNil))))))))
noncomputable def f__law_cycle_turn : List PyData → Option Res := fnD 1 6 b__law_cycle_turn
noncomputable def b__law_leads : Rh → Option Out := (sRet (eBin eqR (eFn f__law_times (aCons (eVar 2) (aCons (eVar 0) aNil))) (eFn f__law_times (aCons (eVar 1) (aCons (eVar 2) aNil)))))
noncomputable def f__law_leads : List PyData → Option Res := fnD 3 3 b__law_leads
noncomputable def b__law_is_cycle : Rh → Option Out := (sSeq (sIf (tOrD (tNotD (tOf (eFn f__law_is_numbers (aCons (eVar 0) aNil)))) (tOrD (tOf (eBin ltR (eCall (on1 lenR) (aCons (eVar 0) aNil)) (eC (.int 2)))) (tOf (eBin neR (eBin modR (eCall (on1 lenR) (aCons (eVar 0) aNil)) (eC (.int 2))) (eC (.int 0))))))
  (sRet (eC (.bool false)))
  sPass)
 (sRet (eBin eqR (eLc (itSeq (eVar 0)) (gNm 1) (tOf (eBin ltR (eVar 1) (eC (.int 1)))) (eVar 1) [1]) (eLst aNil))))
noncomputable def f__law_is_cycle : List PyData → Option Res := fnD 1 2 b__law_is_cycle
noncomputable def b__law_meet : Rh → Option Out := (sSeq (sFo [2] (sPre [2] (sFor (itRng (aCons (eC (.int 0)) (aCons (eCall (on1 lenR) (aCons (eVar 0) aNil)) (aCons (eC (.int 2)) aNil)))) (gNm 2)
  (sFo [2] (sIf (tOf (eBin eqR (eBin addR (eSl (eVar 0) (oIs (eVar 2)) oNo) (eSl (eVar 0) oNo (oIs (eVar 2)))) (eVar 1)))
  (sRet (eC (.bool true)))
  sPass)))))
 (sRet (eC (.bool false))))
noncomputable def f__law_meet : List PyData → Option Res := fnD 2 3 b__law_meet
noncomputable def b__law_right_one : Rh → Option Out := (sSeq (sIf (tOrD (tNotD (tOf (eIsi .tuple (eVar 2)))) (tOrD (tOf (eBin neR (eCall (on1 lenR) (aCons (eVar 2) aNil)) (eC (.int 2)))) (tNotD (tOf (eFn (f__law_same 24) (aCons (eBin ixR (eVar 2) (eC (.int 0))) (aCons (eC (.str "one")) aNil)))))))
  (sRet (eC (.bool false)))
  sPass)
 (sRet (eAndD (eFn f__law_is_turn (aCons (eBin ixR (eVar 2) (eC (.int 1))) aNil)) (eFn f__law_leads (aCons (eVar 0) (aCons (eVar 1) (aCons (eBin ixR (eVar 2) (eC (.int 1))) aNil)))))))
noncomputable def f__law_right_one : List PyData → Option Res := fnD 3 3 b__law_right_one
noncomputable def b__law_right_side : Rh → Option Out := (sSeq (sIf (tOrD (tNotD (tOf (eIsi .tuple (eVar 1)))) (tOrD (tOf (eBin neR (eCall (on1 lenR) (aCons (eVar 1) aNil)) (eC (.int 2)))) (tOrD (tNotD (tOf (eFn f__law_is_cycle (aCons (eBin ixR (eVar 1) (eC (.int 0))) aNil)))) (tNotD (tOf (eFn f__law_is_turn (aCons (eBin ixR (eVar 1) (eC (.int 1))) aNil)))))))
  (sRet (eC (.bool false)))
  sPass)
 (sRet (eFn f__law_leads (aCons (eVar 0) (aCons (eFn f__law_cycle_turn (aCons (eBin ixR (eVar 1) (eC (.int 0))) aNil)) (aCons (eBin ixR (eVar 1) (eC (.int 1))) aNil))))))
noncomputable def f__law_right_side : List PyData → Option Res := fnD 2 2 b__law_right_side
noncomputable def b__law_right_two : Rh → Option Out := (sSeq (sIf (tOrD (tNotD (tOf (eIsi .tuple (eVar 2)))) (tOrD (tOf (eBin neR (eCall (on1 lenR) (aCons (eVar 2) aNil)) (eC (.int 3)))) (tNotD (tOf (eFn (f__law_same 24) (aCons (eBin ixR (eVar 2) (eC (.int 0))) (aCons (eC (.str "two")) aNil)))))))
  (sRet (eC (.bool false)))
  sPass)
 (sSeq (sIf (tOrD (tNotD (tOf (eFn f__law_right_side (aCons (eVar 0) (aCons (eBin ixR (eVar 2) (eC (.int 1))) aNil))))) (tNotD (tOf (eFn f__law_right_side (aCons (eVar 1) (aCons (eBin ixR (eVar 2) (eC (.int 2))) aNil))))))
  (sRet (eC (.bool false)))
  sPass)
 (sRet (eNotD (eFn f__law_meet (aCons (eBin ixR (eBin ixR (eVar 2) (eC (.int 1))) (eC (.int 0))) (aCons (eBin ixR (eBin ixR (eVar 2) (eC (.int 2))) (eC (.int 0))) aNil)))))))
noncomputable def f__law_right_two : List PyData → Option Res := fnD 3 3 b__law_right_two
noncomputable def b__law_by : Rh → Option Out := (sRet (eFn f__law_times (aCons (eFn f__law_times (aCons (eVar 0) (aCons (eVar 1) aNil))) (aCons (eTup (aCons (eBin ixR (eVar 0) (eC (.int 3))) (aCons (eUn negR (eBin ixR (eVar 0) (eC (.int 1)))) (aCons (eUn negR (eBin ixR (eVar 0) (eC (.int 2)))) (aCons (eBin ixR (eVar 0) (eC (.int 0))) aNil))))) aNil))))
noncomputable def f__law_by : List PyData → Option Res := fnD 2 2 b__law_by
noncomputable def b__law_turns : Rh → Option Out := (sSeq (sSet 0 (eLst aNil))
 (sSeq (sFo [1, 2, 3, 4] (sPre [1, 2, 3, 4] (sFor (itRng (aCons (eUn negR (eC (.int 3))) (aCons (eC (.int 4)) aNil))) (gNm 1)
  (sFo [1, 2, 3, 4] (sFo [2, 3, 4] (sPre [2, 3, 4] (sFor (itRng (aCons (eUn negR (eC (.int 3))) (aCons (eC (.int 4)) aNil))) (gNm 2)
  (sFo [2, 3, 4] (sFo [3, 4] (sPre [3, 4] (sFor (itRng (aCons (eUn negR (eC (.int 3))) (aCons (eC (.int 4)) aNil))) (gNm 3)
  (sFo [3, 4] (sFo [4] (sPre [4] (sFor (itRng (aCons (eUn negR (eC (.int 3))) (aCons (eC (.int 4)) aNil))) (gNm 4)
  (sFo [4] (sIf (tOf (eBin eqR (eBin subR (eBin mulI (eVar 1) (eVar 2)) (eBin mulI (eVar 3) (eVar 4))) (eC (.int 1))))
  (sApp 0 (eTup (aCons (eVar 1) (aCons (eVar 3) (aCons (eVar 4) (aCons (eVar 2) aNil))))))
  sPass)))))))))))))))))
 (sRet (eVar 0))))
noncomputable def f__law_turns : List PyData → Option Res := fnD 0 5 b__law_turns
noncomputable def b__law_leading : Rh → Option Out := (sSeq (sUnp (gTp (gsC (gNm 3) (gsC (gNm 4) (gsC (gNm 5) (gsC (gNm 6) gsN))))) (eVar 1))
 (sSeq (sUnp (gTp (gsC (gNm 7) (gsC (gNm 8) (gsC (gNm 9) (gsC (gNm 10) gsN))))) (eVar 2))
 (sSeq (sFo [11, 12, 13, 14] (sPre [11, 12, 13, 14] (sFor (itSeq (eVar 0)) (gTp (gsC (gNm 11) (gsC (gNm 12) (gsC (gNm 13) (gsC (gNm 14) gsN)))))
  (sFo [11, 12, 13, 14] (sIf (tAndD (tOf (eBin eqR (eBin addR (eBin mulI (eVar 11) (eVar 3)) (eBin mulI (eVar 12) (eVar 5))) (eBin addR (eBin mulI (eVar 7) (eVar 11)) (eBin mulI (eVar 8) (eVar 13))))) (tOf (eBin eqR (eBin addR (eBin mulI (eVar 11) (eVar 4)) (eBin mulI (eVar 12) (eVar 6))) (eBin addR (eBin mulI (eVar 7) (eVar 12)) (eBin mulI (eVar 8) (eVar 14))))))
  (sIf (tAndD (tOf (eBin eqR (eBin addR (eBin mulI (eVar 13) (eVar 3)) (eBin mulI (eVar 14) (eVar 5))) (eBin addR (eBin mulI (eVar 9) (eVar 11)) (eBin mulI (eVar 10) (eVar 13))))) (tOf (eBin eqR (eBin addR (eBin mulI (eVar 13) (eVar 4)) (eBin mulI (eVar 14) (eVar 6))) (eBin addR (eBin mulI (eVar 9) (eVar 12)) (eBin mulI (eVar 10) (eVar 14))))))
  (sRet (eTup (aCons (eVar 11) (aCons (eVar 12) (aCons (eVar 13) (aCons (eVar 14) aNil))))))
  sPass)
  sPass)))))
 (sRet (eC .none)))))
noncomputable def f__law_leading : List PyData → Option Res := fnD 3 15 b__law_leading
noncomputable def b__law_two_cycles : Rh → Option Out := (sSeq (sSet 1 (eBin addR (eC (.int 2)) (eBin mulI (eC (.int 2)) (eBin modR (eBin ixR (eVar 0) (eC (.int 0))) (eC (.int 2))))))
 (sSeq (sSet 2 (eLc (itRng (aCons (eVar 1) aNil)) (gNm 4) tYesD (eBin addR (eC (.int 1)) (eBin modR (eBin ixR (eVar 0) (eBin addR (eC (.int 1)) (eVar 4))) (eC (.int 3)))) [4]))
 (sSeq (sSet 3 (eLc (itRng (aCons (eVar 1) aNil)) (gNm 4) tYesD (eBin addR (eC (.int 1)) (eBin modR (eBin ixR (eVar 0) (eBin addR (eC (.int 5)) (eVar 4))) (eC (.int 3)))) [4]))
 (sSeq (sIf (tOf (eBin eqR (eBin modR (eBin ixR (eVar 0) (eC (.int 9))) (eC (.int 4))) (eC (.int 0))))
  (sSet 3 (eBin addR (eSl (eVar 2) (oIs (eC (.int 2))) oNo) (eSl (eVar 2) oNo (oIs (eC (.int 2))))))
  sPass)
 (sSeq (sIf (tOf (eBin eqR (eBin modR (eBin ixR (eVar 0) (eC (.int 9))) (eC (.int 4))) (eC (.int 1))))
  (sSet 3 (eSl3 (eVar 2) oNo oNo (oIs (eUn negR (eC (.int 1))))))
  sPass)
 (sFrz [2, 3] (sRet (eTup (aCons (eVar 2) (aCons (eVar 3) aNil))))))))))
noncomputable def f__law_two_cycles : List PyData → Option Res := fnD 1 5 b__law_two_cycles
noncomputable def b__law_is_one : Rh → Option Out := (sSeq (sSet 2 (eFn f_kind_paper (aCons (eVar 0) (aCons (eVar 1) aNil))))
 (sSeq (sIf (tOf (eFn f__law_right_one (aCons (eVar 0) (aCons (eVar 1) (aCons (eVar 2) aNil)))))
  (sRet (eC (.bool true)))
  sPass)
 (sSeq (sIf (tOf (eFn f__law_right_two (aCons (eVar 0) (aCons (eVar 1) (aCons (eVar 2) aNil)))))
  (sRet (eC (.bool false)))
  sPass)
 (sRet (eC .none)))))
noncomputable def f__law_is_one : List PyData → Option Res := fnD 2 3 b__law_is_one
noncomputable def b_law : Rh → Option Out := (sSeq (sSet 1 (eFn f__law_draws (aCons (eVar 0) (aCons (eC (.int 14)) aNil))))
 (sSeq (sFrz [1] (sUnp (gTp (gsC (gNm 2) (gsC (gNm 3) gsN))) (eFn f__law_two_cycles (aCons (eVar 1) aNil))))
 (sSeq (sSet 4 (eFn f__law_turns aNil))
 (sSeq (sSet 5 (eLst (aCons (eBin ixR (eVar 4) (eBin modR (eBin ixR (eVar 1) (eC (.int 10))) (eCall (on1 lenR) (aCons (eVar 4) aNil)))) (aCons (eBin ixR (eVar 4) (eBin modR (eBin ixR (eVar 1) (eC (.int 11))) (eCall (on1 lenR) (aCons (eVar 4) aNil)))) aNil))))
 (sSeq (sSet 6 (eFn f__law_cycle_turn (aCons (eVar 2) aNil)))
 (sSeq (sSet 7 (eFn f__law_cycle_turn (aCons (eVar 3) aNil)))
 (sSeq (sSet 8 (eLst (aCons (eVar 6) (aCons (eFn f__law_by (aCons (eBin ixR (eVar 5) (eC (.int 0))) (aCons (eVar 6) aNil))) (aCons (eVar 7) (aCons (eFn f__law_by (aCons (eBin ixR (eVar 5) (eC (.int 1))) (aCons (eVar 7) aNil))) aNil))))))
 (sSeq (sFrz [8] (sSet 9 (eLc (itSeq (eVar 8)) (gNm 14) tYesD (eLc (itSeq (eVar 8)) (gNm 15) tYesD (eFn f__law_is_one (aCons (eVar 14) (aCons (eVar 15) aNil))) [15]) [14])))
 (sSeq (sFo [10, 11, 12] (sPre [10, 11, 12] (sFor (itRng (aCons (eC (.int 4)) aNil)) (gNm 10)
  (sFo [10, 11, 12] (sFo [11, 12] (sPre [11, 12] (sFor (itRng (aCons (eC (.int 4)) aNil)) (gNm 11)
  (sFo [11, 12] (sSeq (sIf (tOrD (tOf (eBin (isR false) (eBin ixR (eBin ixR (eVar 9) (eVar 10)) (eVar 11)) (eC .none))) (tOrD (tOf (eBin neR (eBin ixR (eBin ixR (eVar 9) (eVar 10)) (eVar 11)) (eBin ixR (eBin ixR (eVar 9) (eVar 11)) (eVar 10)))) (tAndD (tOf (eBin eqR (eBin fdivR (eVar 10) (eC (.int 2))) (eBin fdivR (eVar 11) (eC (.int 2))))) (tNotD (tOf (eBin ixR (eBin ixR (eVar 9) (eVar 10)) (eVar 11)))))))
  (sRet (eC (.bool false)))
  sPass)
 (sSeq (sIf (tAndD (tOf (eBin ixR (eBin ixR (eVar 9) (eVar 10)) (eVar 11))) (tOf (eBin neR (eBin addR (eBin ixR (eBin ixR (eVar 8) (eVar 10)) (eC (.int 0))) (eBin ixR (eBin ixR (eVar 8) (eVar 10)) (eC (.int 3)))) (eBin addR (eBin ixR (eBin ixR (eVar 8) (eVar 11)) (eC (.int 0))) (eBin ixR (eBin ixR (eVar 8) (eVar 11)) (eC (.int 3)))))))
  (sRet (eC (.bool false)))
  sPass)
 (sFo [12] (sPre [12] (sFor (itRng (aCons (eC (.int 4)) aNil)) (gNm 12)
  (sFo [12] (sIf (tAndD (tOf (eBin ixR (eBin ixR (eVar 9) (eVar 10)) (eVar 12))) (tAndD (tOf (eBin ixR (eBin ixR (eVar 9) (eVar 12)) (eVar 11))) (tNotD (tOf (eBin ixR (eBin ixR (eVar 9) (eVar 10)) (eVar 11))))))
  (sRet (eC (.bool false)))
  sPass)))))))))))))))
 (sSeq (sFo [10, 11, 13] (sPre [10, 11, 13] (sFor (itSeq (eLst (aCons (eTup (aCons (eC (.int 0)) (aCons (eC (.int 1)) aNil))) (aCons (eTup (aCons (eC (.int 0)) (aCons (eC (.int 2)) aNil))) (aCons (eTup (aCons (eC (.int 1)) (aCons (eC (.int 2)) aNil))) (aCons (eTup (aCons (eC (.int 2)) (aCons (eC (.int 3)) aNil))) (aCons (eTup (aCons (eC (.int 0)) (aCons (eC (.int 3)) aNil))) aNil))))))) (gTp (gsC (gNm 10) (gsC (gNm 11) gsN)))
  (sFo [10, 11, 13] (sSeq (sFrz [4] (sSet 13 (eFn f__law_leading (aCons (eVar 4) (aCons (eBin ixR (eVar 8) (eVar 10)) (aCons (eBin ixR (eVar 8) (eVar 11)) aNil))))))
 (sIf (tAndD (tOf (eBin (isR true) (eVar 13) (eC .none))) (tOrD (tNotD (tOf (eBin ixR (eBin ixR (eVar 9) (eVar 10)) (eVar 11)))) (tOf (eBin (isR true) (eFn f_shows_one (aCons (eBin ixR (eVar 8) (eVar 10)) (aCons (eBin ixR (eVar 8) (eVar 11)) (aCons (eTup (aCons (eC (.str "one")) (aCons (eVar 13) aNil))) aNil)))) (eC (.bool true))))))
  (sRet (eC (.bool false)))
  sPass))))))
 (sSeq (sFrz [4] (sIf (tOrD (tOf (eBin neR (eBin ixR (eBin ixR (eVar 9) (eC (.int 0))) (eC (.int 2))) (eFn f__law_meet (aCons (eVar 2) (aCons (eVar 3) aNil))))) (tOf (eBin (isR false) (eFn f__law_leading (aCons (eVar 4) (aCons (eBin ixR (eVar 8) (eC (.int 0))) (aCons (eBin ixR (eVar 8) (eC (.int 1))) aNil)))) (eC .none))))
  (sRet (eC (.bool false)))
  sPass))
 (sRet (eBin (isR false) (eFn f_shows_one (aCons (eBin ixR (eVar 8) (eC (.int 0))) (aCons (eBin ixR (eVar 8) (eC (.int 1))) (aCons (eTup (aCons (eC (.str "one")) (aCons (eBin ixR (eVar 5) (eC (.int 0))) aNil))) aNil)))) (eC (.bool true)))))))))))))))
noncomputable def f_law : List PyData → Option Res := fnD 1 16 b_law
end Lk75
set_option maxRecDepth 100000
set_option maxHeartbeats 4000000
namespace Lk75
open PySem PySem.Spec PyProof.Rows L2 F3
def topS (i : Nat) : Stmt := PySem.Challenge.pw_gridplots_k75_whole_kinds_by_search.main.body.getD i (.Pass ⟨0, 0, 0, 0⟩)
abbrev s_nearest : Stmt := topS 1
abbrev N_nearest : List Str := ["first", "second"]
theorem sc_nearest : FnScope N_nearest ["first", "second"] (defScope s_nearest) := ⟨rfl, rfl, rfl, by decide +kernel, rfl, by decide +kernel, by decide +kernel⟩
abbrev s_is_number : Stmt := topS 3
abbrev N_is_number : List Str := ["value"]
theorem sc_is_number : FnScope N_is_number ["value"] (defScope s_is_number) := ⟨rfl, rfl, rfl, by decide +kernel, rfl, by decide +kernel, by decide +kernel⟩
abbrev s_is_number_tuple : Stmt := topS 4
abbrev N_is_number_tuple : List Str := ["value", "width", "item"]
theorem sc_is_number_tuple : FnScope N_is_number_tuple ["value", "width"] (defScope s_is_number_tuple) := ⟨rfl, rfl, rfl, by decide +kernel, rfl, by decide +kernel, by decide +kernel⟩
abbrev s_is_tagged : Stmt := topS 5
abbrev N_is_tagged : List Str := ["paper", "tag", "length"]
theorem sc_is_tagged : FnScope N_is_tagged ["paper", "tag", "length"] (defScope s_is_tagged) := ⟨rfl, rfl, rfl, by decide +kernel, rfl, by decide +kernel, by decide +kernel⟩
abbrev s_is_turn : Stmt := topS 9
abbrev N_is_turn : List Str := ["value"]
theorem sc_is_turn : FnScope N_is_turn ["value"] (defScope s_is_turn) := ⟨rfl, rfl, rfl, by decide +kernel, rfl, by decide +kernel, by decide +kernel⟩
abbrev s_turn_product : Stmt := topS 10
abbrev N_turn_product : List Str := ["first", "second", "a", "b", "c", "d", "e", "f", "g", "h"]
theorem sc_turn_product : FnScope N_turn_product ["first", "second"] (defScope s_turn_product) := ⟨rfl, rfl, rfl, by decide +kernel, rfl, by decide +kernel, by decide +kernel⟩
abbrev s_turn_back : Stmt := topS 11
abbrev N_turn_back : List Str := ["turn", "a", "b", "c", "d"]
theorem sc_turn_back : FnScope N_turn_back ["turn"] (defScope s_turn_back) := ⟨rfl, rfl, rfl, by decide +kernel, rfl, by decide +kernel, by decide +kernel⟩
abbrev s_turned_by : Stmt := topS 12
abbrev N_turned_by : List Str := ["turn", "h"]
theorem sc_turned_by : FnScope N_turned_by ["turn", "h"] (defScope s_turned_by) := ⟨rfl, rfl, rfl, by decide +kernel, rfl, by decide +kernel, by decide +kernel⟩
abbrev s_centring : Stmt := topS 14
abbrev N_centring : List Str := ["turn"]
theorem sc_centring : FnScope N_centring ["turn"] (defScope s_centring) := ⟨rfl, rfl, rfl, by decide +kernel, rfl, by decide +kernel, by decide +kernel⟩
abbrev s_positive_form : Stmt := topS 15
abbrev N_positive_form : List Str := ["turn", "now", "h", "step"]
theorem sc_positive_form : FnScope N_positive_form ["turn"] (defScope s_positive_form) := ⟨rfl, rfl, rfl, by decide +kernel, rfl, by decide +kernel, by decide +kernel⟩
abbrev s_fitting : Stmt := topS 16
abbrev N_fitting : List Str := ["x", "u", "y", "v"]
theorem sc_fitting : FnScope N_fitting ["x", "u", "y", "v"] (defScope s_fitting) := ⟨rfl, rfl, rfl, by decide +kernel, rfl, by decide +kernel, by decide +kernel⟩
abbrev s_runs_of : Stmt := topS 17
abbrev N_runs_of : List Str := ["turn", "a", "b", "c", "d", "runs", "times"]
theorem sc_runs_of : FnScope N_runs_of ["turn"] (defScope s_runs_of) := ⟨rfl, rfl, rfl, by decide +kernel, rfl, by decide +kernel, by decide +kernel⟩
abbrev s_joined : Stmt := topS 18
abbrev N_joined : List Str := ["runs", "found", "letter", "times"]
theorem sc_joined : FnScope N_joined ["runs"] (defScope s_joined) := ⟨rfl, rfl, rfl, by decide +kernel, rfl, by decide +kernel, by decide +kernel⟩
abbrev s_cycle_of : Stmt := topS 19
abbrev N_cycle_of : List Str := ["turn", "positive", "h", "runs", "letter", "times"]
theorem sc_cycle_of : FnScope N_cycle_of ["turn"] (defScope s_cycle_of) := ⟨rfl, rfl, rfl, by decide +kernel, rfl, by decide +kernel, by decide +kernel⟩
abbrev s_cycle_turn : Stmt := topS 20
abbrev N_cycle_turn : List Str := ["cycle", "product", "at"]
theorem sc_cycle_turn : FnScope N_cycle_turn ["cycle"] (defScope s_cycle_turn) := ⟨rfl, rfl, rfl, by decide +kernel, rfl, by decide +kernel, by decide +kernel⟩
abbrev s_turned_on : Stmt := topS 21
abbrev N_turned_on : List Str := ["cycle", "places"]
theorem sc_turned_on : FnScope N_turned_on ["cycle", "places"] (defScope s_turned_on) := ⟨rfl, rfl, rfl, by decide +kernel, rfl, by decide +kernel, by decide +kernel⟩
abbrev s_meeting : Stmt := topS 22
abbrev N_meeting : List Str := ["first", "second", "places"]
theorem sc_meeting : FnScope N_meeting ["first", "second"] (defScope s_meeting) := ⟨rfl, rfl, rfl, by decide +kernel, rfl, by decide +kernel, by decide +kernel⟩
abbrev s_way_between : Stmt := topS 23
abbrev N_way_between : List Str := ["left", "right", "places", "across"]
theorem sc_way_between : FnScope N_way_between ["left", "right", "places"] (defScope s_way_between) := ⟨rfl, rfl, rfl, by decide +kernel, rfl, by decide +kernel, by decide +kernel⟩
abbrev s_leads : Stmt := topS 25
abbrev N_leads : List Str := ["first", "second", "h"]
theorem sc_leads : FnScope N_leads ["first", "second", "h"] (defScope s_leads) := ⟨rfl, rfl, rfl, by decide +kernel, rfl, by decide +kernel, by decide +kernel⟩
abbrev s_kind_paper : Stmt := topS 26
abbrev N_kind_paper : List Str := ["first", "second", "left", "right", "places"]
theorem sc_kind_paper : FnScope N_kind_paper ["first", "second"] (defScope s_kind_paper) := ⟨rfl, rfl, rfl, by decide +kernel, rfl, by decide +kernel, by decide +kernel⟩
abbrev s_shows_one : Stmt := topS 27
abbrev N_shows_one : List Str := ["first", "second", "paper"]
theorem sc_shows_one : FnScope N_shows_one ["first", "second", "paper"] (defScope s_shows_one) := ⟨rfl, rfl, rfl, by decide +kernel, rfl, by decide +kernel, by decide +kernel⟩
abbrev s__law_draws : Stmt := topS 29
abbrev N__law_draws : List Str := ["script", "many", "found", "cell", "number", "k", "mixed", "base"]
theorem sc__law_draws : FnScope N__law_draws ["script", "many"] (defScope s__law_draws) := ⟨rfl, rfl, rfl, by decide +kernel, rfl, by decide +kernel, by decide +kernel⟩
abbrev s__law_is_number : Stmt := topS 30
abbrev N__law_is_number : List Str := ["value"]
theorem sc__law_is_number : FnScope N__law_is_number ["value"] (defScope s__law_is_number) := ⟨rfl, rfl, rfl, by decide +kernel, rfl, by decide +kernel, by decide +kernel⟩
abbrev s__law_is_tuple : Stmt := topS 31
abbrev N__law_is_tuple : List Str := ["value", "width", "item"]
theorem sc__law_is_tuple : FnScope N__law_is_tuple ["value", "width"] (defScope s__law_is_tuple) := ⟨rfl, rfl, rfl, by decide +kernel, rfl, by decide +kernel, by decide +kernel⟩
abbrev s__law_is_numbers : Stmt := topS 32
abbrev N__law_is_numbers : List Str := ["value", "item"]
theorem sc__law_is_numbers : FnScope N__law_is_numbers ["value"] (defScope s__law_is_numbers) := ⟨rfl, rfl, rfl, by decide +kernel, rfl, by decide +kernel, by decide +kernel⟩
abbrev s__law_same : Stmt := topS 33
abbrev N__law_same : List Str := ["told", "due", "k"]
theorem sc__law_same : FnScope N__law_same ["told", "due"] (defScope s__law_same) := ⟨rfl, rfl, rfl, by decide +kernel, rfl, by decide +kernel, by decide +kernel⟩
abbrev s__law_times : Stmt := topS 34
abbrev N__law_times : List Str := ["first", "second", "a", "b", "c", "d", "e", "f", "g", "h"]
theorem sc__law_times : FnScope N__law_times ["first", "second"] (defScope s__law_times) := ⟨rfl, rfl, rfl, by decide +kernel, rfl, by decide +kernel, by decide +kernel⟩
abbrev s__law_is_turn : Stmt := topS 35
abbrev N__law_is_turn : List Str := ["value"]
theorem sc__law_is_turn : FnScope N__law_is_turn ["value"] (defScope s__law_is_turn) := ⟨rfl, rfl, rfl, by decide +kernel, rfl, by decide +kernel, by decide +kernel⟩
abbrev s__law_cycle_turn : Stmt := topS 36
abbrev N__law_cycle_turn : List Str := ["cycle", "a", "b", "c", "d", "k"]
theorem sc__law_cycle_turn : FnScope N__law_cycle_turn ["cycle"] (defScope s__law_cycle_turn) := ⟨rfl, rfl, rfl, by decide +kernel, rfl, by decide +kernel, by decide +kernel⟩
abbrev s__law_leads : Stmt := topS 37
abbrev N__law_leads : List Str := ["first", "second", "h"]
theorem sc__law_leads : FnScope N__law_leads ["first", "second", "h"] (defScope s__law_leads) := ⟨rfl, rfl, rfl, by decide +kernel, rfl, by decide +kernel, by decide +kernel⟩
abbrev s__law_is_cycle : Stmt := topS 38
abbrev N__law_is_cycle : List Str := ["value", "number"]
theorem sc__law_is_cycle : FnScope N__law_is_cycle ["value"] (defScope s__law_is_cycle) := ⟨rfl, rfl, rfl, by decide +kernel, rfl, by decide +kernel, by decide +kernel⟩
abbrev s__law_meet : Stmt := topS 39
abbrev N__law_meet : List Str := ["first", "second", "k"]
theorem sc__law_meet : FnScope N__law_meet ["first", "second"] (defScope s__law_meet) := ⟨rfl, rfl, rfl, by decide +kernel, rfl, by decide +kernel, by decide +kernel⟩
abbrev s__law_right_one : Stmt := topS 40
abbrev N__law_right_one : List Str := ["first", "second", "paper"]
theorem sc__law_right_one : FnScope N__law_right_one ["first", "second", "paper"] (defScope s__law_right_one) := ⟨rfl, rfl, rfl, by decide +kernel, rfl, by decide +kernel, by decide +kernel⟩
abbrev s__law_right_side : Stmt := topS 41
abbrev N__law_right_side : List Str := ["turn", "value"]
theorem sc__law_right_side : FnScope N__law_right_side ["turn", "value"] (defScope s__law_right_side) := ⟨rfl, rfl, rfl, by decide +kernel, rfl, by decide +kernel, by decide +kernel⟩
abbrev s__law_right_two : Stmt := topS 42
abbrev N__law_right_two : List Str := ["first", "second", "paper"]
theorem sc__law_right_two : FnScope N__law_right_two ["first", "second", "paper"] (defScope s__law_right_two) := ⟨rfl, rfl, rfl, by decide +kernel, rfl, by decide +kernel, by decide +kernel⟩
abbrev s__law_by : Stmt := topS 43
abbrev N__law_by : List Str := ["h", "turn"]
theorem sc__law_by : FnScope N__law_by ["h", "turn"] (defScope s__law_by) := ⟨rfl, rfl, rfl, by decide +kernel, rfl, by decide +kernel, by decide +kernel⟩
abbrev s__law_turns : Stmt := topS 44
abbrev N__law_turns : List Str := ["found", "a", "d", "b", "c"]
theorem sc__law_turns : FnScope N__law_turns [] (defScope s__law_turns) := ⟨rfl, rfl, rfl, by decide +kernel, rfl, by decide +kernel, by decide +kernel⟩
abbrev s__law_leading : Stmt := topS 45
abbrev N__law_leading : List Str := ["turns", "first", "second", "a", "b", "c", "d", "e", "f", "g", "h", "p", "q", "r", "s"]
theorem sc__law_leading : FnScope N__law_leading ["turns", "first", "second"] (defScope s__law_leading) := ⟨rfl, rfl, rfl, by decide +kernel, rfl, by decide +kernel, by decide +kernel⟩
abbrev s__law_two_cycles : Stmt := topS 46
abbrev N__law_two_cycles : List Str := ["draws", "many", "one", "two", "k"]
theorem sc__law_two_cycles : FnScope N__law_two_cycles ["draws"] (defScope s__law_two_cycles) := ⟨rfl, rfl, rfl, by decide +kernel, rfl, by decide +kernel, by decide +kernel⟩
abbrev s__law_is_one : Stmt := topS 47
abbrev N__law_is_one : List Str := ["first", "second", "paper"]
theorem sc__law_is_one : FnScope N__law_is_one ["first", "second"] (defScope s__law_is_one) := ⟨rfl, rfl, rfl, by decide +kernel, rfl, by decide +kernel, by decide +kernel⟩
abbrev s_law : Stmt := topS 48
abbrev N_law : List Str := ["script", "draws", "one", "two", "turns", "hs", "first", "second", "four", "table", "i", "k", "j", "lead", "left", "right"]
theorem sc_law : FnScope N_law ["script"] (defScope s_law) := ⟨rfl, rfl, rfl, by decide +kernel, rfl, by decide +kernel, by decide +kernel⟩
structure Top (K : PySem.W.Frag) (mg : Str → Option Value) where
  a_nearest : Addr
  fd_nearest : FuncData
  F_nearest : Fun K "nearest" "nearest" s_nearest a_nearest fd_nearest
  g_nearest : mg "nearest" = some (.ref a_nearest)
  B_nearest : Binds K fd_nearest ["first", "second"] []
  a_is_number : Addr
  fd_is_number : FuncData
  F_is_number : Fun K "is_number" "is_number" s_is_number a_is_number fd_is_number
  g_is_number : mg "is_number" = some (.ref a_is_number)
  B_is_number : Binds K fd_is_number ["value"] []
  a_is_number_tuple : Addr
  fd_is_number_tuple : FuncData
  F_is_number_tuple : Fun K "is_number_tuple" "is_number_tuple" s_is_number_tuple a_is_number_tuple fd_is_number_tuple
  g_is_number_tuple : mg "is_number_tuple" = some (.ref a_is_number_tuple)
  B_is_number_tuple : Binds K fd_is_number_tuple ["value", "width"] []
  a_is_tagged : Addr
  fd_is_tagged : FuncData
  F_is_tagged : Fun K "is_tagged" "is_tagged" s_is_tagged a_is_tagged fd_is_tagged
  g_is_tagged : mg "is_tagged" = some (.ref a_is_tagged)
  B_is_tagged : Binds K fd_is_tagged ["paper", "tag", "length"] []
  a_is_turn : Addr
  fd_is_turn : FuncData
  F_is_turn : Fun K "is_turn" "is_turn" s_is_turn a_is_turn fd_is_turn
  g_is_turn : mg "is_turn" = some (.ref a_is_turn)
  B_is_turn : Binds K fd_is_turn ["value"] []
  a_turn_product : Addr
  fd_turn_product : FuncData
  F_turn_product : Fun K "turn_product" "turn_product" s_turn_product a_turn_product fd_turn_product
  g_turn_product : mg "turn_product" = some (.ref a_turn_product)
  B_turn_product : Binds K fd_turn_product ["first", "second"] []
  a_turn_back : Addr
  fd_turn_back : FuncData
  F_turn_back : Fun K "turn_back" "turn_back" s_turn_back a_turn_back fd_turn_back
  g_turn_back : mg "turn_back" = some (.ref a_turn_back)
  B_turn_back : Binds K fd_turn_back ["turn"] []
  a_turned_by : Addr
  fd_turned_by : FuncData
  F_turned_by : Fun K "turned_by" "turned_by" s_turned_by a_turned_by fd_turned_by
  g_turned_by : mg "turned_by" = some (.ref a_turned_by)
  B_turned_by : Binds K fd_turned_by ["turn", "h"] []
  a_centring : Addr
  fd_centring : FuncData
  F_centring : Fun K "centring" "centring" s_centring a_centring fd_centring
  g_centring : mg "centring" = some (.ref a_centring)
  B_centring : Binds K fd_centring ["turn"] []
  a_positive_form : Addr
  fd_positive_form : FuncData
  F_positive_form : Fun K "positive_form" "positive_form" s_positive_form a_positive_form fd_positive_form
  g_positive_form : mg "positive_form" = some (.ref a_positive_form)
  B_positive_form : Binds K fd_positive_form ["turn"] []
  a_fitting : Addr
  fd_fitting : FuncData
  F_fitting : Fun K "fitting" "fitting" s_fitting a_fitting fd_fitting
  g_fitting : mg "fitting" = some (.ref a_fitting)
  B_fitting : Binds K fd_fitting ["x", "u", "y", "v"] []
  a_runs_of : Addr
  fd_runs_of : FuncData
  F_runs_of : Fun K "runs_of" "runs_of" s_runs_of a_runs_of fd_runs_of
  g_runs_of : mg "runs_of" = some (.ref a_runs_of)
  B_runs_of : Binds K fd_runs_of ["turn"] []
  a_joined : Addr
  fd_joined : FuncData
  F_joined : Fun K "joined" "joined" s_joined a_joined fd_joined
  g_joined : mg "joined" = some (.ref a_joined)
  B_joined : Binds K fd_joined ["runs"] []
  a_cycle_of : Addr
  fd_cycle_of : FuncData
  F_cycle_of : Fun K "cycle_of" "cycle_of" s_cycle_of a_cycle_of fd_cycle_of
  g_cycle_of : mg "cycle_of" = some (.ref a_cycle_of)
  B_cycle_of : Binds K fd_cycle_of ["turn"] []
  a_cycle_turn : Addr
  fd_cycle_turn : FuncData
  F_cycle_turn : Fun K "cycle_turn" "cycle_turn" s_cycle_turn a_cycle_turn fd_cycle_turn
  g_cycle_turn : mg "cycle_turn" = some (.ref a_cycle_turn)
  B_cycle_turn : Binds K fd_cycle_turn ["cycle"] []
  a_turned_on : Addr
  fd_turned_on : FuncData
  F_turned_on : Fun K "turned_on" "turned_on" s_turned_on a_turned_on fd_turned_on
  g_turned_on : mg "turned_on" = some (.ref a_turned_on)
  B_turned_on : Binds K fd_turned_on ["cycle", "places"] []
  a_meeting : Addr
  fd_meeting : FuncData
  F_meeting : Fun K "meeting" "meeting" s_meeting a_meeting fd_meeting
  g_meeting : mg "meeting" = some (.ref a_meeting)
  B_meeting : Binds K fd_meeting ["first", "second"] []
  a_way_between : Addr
  fd_way_between : FuncData
  F_way_between : Fun K "way_between" "way_between" s_way_between a_way_between fd_way_between
  g_way_between : mg "way_between" = some (.ref a_way_between)
  B_way_between : Binds K fd_way_between ["left", "right", "places"] []
  a_leads : Addr
  fd_leads : FuncData
  F_leads : Fun K "leads" "leads" s_leads a_leads fd_leads
  g_leads : mg "leads" = some (.ref a_leads)
  B_leads : Binds K fd_leads ["first", "second", "h"] []
  a_kind_paper : Addr
  fd_kind_paper : FuncData
  F_kind_paper : Fun K "kind_paper" "kind_paper" s_kind_paper a_kind_paper fd_kind_paper
  g_kind_paper : mg "kind_paper" = some (.ref a_kind_paper)
  B_kind_paper : Binds K fd_kind_paper ["first", "second"] []
  a_shows_one : Addr
  fd_shows_one : FuncData
  F_shows_one : Fun K "shows_one" "shows_one" s_shows_one a_shows_one fd_shows_one
  g_shows_one : mg "shows_one" = some (.ref a_shows_one)
  B_shows_one : Binds K fd_shows_one ["first", "second", "paper"] []
  a__law_draws : Addr
  fd__law_draws : FuncData
  F__law_draws : Fun K "_law_draws" "_law_draws" s__law_draws a__law_draws fd__law_draws
  g__law_draws : mg "_law_draws" = some (.ref a__law_draws)
  B__law_draws : Binds K fd__law_draws ["script", "many"] []
  a__law_is_number : Addr
  fd__law_is_number : FuncData
  F__law_is_number : Fun K "_law_is_number" "_law_is_number" s__law_is_number a__law_is_number fd__law_is_number
  g__law_is_number : mg "_law_is_number" = some (.ref a__law_is_number)
  B__law_is_number : Binds K fd__law_is_number ["value"] []
  a__law_is_tuple : Addr
  fd__law_is_tuple : FuncData
  F__law_is_tuple : Fun K "_law_is_tuple" "_law_is_tuple" s__law_is_tuple a__law_is_tuple fd__law_is_tuple
  g__law_is_tuple : mg "_law_is_tuple" = some (.ref a__law_is_tuple)
  B__law_is_tuple : Binds K fd__law_is_tuple ["value", "width"] []
  a__law_is_numbers : Addr
  fd__law_is_numbers : FuncData
  F__law_is_numbers : Fun K "_law_is_numbers" "_law_is_numbers" s__law_is_numbers a__law_is_numbers fd__law_is_numbers
  g__law_is_numbers : mg "_law_is_numbers" = some (.ref a__law_is_numbers)
  B__law_is_numbers : Binds K fd__law_is_numbers ["value"] []
  a__law_same : Addr
  fd__law_same : FuncData
  F__law_same : Fun K "_law_same" "_law_same" s__law_same a__law_same fd__law_same
  g__law_same : mg "_law_same" = some (.ref a__law_same)
  B__law_same : Binds K fd__law_same ["told", "due"] []
  a__law_times : Addr
  fd__law_times : FuncData
  F__law_times : Fun K "_law_times" "_law_times" s__law_times a__law_times fd__law_times
  g__law_times : mg "_law_times" = some (.ref a__law_times)
  B__law_times : Binds K fd__law_times ["first", "second"] []
  a__law_is_turn : Addr
  fd__law_is_turn : FuncData
  F__law_is_turn : Fun K "_law_is_turn" "_law_is_turn" s__law_is_turn a__law_is_turn fd__law_is_turn
  g__law_is_turn : mg "_law_is_turn" = some (.ref a__law_is_turn)
  B__law_is_turn : Binds K fd__law_is_turn ["value"] []
  a__law_cycle_turn : Addr
  fd__law_cycle_turn : FuncData
  F__law_cycle_turn : Fun K "_law_cycle_turn" "_law_cycle_turn" s__law_cycle_turn a__law_cycle_turn fd__law_cycle_turn
  g__law_cycle_turn : mg "_law_cycle_turn" = some (.ref a__law_cycle_turn)
  B__law_cycle_turn : Binds K fd__law_cycle_turn ["cycle"] []
  a__law_leads : Addr
  fd__law_leads : FuncData
  F__law_leads : Fun K "_law_leads" "_law_leads" s__law_leads a__law_leads fd__law_leads
  g__law_leads : mg "_law_leads" = some (.ref a__law_leads)
  B__law_leads : Binds K fd__law_leads ["first", "second", "h"] []
  a__law_is_cycle : Addr
  fd__law_is_cycle : FuncData
  F__law_is_cycle : Fun K "_law_is_cycle" "_law_is_cycle" s__law_is_cycle a__law_is_cycle fd__law_is_cycle
  g__law_is_cycle : mg "_law_is_cycle" = some (.ref a__law_is_cycle)
  B__law_is_cycle : Binds K fd__law_is_cycle ["value"] []
  a__law_meet : Addr
  fd__law_meet : FuncData
  F__law_meet : Fun K "_law_meet" "_law_meet" s__law_meet a__law_meet fd__law_meet
  g__law_meet : mg "_law_meet" = some (.ref a__law_meet)
  B__law_meet : Binds K fd__law_meet ["first", "second"] []
  a__law_right_one : Addr
  fd__law_right_one : FuncData
  F__law_right_one : Fun K "_law_right_one" "_law_right_one" s__law_right_one a__law_right_one fd__law_right_one
  g__law_right_one : mg "_law_right_one" = some (.ref a__law_right_one)
  B__law_right_one : Binds K fd__law_right_one ["first", "second", "paper"] []
  a__law_right_side : Addr
  fd__law_right_side : FuncData
  F__law_right_side : Fun K "_law_right_side" "_law_right_side" s__law_right_side a__law_right_side fd__law_right_side
  g__law_right_side : mg "_law_right_side" = some (.ref a__law_right_side)
  B__law_right_side : Binds K fd__law_right_side ["turn", "value"] []
  a__law_right_two : Addr
  fd__law_right_two : FuncData
  F__law_right_two : Fun K "_law_right_two" "_law_right_two" s__law_right_two a__law_right_two fd__law_right_two
  g__law_right_two : mg "_law_right_two" = some (.ref a__law_right_two)
  B__law_right_two : Binds K fd__law_right_two ["first", "second", "paper"] []
  a__law_by : Addr
  fd__law_by : FuncData
  F__law_by : Fun K "_law_by" "_law_by" s__law_by a__law_by fd__law_by
  g__law_by : mg "_law_by" = some (.ref a__law_by)
  B__law_by : Binds K fd__law_by ["h", "turn"] []
  a__law_turns : Addr
  fd__law_turns : FuncData
  F__law_turns : Fun K "_law_turns" "_law_turns" s__law_turns a__law_turns fd__law_turns
  g__law_turns : mg "_law_turns" = some (.ref a__law_turns)
  B__law_turns : Binds K fd__law_turns [] []
  a__law_leading : Addr
  fd__law_leading : FuncData
  F__law_leading : Fun K "_law_leading" "_law_leading" s__law_leading a__law_leading fd__law_leading
  g__law_leading : mg "_law_leading" = some (.ref a__law_leading)
  B__law_leading : Binds K fd__law_leading ["turns", "first", "second"] []
  a__law_two_cycles : Addr
  fd__law_two_cycles : FuncData
  F__law_two_cycles : Fun K "_law_two_cycles" "_law_two_cycles" s__law_two_cycles a__law_two_cycles fd__law_two_cycles
  g__law_two_cycles : mg "_law_two_cycles" = some (.ref a__law_two_cycles)
  B__law_two_cycles : Binds K fd__law_two_cycles ["draws"] []
  a__law_is_one : Addr
  fd__law_is_one : FuncData
  F__law_is_one : Fun K "_law_is_one" "_law_is_one" s__law_is_one a__law_is_one fd__law_is_one
  g__law_is_one : mg "_law_is_one" = some (.ref a__law_is_one)
  B__law_is_one : Binds K fd__law_is_one ["first", "second"] []
  a_law : Addr
  fd_law : FuncData
  F_law : Fun K "law" "law" s_law a_law fd_law
  g_law : mg "law" = some (.ref a_law)
  B_law : Binds K fd_law ["script"] []
  a_STILL : Addr
  g_STILL : mg "STILL" = some (.ref a_STILL)
  d_STILL : ∀ H, Dp K H (.ref a_STILL) c_STILL
  a_QUARTER : Addr
  g_QUARTER : mg "QUARTER" = some (.ref a_QUARTER)
  d_QUARTER : ∀ H, Dp K H (.ref a_QUARTER) c_QUARTER
  z_abs : mg "abs" = none
  z_bool : mg "bool" = none
  z_int : mg "int" = none
  z_isinstance : mg "isinstance" = none
  z_len : mg "len" = none
  z_list : mg "list" = none
  z_min : mg "min" = none
  z_range : mg "range" = none
  z_str : mg "str" = none
  z_tuple : mg "tuple" = none
end Lk75
set_option maxRecDepth 100000
set_option maxHeartbeats 4000000
namespace Lk75
open PySem PySem.Spec PyProof.Rows L2 F3
section
variable {P : Program} {w : World} {K : PySem.W.Frag} {mg : Str → Option Value} {base : Heap}
theorem ok_nearest (T : Top K mg) : FnG P w K mg base 1 T.a_nearest T.fd_nearest ["first", "second"] (spD K 2 f_nearest) := by
  unfold f_nearest b_nearest
  refine fnG_data T.F_nearest sc_nearest rfl rfl fun cdv A outer s H hr hG => ?_
  refine ⟨_, (pss_cons (ps_if (pt_cmpR op_lt (pv 1) pe_int (nomark _))
  (pss_cons (ps_set (i := 0) sc_nearest.nd rfl (Or.inl rfl) (pe_un un_neg (pv 0)))
 (pss_one (ps_set (i := 1) sc_nearest.nd rfl (Or.inl rfl) (pe_un un_neg (pv 1)))))
  pss_nil)
 (pss_one (ps_ret (pe_op op_fdivA (pe_op op_add4 (pe_op op_mulW pe_int (pv 0)) (pv 1)) (pe_op op_mulW pe_int (pv 1)))))), ?_⟩
  exact (sok_seq (sok_if (tok_test (eok_op r2_lt (eok_var 1) (eok_int 0)))
  (sok_seq (sok_set 0 (eok_un r1_neg (eok_var 0)))
 (sok_set 1 (eok_un r1_neg (eok_var 1))))
  sok_pass)
 (sok_ret (eok_op r2_fdiv (eok_op r2_add (eok_op r2_mulI (eok_int 2) (eok_var 0)) (eok_var 1)) (eok_op r2_mulI (eok_int 2) (eok_var 1)))))
end
section
variable {P : Program} {w : World} {K : PySem.W.Frag} {mg : Str → Option Value} {base : Heap}
theorem ok_is_number (T : Top K mg) : FnG P w K mg base 1 T.a_is_number T.fd_is_number ["value"] (spD K 1 f_is_number) := by
  unfold f_is_number b_is_number
  refine fnG_data T.F_is_number sc_is_number rfl rfl fun cdv A outer s H hr hG => ?_
  refine ⟨_, (pss_one (ps_ret (pe_and (pe_callB call_isi (by rfl) T.z_isinstance bt_isinstance (pa_cons (pv 0) (pa_cons (pe_bltn (v := .ty "int") (by rfl) T.z_int bt_int rfl) pa_nil))) (pe_one (pe_not (pe_callB call_isi (by rfl) T.z_isinstance bt_isinstance (pa_cons (pv 0) (pa_cons (pe_bltn (v := .ty "bool") (by rfl) T.z_bool bt_bool rfl) pa_nil)))))))), ?_⟩
  exact (sok_ret (eok_and (eok_isi .int (eok_var 0)) (eok_not (eok_isi .bool (eok_var 0)))))
end
section
variable {P : Program} {w : World} {K : PySem.W.Frag} {mg : Str → Option Value} {base : Heap}
theorem ok_is_number_tuple (T : Top K mg) : FnG P w K mg base 2 T.a_is_number_tuple T.fd_is_number_tuple ["value", "width"] (spD K 2 f_is_number_tuple) := by
  unfold f_is_number_tuple b_is_number_tuple
  refine fnG_data T.F_is_number_tuple sc_is_number_tuple rfl rfl fun cdv A outer s H hr hG => ?_
  refine ⟨_, (pss_cons (ps_if (PW.pt (pw_or (pt_not (pt_val (pe_callB call_isi (by rfl) T.z_isinstance bt_isinstance (pa_cons (pv 0) (pa_cons (pe_bltn (v := .ty "tuple") (by rfl) T.z_tuple bt_tuple rfl) pa_nil))))) (pw_or1 (pt_cmpR (op_neA hr.units) (pe_callB call_lenA (by rfl) T.z_len bt_len (pa_cons (pv 0) pa_nil)) (pv 1) (nomark _)))))
  (pss_one (ps_ret pe_bl))
  pss_nil)
 (pss_cons (ps_for PassesOwn.never rfl (pi_seq (pv 0)) (pg_name (i := 2) sc_is_number_tuple.nd rfl (Or.inl rfl))
  (pss_one (ps_if (pt_not (pt_val (pe_callG (ok_is_number T) (hr.mono (by omega)) hG (by rfl) T.g_is_number T.F_is_number.kp T.B_is_number (pa_cons (pv 2) pa_nil))))
  (pss_one (ps_ret pe_bl))
  pss_nil)))
 (pss_one (ps_ret pe_bl)))), ?_⟩
  exact (sok_seq (sok_if (tok_or (tok_not (tok_val (eok_isi .tuple (eok_var 0)))) (tok_test (eok_op r2_ne (eok_callB F3.cr_len (aok_cons (eok_var 0) aok_nil)) (eok_var 1))))
  (sok_ret (eok_bool false))
  sok_pass)
 (sok_seq (sok_fo [2] (sok_pre [2] (sok_for (iok_seq (eok_var 0)) (gok_name 2)
  (sok_fo [2] (sok_if (tok_not (tok_val (eok_fn (aok_cons (eok_var 2) aok_nil) (an_cons an_nil))))
  (sok_ret (eok_bool false))
  sok_pass)))))
 (sok_ret (eok_bool true))))
end
section
variable {P : Program} {w : World} {K : PySem.W.Frag} {mg : Str → Option Value} {base : Heap}
theorem ok_is_tagged (T : Top K mg) : FnG P w K mg base 1 T.a_is_tagged T.fd_is_tagged ["paper", "tag", "length"] (spD K 3 f_is_tagged) := by
  unfold f_is_tagged b_is_tagged
  refine fnG_data T.F_is_tagged sc_is_tagged rfl rfl fun cdv A outer s H hr hG => ?_
  refine ⟨_, (pss_cons (ps_if (PW.pt (pw_or (pt_not (pt_val (pe_callB call_isi (by rfl) T.z_isinstance bt_isinstance (pa_cons (pv 0) (pa_cons (pe_bltn (v := .ty "tuple") (by rfl) T.z_tuple bt_tuple rfl) pa_nil))))) (pw_or1 (pt_cmpR (op_neA hr.units) (pe_callB call_lenA (by rfl) T.z_len bt_len (pa_cons (pv 0) pa_nil)) (pv 2) (nomark _)))))
  (pss_one (ps_ret pe_bl))
  pss_nil)
 (pss_one (ps_ret (pe_and (pe_callB call_isi (by rfl) T.z_isinstance bt_isinstance (pa_cons (pe_ix ix_seq (pv 0) pe_int (fun _ _ => rfl)) (pa_cons (pe_bltn (v := .ty "str") (by rfl) T.z_str bt_str rfl) pa_nil))) (pe_one (pe_cmpR (op_eqA hr.units) (pe_ix ix_seq (pv 0) pe_int (fun _ _ => rfl)) (pv 1) (nomark _))))))), ?_⟩
  exact (sok_seq (sok_if (tok_or (tok_not (tok_val (eok_isi .tuple (eok_var 0)))) (tok_test (eok_op r2_ne (eok_callB F3.cr_len (aok_cons (eok_var 0) aok_nil)) (eok_var 2))))
  (sok_ret (eok_bool false))
  sok_pass)
 (sok_ret (eok_and (eok_isi .str (eok_op r2_ix (eok_var 0) (eok_int 0))) (eok_op r2_eq (eok_op r2_ix (eok_var 0) (eok_int 0)) (eok_var 1)))))
end
section
variable {P : Program} {w : World} {K : PySem.W.Frag} {mg : Str → Option Value} {base : Heap}
theorem ok_is_turn (T : Top K mg) : FnG P w K mg base 3 T.a_is_turn T.fd_is_turn ["value"] (spD K 1 f_is_turn) := by
  unfold f_is_turn b_is_turn
  refine fnG_data T.F_is_turn sc_is_turn rfl rfl fun cdv A outer s H hr hG => ?_
  refine ⟨_, (pss_one (ps_ret (pe_and (pe_callG (ok_is_number_tuple T) (hr.mono (by omega)) hG (by rfl) T.g_is_number_tuple T.F_is_number_tuple.kp T.B_is_number_tuple (pa_cons (pv 0) (pa_cons pe_int pa_nil))) (pe_one (pe_cmpR (op_eqA hr.units) (pe_op op_sub (pe_op op_mulW (pe_ix ix_seq (pv 0) pe_int (fun _ _ => rfl)) (pe_ix ix_seq (pv 0) pe_int (fun _ _ => rfl))) (pe_op op_mulW (pe_ix ix_seq (pv 0) pe_int (fun _ _ => rfl)) (pe_ix ix_seq (pv 0) pe_int (fun _ _ => rfl)))) pe_int (nomark _)))))), ?_⟩
  exact (sok_ret (eok_and (eok_fn (aok_cons (eok_var 0) (aok_cons (eok_int 4) aok_nil)) (an_cons (an_cons an_nil))) (eok_op r2_eq (eok_op r2_sub (eok_op r2_mulI (eok_op r2_ix (eok_var 0) (eok_int 0)) (eok_op r2_ix (eok_var 0) (eok_int 3))) (eok_op r2_mulI (eok_op r2_ix (eok_var 0) (eok_int 1)) (eok_op r2_ix (eok_var 0) (eok_int 2)))) (eok_int 1))))
end
section
variable {P : Program} {w : World} {K : PySem.W.Frag} {mg : Str → Option Value} {base : Heap}
theorem ok_turn_product (T : Top K mg) : FnG P w K mg base 1 T.a_turn_product T.fd_turn_product ["first", "second"] (spD K 2 f_turn_product) := by
  unfold f_turn_product b_turn_product
  refine fnG_data T.F_turn_product sc_turn_product rfl rfl fun cdv A outer s H hr hG => ?_
  refine ⟨_, (pss_cons (ps_asg (pv 0) (pg_tup rfl (pgs_cons (pg_name (i := 2) sc_turn_product.nd rfl (Or.inl rfl)) (pgs_cons (pg_name (i := 3) sc_turn_product.nd rfl (Or.inl rfl)) (pgs_cons (pg_name (i := 4) sc_turn_product.nd rfl (Or.inl rfl)) (pgs_cons (pg_name (i := 5) sc_turn_product.nd rfl (Or.inl rfl)) pgs_nil))))))
 (pss_cons (ps_asg (pv 1) (pg_tup rfl (pgs_cons (pg_name (i := 6) sc_turn_product.nd rfl (Or.inl rfl)) (pgs_cons (pg_name (i := 7) sc_turn_product.nd rfl (Or.inl rfl)) (pgs_cons (pg_name (i := 8) sc_turn_product.nd rfl (Or.inl rfl)) (pgs_cons (pg_name (i := 9) sc_turn_product.nd rfl (Or.inl rfl)) pgs_nil))))))
 (pss_one (ps_ret (pe_tup (pa_cons (pe_op op_add4 (pe_op op_mulW (pv 2) (pv 6)) (pe_op op_mulW (pv 3) (pv 8))) (pa_cons (pe_op op_add4 (pe_op op_mulW (pv 2) (pv 7)) (pe_op op_mulW (pv 3) (pv 9))) (pa_cons (pe_op op_add4 (pe_op op_mulW (pv 4) (pv 6)) (pe_op op_mulW (pv 5) (pv 8))) (pa_cons (pe_op op_add4 (pe_op op_mulW (pv 4) (pv 7)) (pe_op op_mulW (pv 5) (pv 9))) pa_nil))))))))), ?_⟩
  exact (sok_seq (sok_unp (gok_tup (gsok_cons (gok_name 2) (gsok_cons (gok_name 3) (gsok_cons (gok_name 4) (gsok_cons (gok_name 5) gsok_nil)))) (gs_len (gs_len (gs_len (gs_len gs_len0 _) _) _) _)) (eok_var 0))
 (sok_seq (sok_unp (gok_tup (gsok_cons (gok_name 6) (gsok_cons (gok_name 7) (gsok_cons (gok_name 8) (gsok_cons (gok_name 9) gsok_nil)))) (gs_len (gs_len (gs_len (gs_len gs_len0 _) _) _) _)) (eok_var 1))
 (sok_ret (eok_tup (aok_cons (eok_op r2_add (eok_op r2_mulI (eok_var 2) (eok_var 6)) (eok_op r2_mulI (eok_var 3) (eok_var 8))) (aok_cons (eok_op r2_add (eok_op r2_mulI (eok_var 2) (eok_var 7)) (eok_op r2_mulI (eok_var 3) (eok_var 9))) (aok_cons (eok_op r2_add (eok_op r2_mulI (eok_var 4) (eok_var 6)) (eok_op r2_mulI (eok_var 5) (eok_var 8))) (aok_cons (eok_op r2_add (eok_op r2_mulI (eok_var 4) (eok_var 7)) (eok_op r2_mulI (eok_var 5) (eok_var 9))) aok_nil))))))))
end
section
variable {P : Program} {w : World} {K : PySem.W.Frag} {mg : Str → Option Value} {base : Heap}
theorem ok_turn_back (T : Top K mg) : FnG P w K mg base 1 T.a_turn_back T.fd_turn_back ["turn"] (spD K 1 f_turn_back) := by
  unfold f_turn_back b_turn_back
  refine fnG_data T.F_turn_back sc_turn_back rfl rfl fun cdv A outer s H hr hG => ?_
  refine ⟨_, (pss_cons (ps_asg (pv 0) (pg_tup rfl (pgs_cons (pg_name (i := 1) sc_turn_back.nd rfl (Or.inl rfl)) (pgs_cons (pg_name (i := 2) sc_turn_back.nd rfl (Or.inl rfl)) (pgs_cons (pg_name (i := 3) sc_turn_back.nd rfl (Or.inl rfl)) (pgs_cons (pg_name (i := 4) sc_turn_back.nd rfl (Or.inl rfl)) pgs_nil))))))
 (pss_one (ps_ret (pe_tup (pa_cons (pv 4) (pa_cons (pe_un un_neg (pv 2)) (pa_cons (pe_un un_neg (pv 3)) (pa_cons (pv 1) pa_nil)))))))), ?_⟩
  exact (sok_seq (sok_unp (gok_tup (gsok_cons (gok_name 1) (gsok_cons (gok_name 2) (gsok_cons (gok_name 3) (gsok_cons (gok_name 4) gsok_nil)))) (gs_len (gs_len (gs_len (gs_len gs_len0 _) _) _) _)) (eok_var 0))
 (sok_ret (eok_tup (aok_cons (eok_var 4) (aok_cons (eok_un r1_neg (eok_var 2)) (aok_cons (eok_un r1_neg (eok_var 3)) (aok_cons (eok_var 1) aok_nil)))))))
end
end Lk75
set_option maxRecDepth 100000
set_option maxHeartbeats 4000000
namespace Lk75
open PySem PySem.Spec PyProof.Rows L2 F3
section
variable {P : Program} {w : World} {K : PySem.W.Frag} {mg : Str → Option Value} {base : Heap}
theorem ok_turned_by (T : Top K mg) : FnG P w K mg base 2 T.a_turned_by T.fd_turned_by ["turn", "h"] (spD K 2 f_turned_by) := by
  unfold f_turned_by b_turned_by
  refine fnG_data T.F_turned_by sc_turned_by rfl rfl fun cdv A outer s H hr hG => ?_
  refine ⟨_, (pss_one (ps_ret (pe_callG (ok_turn_product T) (hr.mono (by omega)) hG (by rfl) T.g_turn_product T.F_turn_product.kp T.B_turn_product (pa_cons (pe_callG (ok_turn_product T) (hr.mono (by omega)) hG (by rfl) T.g_turn_product T.F_turn_product.kp T.B_turn_product (pa_cons (pv 1) (pa_cons (pv 0) pa_nil))) (pa_cons (pe_callG (ok_turn_back T) (hr.mono (by omega)) hG (by rfl) T.g_turn_back T.F_turn_back.kp T.B_turn_back (pa_cons (pv 1) pa_nil)) pa_nil))))), ?_⟩
  exact (sok_ret (eok_fn (aok_cons (eok_fn (aok_cons (eok_var 1) (aok_cons (eok_var 0) aok_nil)) (an_cons (an_cons an_nil))) (aok_cons (eok_fn (aok_cons (eok_var 1) aok_nil) (an_cons an_nil)) aok_nil)) (an_cons (an_cons an_nil))))
end
section
variable {P : Program} {w : World} {K : PySem.W.Frag} {mg : Str → Option Value} {base : Heap}
theorem ok_centring (T : Top K mg) : FnG P w K mg base 2 T.a_centring T.fd_centring ["turn"] (spD K 1 f_centring) := by
  unfold f_centring b_centring
  refine fnG_data T.F_centring sc_centring rfl rfl fun cdv A outer s H hr hG => ?_
  refine ⟨_, (pss_one (ps_ret (pe_tup (pa_cons pe_int (pa_cons (pe_un un_neg (pe_callG (ok_nearest T) (hr.mono (by omega)) hG (by rfl) T.g_nearest T.F_nearest.kp T.B_nearest (pa_cons (pe_op op_sub (pe_ix ix_seq (pv 0) pe_int (fun _ _ => rfl)) (pe_ix ix_seq (pv 0) pe_int (fun _ _ => rfl))) (pa_cons (pe_op op_mulW pe_int (pe_ix ix_seq (pv 0) pe_int (fun _ _ => rfl))) pa_nil)))) (pa_cons pe_int (pa_cons pe_int pa_nil))))))), ?_⟩
  exact (sok_ret (eok_tup (aok_cons (eok_int 1) (aok_cons (eok_un r1_neg (eok_fn (aok_cons (eok_op r2_sub (eok_op r2_ix (eok_var 0) (eok_int 0)) (eok_op r2_ix (eok_var 0) (eok_int 3))) (aok_cons (eok_op r2_mulI (eok_int 2) (eok_op r2_ix (eok_var 0) (eok_int 2))) aok_nil)) (an_cons (an_cons an_nil)))) (aok_cons (eok_int 0) (aok_cons (eok_int 1) aok_nil))))))
end
section
variable {P : Program} {w : World} {K : PySem.W.Frag} {mg : Str → Option Value} {base : Heap}
theorem ok_positive_form (T : Top K mg) : FnG P w K mg base 3 T.a_positive_form T.fd_positive_form ["turn"] (spD K 1 f_positive_form) := by
  unfold f_positive_form b_positive_form
  refine fnG_data T.F_positive_form sc_positive_form rfl rfl fun cdv A outer s H hr hG => ?_
  refine ⟨_, (pss_cons (ps_set (i := 1) sc_positive_form.nd rfl (Or.inl rfl) (pv 0))
 (pss_cons (ps_set (i := 2) sc_positive_form.nd rfl (Or.inl rfl) (pe_glob (v := .ref T.a_STILL) (by rfl) T.g_STILL rfl))
 (pss_cons (ps_while PassesOwn.never (PW.pt (pw_or (pt_cmpR op_lt (pe_ix ix_seq (pv 1) pe_int (fun _ _ => rfl)) pe_int (nomark _)) (pw_or1 (pt_cmpR op_lt (pe_ix ix_seq (pv 1) pe_int (fun _ _ => rfl)) pe_int (nomark _)))))
  (pss_cons (ps_set (i := 3) sc_positive_form.nd rfl (Or.inl rfl) (pe_callG (ok_centring T) (hr.mono (by omega)) hG (by rfl) T.g_centring T.F_centring.kp T.B_centring (pa_cons (pv 1) pa_nil)))
 (pss_cons (ps_if (PW.pt (pw_or (pt_cmpR op_lt (pe_ix ix_seq (pe_callG (ok_turned_by T) (hr.mono (by omega)) hG (by rfl) T.g_turned_by T.F_turned_by.kp T.B_turned_by (pa_cons (pv 1) (pa_cons (pv 3) pa_nil))) pe_int (fun _ _ => rfl)) pe_int (nomark _)) (pw_or1 (pt_cmpR op_lt (pe_ix ix_seq (pv 1) pe_int (fun _ _ => rfl)) pe_int (nomark _)))))
  (pss_one (ps_set (i := 3) sc_positive_form.nd rfl (Or.inl rfl) (pe_callG (ok_turn_product T) (hr.mono (by omega)) hG (by rfl) T.g_turn_product T.F_turn_product.kp T.B_turn_product (pa_cons (pe_glob (v := .ref T.a_QUARTER) (by rfl) T.g_QUARTER rfl) (pa_cons (pv 3) pa_nil)))))
  pss_nil)
 (pss_cons (ps_set (i := 1) sc_positive_form.nd rfl (Or.inl rfl) (pe_callG (ok_turned_by T) (hr.mono (by omega)) hG (by rfl) T.g_turned_by T.F_turned_by.kp T.B_turned_by (pa_cons (pv 1) (pa_cons (pv 3) pa_nil))))
 (pss_one (ps_set (i := 2) sc_positive_form.nd rfl (Or.inl rfl) (pe_callG (ok_turn_product T) (hr.mono (by omega)) hG (by rfl) T.g_turn_product T.F_turn_product.kp T.B_turn_product (pa_cons (pv 3) (pa_cons (pv 2) pa_nil)))))))))
 (pss_one (ps_ret (pe_tup (pa_cons (pv 1) (pa_cons (pv 2) pa_nil)))))))), ?_⟩
  exact (sok_seq (sok_set 1 (eok_var 0))
 (sok_seq (sok_set 2 (eok_const T.d_STILL))
 (sok_seq (sok_fo [3] (sok_pre [3] (sok_while (tok_or (tok_test (eok_op r2_lt (eok_op r2_ix (eok_var 1) (eok_int 1)) (eok_int 0))) (tok_test (eok_op r2_lt (eok_op r2_ix (eok_var 1) (eok_int 2)) (eok_int 0))))
  (sok_fo [3] (sok_seq (sok_set 3 (eok_fn (aok_cons (eok_var 1) aok_nil) (an_cons an_nil)))
 (sok_seq (sok_if (tok_or (tok_test (eok_op r2_lt (eok_op r2_ix (eok_fn (aok_cons (eok_var 1) (aok_cons (eok_var 3) aok_nil)) (an_cons (an_cons an_nil))) (eok_int 1)) (eok_int 0))) (tok_test (eok_op r2_lt (eok_op r2_ix (eok_var 1) (eok_int 2)) (eok_int 0))))
  (sok_set 3 (eok_fn (aok_cons (eok_const T.d_QUARTER) (aok_cons (eok_var 3) aok_nil)) (an_cons (an_cons an_nil))))
  sok_pass)
 (sok_seq (sok_set 1 (eok_fn (aok_cons (eok_var 1) (aok_cons (eok_var 3) aok_nil)) (an_cons (an_cons an_nil))))
 (sok_set 2 (eok_fn (aok_cons (eok_var 3) (aok_cons (eok_var 2) aok_nil)) (an_cons (an_cons an_nil)))))))))))
 (sok_ret (eok_tup (aok_cons (eok_var 1) (aok_cons (eok_var 2) aok_nil)))))))
end
section
variable {P : Program} {w : World} {K : PySem.W.Frag} {mg : Str → Option Value} {base : Heap}
theorem ok_fitting (T : Top K mg) : FnG P w K mg base 1 T.a_fitting T.fd_fitting ["x", "u", "y", "v"] (spD K 4 f_fitting) := by
  unfold f_fitting b_fitting
  refine fnG_data T.F_fitting sc_fitting rfl rfl fun cdv A outer s H hr hG => ?_
  refine ⟨_, (pss_cons (ps_if (pt_cmpR (op_eqA hr.units) (pv 1) pe_int (nomark _))
  (pss_one (ps_ret (pe_op op_fdivA (pv 2) (pv 3))))
  pss_nil)
 (pss_cons (ps_if (pt_cmpR (op_eqA hr.units) (pv 3) pe_int (nomark _))
  (pss_one (ps_ret (pe_op op_fdivA (pv 0) (pv 1))))
  pss_nil)
 (pss_one (ps_ret (pe_callB (call_minA rfl) (by rfl) T.z_min bt_min (pa_cons (pe_op op_fdivA (pv 0) (pv 1)) (pa_cons (pe_op op_fdivA (pv 2) (pv 3)) pa_nil))))))), ?_⟩
  exact (sok_seq (sok_if (tok_test (eok_op r2_eq (eok_var 1) (eok_int 0)))
  (sok_ret (eok_op r2_fdiv (eok_var 2) (eok_var 3)))
  sok_pass)
 (sok_seq (sok_if (tok_test (eok_op r2_eq (eok_var 3) (eok_int 0)))
  (sok_ret (eok_op r2_fdiv (eok_var 0) (eok_var 1)))
  sok_pass)
 (sok_ret (eok_callB cr_minA (aok_cons (eok_op r2_fdiv (eok_var 0) (eok_var 1)) (aok_cons (eok_op r2_fdiv (eok_var 2) (eok_var 3)) aok_nil))))))
end
section
variable {P : Program} {w : World} {K : PySem.W.Frag} {mg : Str → Option Value} {base : Heap}
theorem ok_runs_of (T : Top K mg) : FnG P w K mg base 2 T.a_runs_of T.fd_runs_of ["turn"] (spD K 1 f_runs_of) := by
  unfold f_runs_of b_runs_of
  refine fnG_data T.F_runs_of sc_runs_of rfl rfl fun cdv A outer s H hr hG => ?_
  refine ⟨_, (pss_cons (ps_asg (pv 0) (pg_tup rfl (pgs_cons (pg_name (i := 1) sc_runs_of.nd rfl (Or.inl rfl)) (pgs_cons (pg_name (i := 2) sc_runs_of.nd rfl (Or.inl rfl)) (pgs_cons (pg_name (i := 3) sc_runs_of.nd rfl (Or.inl rfl)) (pgs_cons (pg_name (i := 4) sc_runs_of.nd rfl (Or.inl rfl)) pgs_nil))))))
 (pss_cons (ps_set (i := 5) sc_runs_of.nd rfl (Or.inl rfl) (pe_lst pa_nil))
 (pss_cons (ps_while PassesOwn.never (pt_cmpR (op_neA hr.units) (pe_tup (pa_cons (pv 1) (pa_cons (pv 2) (pa_cons (pv 3) (pa_cons (pv 4) pa_nil))))) (pe_glob (v := .ref T.a_STILL) (by rfl) T.g_STILL rfl) (nomark _))
  (pss_one (ps_if (PW.pt (pw_and (pt_cmpR op_ge (pv 1) (pv 3) (nomark _)) (pw_and1 (pt_cmpR op_ge (pv 2) (pv 4) (nomark _)))))
  (pss_cons (ps_set (i := 6) sc_runs_of.nd rfl (Or.inl rfl) (pe_callG (ok_fitting T) (hr.mono (by omega)) hG (by rfl) T.g_fitting T.F_fitting.kp T.B_fitting (pa_cons (pv 1) (pa_cons (pv 3) (pa_cons (pv 2) (pa_cons (pv 4) pa_nil))))))
 (pss_cons (ps_set (i := 1) sc_runs_of.nd rfl (Or.inl rfl) (pe_op op_sub (pv 1) (pe_op op_mulW (pv 6) (pv 3))))
 (pss_cons (ps_set (i := 2) sc_runs_of.nd rfl (Or.inl rfl) (pe_op op_sub (pv 2) (pe_op op_mulW (pv 6) (pv 4))))
 (pss_one (ps_expr (pe_bm PySem.F.plainAttrs_list PySem.F.slot_list_append PySem.F.type_list_append mt_append (pv 5) (pa_cons (pe_tup (pa_cons pe_int (pa_cons (pv 6) pa_nil))) pa_nil)))))))
  (pss_cons (ps_set (i := 6) sc_runs_of.nd rfl (Or.inl rfl) (pe_callG (ok_fitting T) (hr.mono (by omega)) hG (by rfl) T.g_fitting T.F_fitting.kp T.B_fitting (pa_cons (pv 3) (pa_cons (pv 1) (pa_cons (pv 4) (pa_cons (pv 2) pa_nil))))))
 (pss_cons (ps_set (i := 3) sc_runs_of.nd rfl (Or.inl rfl) (pe_op op_sub (pv 3) (pe_op op_mulW (pv 6) (pv 1))))
 (pss_cons (ps_set (i := 4) sc_runs_of.nd rfl (Or.inl rfl) (pe_op op_sub (pv 4) (pe_op op_mulW (pv 6) (pv 2))))
 (pss_one (ps_expr (pe_bm PySem.F.plainAttrs_list PySem.F.slot_list_append PySem.F.type_list_append mt_append (pv 5) (pa_cons (pe_tup (pa_cons pe_int (pa_cons (pv 6) pa_nil))) pa_nil))))))))))
 (pss_one (ps_ret (pv 5)))))), ?_⟩
  exact (sok_seq (sok_unp (gok_tup (gsok_cons (gok_name 1) (gsok_cons (gok_name 2) (gsok_cons (gok_name 3) (gsok_cons (gok_name 4) gsok_nil)))) (gs_len (gs_len (gs_len (gs_len gs_len0 _) _) _) _)) (eok_var 0))
 (sok_seq (sok_set 5 (eok_lst aok_nil))
 (sok_seq (sok_fo [1, 2, 3, 4, 6] (sok_pre [6] (sok_while (tok_test (eok_op r2_ne (eok_tup (aok_cons (eok_var 1) (aok_cons (eok_var 2) (aok_cons (eok_var 3) (aok_cons (eok_var 4) aok_nil))))) (eok_const T.d_STILL)))
  (sok_fo [6] (sok_fo [6] (sok_if (tok_and (tok_test (eok_op r2_ge (eok_var 1) (eok_var 3))) (tok_test (eok_op r2_ge (eok_var 2) (eok_var 4))))
  (sok_seq (sok_set 6 (eok_fn (aok_cons (eok_var 1) (aok_cons (eok_var 3) (aok_cons (eok_var 2) (aok_cons (eok_var 4) aok_nil)))) (an_cons (an_cons (an_cons (an_cons an_nil))))))
 (sok_seq (sok_set 1 (eok_op r2_sub (eok_var 1) (eok_op r2_mulI (eok_var 6) (eok_var 3))))
 (sok_seq (sok_set 2 (eok_op r2_sub (eok_var 2) (eok_op r2_mulI (eok_var 6) (eok_var 4))))
 (sok_app 5 (eok_tup (aok_cons (eok_int 0) (aok_cons (eok_var 6) aok_nil)))))))
  (sok_seq (sok_set 6 (eok_fn (aok_cons (eok_var 3) (aok_cons (eok_var 1) (aok_cons (eok_var 4) (aok_cons (eok_var 2) aok_nil)))) (an_cons (an_cons (an_cons (an_cons an_nil))))))
 (sok_seq (sok_set 3 (eok_op r2_sub (eok_var 3) (eok_op r2_mulI (eok_var 6) (eok_var 1))))
 (sok_seq (sok_set 4 (eok_op r2_sub (eok_var 4) (eok_op r2_mulI (eok_var 6) (eok_var 2))))
 (sok_app 5 (eok_tup (aok_cons (eok_int 1) (aok_cons (eok_var 6) aok_nil)))))))))))))
 (sok_ret (eok_var 5)))))
end
section
variable {P : Program} {w : World} {K : PySem.W.Frag} {mg : Str → Option Value} {base : Heap}
theorem ok_joined (T : Top K mg) : FnG P w K mg base 1 T.a_joined T.fd_joined ["runs"] (spD K 1 f_joined) := by
  unfold f_joined b_joined
  refine fnG_data T.F_joined sc_joined rfl rfl fun cdv A outer s H hr hG => ?_
  refine ⟨_, (pss_cons (ps_set (i := 1) sc_joined.nd rfl (Or.inl rfl) (pe_lst pa_nil))
 (pss_cons (ps_for PassesOwn.never rfl (pi_seq (pv 0)) (pg_tup rfl (pgs_cons (pg_name (i := 2) sc_joined.nd rfl (Or.inl rfl)) (pgs_cons (pg_name (i := 3) sc_joined.nd rfl (Or.inl rfl)) pgs_nil)))
  (pss_one (ps_if (PW.pt (pw_and (pt_cmpR op_gt (pe_callB call_lenA (by rfl) T.z_len bt_len (pa_cons (pv 1) pa_nil)) pe_int (nomark _)) (pw_and1 (pt_cmpR (op_eqA hr.units) (pe_ix ix_seq (pe_ix ix_seq (pv 1) (pe_un un_neg pe_int) (fun _ _ => rfl)) pe_int (fun _ _ => rfl)) (pv 2) (nomark _)))))
  (pss_one (ps_asg (pe_tup (pa_cons (pv 2) (pa_cons (pe_op op_add4 (pe_ix ix_seq (pe_ix ix_seq (pv 1) (pe_un un_neg pe_int) (fun _ _ => rfl)) pe_int (fun _ _ => rfl)) (pv 3)) pa_nil))) (pg_sub (pv 1) (pe_un un_neg pe_int) set_list)))
  (pss_one (ps_expr (pe_bm PySem.F.plainAttrs_list PySem.F.slot_list_append PySem.F.type_list_append mt_append (pv 1) (pa_cons (pe_tup (pa_cons (pv 2) (pa_cons (pv 3) pa_nil))) pa_nil)))))))
 (pss_one (ps_ret (pv 1))))), ?_⟩
  exact (sok_seq (sok_set 1 (eok_lst aok_nil))
 (sok_seq (sok_fo [2, 3] (sok_pre [2, 3] (sok_for (iok_seq (eok_var 0)) (gok_tup (gsok_cons (gok_name 2) (gsok_cons (gok_name 3) gsok_nil)) (gs_len (gs_len gs_len0 _) _))
  (sok_fo [2, 3] (sok_if (tok_and (tok_test (eok_op r2_gt (eok_callB F3.cr_len (aok_cons (eok_var 1) aok_nil)) (eok_int 0))) (tok_test (eok_op r2_eq (eok_op r2_ix (eok_op r2_ix (eok_var 1) (eok_un r1_neg (eok_int 1))) (eok_int 0)) (eok_var 2))))
  (sok_put 1 (eok_un r1_neg (eok_int 1)) (eok_tup (aok_cons (eok_var 2) (aok_cons (eok_op r2_add (eok_op r2_ix (eok_op r2_ix (eok_var 1) (eok_un r1_neg (eok_int 1))) (eok_int 1)) (eok_var 3)) aok_nil))))
  (sok_app 1 (eok_tup (aok_cons (eok_var 2) (aok_cons (eok_var 3) aok_nil)))))))))
 (sok_ret (eok_var 1))))
end
section
variable {P : Program} {w : World} {K : PySem.W.Frag} {mg : Str → Option Value} {base : Heap}
theorem ok_cycle_of (T : Top K mg) : FnG P w K mg base 4 T.a_cycle_of T.fd_cycle_of ["turn"] (spD K 1 f_cycle_of) := by
  unfold f_cycle_of b_cycle_of
  refine fnG_data T.F_cycle_of sc_cycle_of rfl rfl fun cdv A outer s H hr hG => ?_
  refine ⟨_, (pss_cons (ps_asg (pe_callG (ok_positive_form T) (hr.mono (by omega)) hG (by rfl) T.g_positive_form T.F_positive_form.kp T.B_positive_form (pa_cons (pv 0) pa_nil)) (pg_tup rfl (pgs_cons (pg_name (i := 1) sc_cycle_of.nd rfl (Or.inl rfl)) (pgs_cons (pg_name (i := 2) sc_cycle_of.nd rfl (Or.inl rfl)) pgs_nil))))
 (pss_cons (ps_set (i := 3) sc_cycle_of.nd rfl (Or.inl rfl) (pe_callG (ok_runs_of T) (hr.mono (by omega)) hG (by rfl) T.g_runs_of T.F_runs_of.kp T.B_runs_of (pa_cons (pv 1) pa_nil)))
 (pss_cons (ps_if (pt_cmpR (op_eqA hr.units) (pe_ix ix_seq (pe_ix ix_seq (pv 3) pe_int (fun _ _ => rfl)) pe_int (fun _ _ => rfl)) pe_int (nomark _))
  (pss_cons (ps_set (i := 2) sc_cycle_of.nd rfl (Or.inl rfl) (pe_callG (ok_turn_product T) (hr.mono (by omega)) hG (by rfl) T.g_turn_product T.F_turn_product.kp T.B_turn_product (pa_cons (pe_tup (pa_cons pe_int (pa_cons pe_int (pa_cons (pe_un un_neg (pe_ix ix_seq (pe_ix ix_seq (pv 3) pe_int (fun _ _ => rfl)) pe_int (fun _ _ => rfl))) (pa_cons pe_int pa_nil))))) (pa_cons (pv 2) pa_nil))))
 (pss_one (ps_set (i := 3) sc_cycle_of.nd rfl (Or.inl rfl) (pe_callG (ok_joined T) (hr.mono (by omega)) hG (by rfl) T.g_joined T.F_joined.kp T.B_joined (pa_cons (pe_op op_add4 (pe_slice sl_2 (pv 3) (po_some pe_int) po_none) (pe_slice sl_2 (pv 3) po_none (po_some pe_int))) pa_nil)))))
  (pss_one (ps_if (pt_cmpR (op_eqA hr.units) (pe_ix ix_seq (pe_ix ix_seq (pv 3) (pe_un un_neg pe_int) (fun _ _ => rfl)) pe_int (fun _ _ => rfl)) pe_int (nomark _))
  (pss_cons (ps_set (i := 2) sc_cycle_of.nd rfl (Or.inl rfl) (pe_callG (ok_turn_product T) (hr.mono (by omega)) hG (by rfl) T.g_turn_product T.F_turn_product.kp T.B_turn_product (pa_cons (pe_tup (pa_cons pe_int (pa_cons (pe_ix ix_seq (pe_ix ix_seq (pv 3) (pe_un un_neg pe_int) (fun _ _ => rfl)) pe_int (fun _ _ => rfl)) (pa_cons pe_int (pa_cons pe_int pa_nil))))) (pa_cons (pv 2) pa_nil))))
 (pss_one (ps_set (i := 3) sc_cycle_of.nd rfl (Or.inl rfl) (pe_callG (ok_joined T) (hr.mono (by omega)) hG (by rfl) T.g_joined T.F_joined.kp T.B_joined (pa_cons (pe_op op_add4 (pe_slice sl_2 (pv 3) (po_some (pe_un un_neg pe_int)) po_none) (pe_slice sl_2 (pv 3) po_none (po_some (pe_un un_neg pe_int)))) pa_nil)))))
  pss_nil)))
 (pss_one (ps_ret (pe_tup (pa_cons (pe_lc (own := [("letter", 4), ("times", 5)]) (g := (gTup K 2 (gCons (gName 4) (gCons (gName 5) gNil)))) (tt := tYes) (te := (tVar 5)) rfl sc_cycle_of.nd (pi_seq (pv 3)) (blkOk_by (own := [("letter", 4), ("times", 5)]) (N := N_cycle_of) (sc := defScope s_cycle_of) (by decide +kernel)) (fun _ _ _ _ _ => by exact (pg_tup rfl (pgs_cons (pg_name (i := 4) sc_cycle_of.nd rfl (Or.inl rfl)) (pgs_cons (pg_name (i := 5) sc_cycle_of.nd rfl (Or.inl rfl)) pgs_nil)))) (fun _ _ _ _ _ => by exact pts_nil) (fun _ _ _ _ _ => by exact (pv 5))) (pa_cons (pv 2) pa_nil)))))))), ?_⟩
  exact (sok_seq (sok_unp (gok_tup (gsok_cons (gok_name 1) (gsok_cons (gok_name 2) gsok_nil)) (gs_len (gs_len gs_len0 _) _)) (eok_fn (aok_cons (eok_var 0) aok_nil) (an_cons an_nil)))
 (sok_seq (sok_set 3 (eok_fn (aok_cons (eok_var 1) aok_nil) (an_cons an_nil)))
 (sok_seq (sok_if (tok_test (eok_op r2_eq (eok_op r2_ix (eok_op r2_ix (eok_var 3) (eok_int 0)) (eok_int 0)) (eok_int 1)))
  (sok_seq (sok_set 2 (eok_fn (aok_cons (eok_tup (aok_cons (eok_int 1) (aok_cons (eok_int 0) (aok_cons (eok_un r1_neg (eok_op r2_ix (eok_op r2_ix (eok_var 3) (eok_int 0)) (eok_int 1))) (aok_cons (eok_int 1) aok_nil))))) (aok_cons (eok_var 2) aok_nil)) (an_cons (an_cons an_nil))))
 (sok_set 3 (eok_fn (aok_cons (eok_op r2_add (eok_sl (eok_var 3) (ook_is (eok_int 1)) ook_no) (eok_sl (eok_var 3) ook_no (ook_is (eok_int 1)))) aok_nil) (an_cons an_nil))))
  (sok_if (tok_test (eok_op r2_eq (eok_op r2_ix (eok_op r2_ix (eok_var 3) (eok_un r1_neg (eok_int 1))) (eok_int 0)) (eok_int 0)))
  (sok_seq (sok_set 2 (eok_fn (aok_cons (eok_tup (aok_cons (eok_int 1) (aok_cons (eok_op r2_ix (eok_op r2_ix (eok_var 3) (eok_un r1_neg (eok_int 1))) (eok_int 1)) (aok_cons (eok_int 0) (aok_cons (eok_int 1) aok_nil))))) (aok_cons (eok_var 2) aok_nil)) (an_cons (an_cons an_nil))))
 (sok_set 3 (eok_fn (aok_cons (eok_op r2_add (eok_sl (eok_var 3) (ook_is (eok_un r1_neg (eok_int 1))) ook_no) (eok_sl (eok_var 3) ook_no (ook_is (eok_un r1_neg (eok_int 1))))) aok_nil) (an_cons an_nil))))
  sok_pass))
 (sok_frz [3] (sok_ret (eok_tup (aok_cons (eok_lc (iok_seq (eok_var 3)) (gok_tup (gsok_cons (gok_name 4) (gsok_cons (gok_name 5) gsok_nil)) (gs_len (gs_len gs_len0 _) _)) tok_yes (eok_var 5) (by decide)) (aok_cons (eok_var 2) aok_nil))))))))
end
end Lk75
set_option maxRecDepth 100000
set_option maxHeartbeats 4000000
namespace Lk75
open PySem PySem.Spec PyProof.Rows L2 F3
section
variable {P : Program} {w : World} {K : PySem.W.Frag} {mg : Str → Option Value} {base : Heap}
theorem ok_cycle_turn (T : Top K mg) : FnG P w K mg base 2 T.a_cycle_turn T.fd_cycle_turn ["cycle"] (spD K 1 f_cycle_turn) := by
  unfold f_cycle_turn b_cycle_turn
  refine fnG_data T.F_cycle_turn sc_cycle_turn rfl rfl fun cdv A outer s H hr hG => ?_
  refine ⟨_, (pss_cons (ps_set (i := 1) sc_cycle_turn.nd rfl (Or.inl rfl) (pe_glob (v := .ref T.a_STILL) (by rfl) T.g_STILL rfl))
 (pss_cons (ps_for PassesOwn.never rfl (pi_range1 (by rfl) T.z_range (pa_cons (pe_callB call_lenA (by rfl) T.z_len bt_len (pa_cons (pv 0) pa_nil)) pa_nil)) (pg_name (i := 2) sc_cycle_turn.nd rfl (Or.inl rfl))
  (pss_one (ps_if (pt_cmpR (op_eqA hr.units) (pe_op op_modN (pv 2) pe_int) pe_int (nomark _))
  (pss_one (ps_set (i := 1) sc_cycle_turn.nd rfl (Or.inl rfl) (pe_callG (ok_turn_product T) (hr.mono (by omega)) hG (by rfl) T.g_turn_product T.F_turn_product.kp T.B_turn_product (pa_cons (pv 1) (pa_cons (pe_tup (pa_cons pe_int (pa_cons (pe_ix ix_seq (pv 0) (pv 2) (fun _ _ => rfl)) (pa_cons pe_int (pa_cons pe_int pa_nil))))) pa_nil)))))
  (pss_one (ps_set (i := 1) sc_cycle_turn.nd rfl (Or.inl rfl) (pe_callG (ok_turn_product T) (hr.mono (by omega)) hG (by rfl) T.g_turn_product T.F_turn_product.kp T.B_turn_product (pa_cons (pv 1) (pa_cons (pe_tup (pa_cons pe_int (pa_cons pe_int (pa_cons (pe_ix ix_seq (pv 0) (pv 2) (fun _ _ => rfl)) (pa_cons pe_int pa_nil))))) pa_nil))))))))
 (pss_one (ps_ret (pv 1))))), ?_⟩
  exact (sok_seq (sok_set 1 (eok_const T.d_STILL))
 (sok_seq (sok_fo [2] (sok_pre [2] (sok_for (iok_rng1 (aok_cons (eok_callB F3.cr_len (aok_cons (eok_var 0) aok_nil)) aok_nil)) (gok_name 2)
  (sok_fo [2] (sok_if (tok_test (eok_op r2_eq (eok_op r2_mod (eok_var 2) (eok_int 2)) (eok_int 0)))
  (sok_set 1 (eok_fn (aok_cons (eok_var 1) (aok_cons (eok_tup (aok_cons (eok_int 1) (aok_cons (eok_op r2_ix (eok_var 0) (eok_var 2)) (aok_cons (eok_int 0) (aok_cons (eok_int 1) aok_nil))))) aok_nil)) (an_cons (an_cons an_nil))))
  (sok_set 1 (eok_fn (aok_cons (eok_var 1) (aok_cons (eok_tup (aok_cons (eok_int 1) (aok_cons (eok_int 0) (aok_cons (eok_op r2_ix (eok_var 0) (eok_var 2)) (aok_cons (eok_int 1) aok_nil))))) aok_nil)) (an_cons (an_cons an_nil)))))))))
 (sok_ret (eok_var 1))))
end
section
variable {P : Program} {w : World} {K : PySem.W.Frag} {mg : Str → Option Value} {base : Heap}
theorem ok_turned_on (T : Top K mg) : FnG P w K mg base 1 T.a_turned_on T.fd_turned_on ["cycle", "places"] (spD K 2 f_turned_on) := by
  unfold f_turned_on b_turned_on
  refine fnG_data T.F_turned_on sc_turned_on rfl rfl fun cdv A outer s H hr hG => ?_
  refine ⟨_, (pss_one (ps_ret (pe_op op_add4 (pe_slice sl_2 (pv 0) (po_some (pv 1)) po_none) (pe_slice sl_2 (pv 0) po_none (po_some (pv 1)))))), ?_⟩
  exact (sok_ret (eok_op r2_add (eok_sl (eok_var 0) (ook_is (eok_var 1)) ook_no) (eok_sl (eok_var 0) ook_no (ook_is (eok_var 1)))))
end
section
variable {P : Program} {w : World} {K : PySem.W.Frag} {mg : Str → Option Value} {base : Heap}
theorem ok_meeting (T : Top K mg) : FnG P w K mg base 2 T.a_meeting T.fd_meeting ["first", "second"] (spD K 2 f_meeting) := by
  unfold f_meeting b_meeting
  refine fnG_data T.F_meeting sc_meeting rfl rfl fun cdv A outer s H hr hG => ?_
  refine ⟨_, (pss_cons (ps_for PassesOwn.never rfl (pi_range3 (by rfl) T.z_range (pa_cons pe_int (pa_cons (pe_callB call_lenA (by rfl) T.z_len bt_len (pa_cons (pv 0) pa_nil)) (pa_cons pe_int pa_nil)))) (pg_name (i := 2) sc_meeting.nd rfl (Or.inl rfl))
  (pss_one (ps_if (pt_cmpR (op_eqA hr.units) (pe_callG (ok_turned_on T) (hr.mono (by omega)) hG (by rfl) T.g_turned_on T.F_turned_on.kp T.B_turned_on (pa_cons (pv 0) (pa_cons (pv 2) pa_nil))) (pv 1) (nomark _))
  (pss_one (ps_ret (pv 2)))
  pss_nil)))
 (pss_one (ps_ret pe_non))), ?_⟩
  exact (sok_seq (sok_fo [2] (sok_pre [2] (sok_for (iok_rng3 (aok_cons (eok_int 0) (aok_cons (eok_callB F3.cr_len (aok_cons (eok_var 0) aok_nil)) (aok_cons (eok_int 2) aok_nil)))) (gok_name 2)
  (sok_fo [2] (sok_if (tok_test (eok_op r2_eq (eok_fn (aok_cons (eok_var 0) (aok_cons (eok_var 2) aok_nil)) (an_cons (an_cons an_nil))) (eok_var 1)))
  (sok_ret (eok_var 2))
  sok_pass)))))
 (sok_ret eok_none))
end
section
variable {P : Program} {w : World} {K : PySem.W.Frag} {mg : Str → Option Value} {base : Heap}
theorem ok_way_between (T : Top K mg) : FnG P w K mg base 3 T.a_way_between T.fd_way_between ["left", "right", "places"] (spD K 3 f_way_between) := by
  unfold f_way_between b_way_between
  refine fnG_data T.F_way_between sc_way_between rfl rfl fun cdv A outer s H hr hG => ?_
  refine ⟨_, (pss_cons (ps_set (i := 3) sc_way_between.nd rfl (Or.inl rfl) (pe_callG (ok_turn_back T) (hr.mono (by omega)) hG (by rfl) T.g_turn_back T.F_turn_back.kp T.B_turn_back (pa_cons (pe_callG (ok_cycle_turn T) (hr.mono (by omega)) hG (by rfl) T.g_cycle_turn T.F_cycle_turn.kp T.B_cycle_turn (pa_cons (pe_slice sl_2 (pe_ix ix_seq (pv 0) pe_int (fun _ _ => rfl)) po_none (po_some (pv 2))) pa_nil)) pa_nil)))
 (pss_one (ps_ret (pe_callG (ok_turn_product T) (hr.mono (by omega)) hG (by rfl) T.g_turn_product T.F_turn_product.kp T.B_turn_product (pa_cons (pe_callG (ok_turn_back T) (hr.mono (by omega)) hG (by rfl) T.g_turn_back T.F_turn_back.kp T.B_turn_back (pa_cons (pe_ix ix_seq (pv 1) pe_int (fun _ _ => rfl)) pa_nil)) (pa_cons (pe_callG (ok_turn_product T) (hr.mono (by omega)) hG (by rfl) T.g_turn_product T.F_turn_product.kp T.B_turn_product (pa_cons (pv 3) (pa_cons (pe_ix ix_seq (pv 0) pe_int (fun _ _ => rfl)) pa_nil))) pa_nil)))))), ?_⟩
  exact (sok_seq (sok_set 3 (eok_fn (aok_cons (eok_fn (aok_cons (eok_sl (eok_op r2_ix (eok_var 0) (eok_int 0)) ook_no (ook_is (eok_var 2))) aok_nil) (an_cons an_nil)) aok_nil) (an_cons an_nil)))
 (sok_ret (eok_fn (aok_cons (eok_fn (aok_cons (eok_op r2_ix (eok_var 1) (eok_int 1)) aok_nil) (an_cons an_nil)) (aok_cons (eok_fn (aok_cons (eok_var 3) (aok_cons (eok_op r2_ix (eok_var 0) (eok_int 1)) aok_nil)) (an_cons (an_cons an_nil))) aok_nil)) (an_cons (an_cons an_nil)))))
end
section
variable {P : Program} {w : World} {K : PySem.W.Frag} {mg : Str → Option Value} {base : Heap}
theorem ok_leads (T : Top K mg) : FnG P w K mg base 2 T.a_leads T.fd_leads ["first", "second", "h"] (spD K 3 f_leads) := by
  unfold f_leads b_leads
  refine fnG_data T.F_leads sc_leads rfl rfl fun cdv A outer s H hr hG => ?_
  refine ⟨_, (pss_one (ps_ret (pe_cmpR (op_eqA hr.units) (pe_callG (ok_turn_product T) (hr.mono (by omega)) hG (by rfl) T.g_turn_product T.F_turn_product.kp T.B_turn_product (pa_cons (pv 2) (pa_cons (pv 0) pa_nil))) (pe_callG (ok_turn_product T) (hr.mono (by omega)) hG (by rfl) T.g_turn_product T.F_turn_product.kp T.B_turn_product (pa_cons (pv 1) (pa_cons (pv 2) pa_nil))) (nomark _)))), ?_⟩
  exact (sok_ret (eok_op r2_eq (eok_fn (aok_cons (eok_var 2) (aok_cons (eok_var 0) aok_nil)) (an_cons (an_cons an_nil))) (eok_fn (aok_cons (eok_var 1) (aok_cons (eok_var 2) aok_nil)) (an_cons (an_cons an_nil)))))
end
section
variable {P : Program} {w : World} {K : PySem.W.Frag} {mg : Str → Option Value} {base : Heap}
theorem ok_kind_paper (T : Top K mg) : FnG P w K mg base 5 T.a_kind_paper T.fd_kind_paper ["first", "second"] (spD K 2 f_kind_paper) := by
  unfold f_kind_paper b_kind_paper
  refine fnG_data T.F_kind_paper sc_kind_paper rfl rfl fun cdv A outer s H hr hG => ?_
  refine ⟨_, (pss_cons (ps_set (i := 2) sc_kind_paper.nd rfl (Or.inl rfl) (pe_callG (ok_cycle_of T) (hr.mono (by omega)) hG (by rfl) T.g_cycle_of T.F_cycle_of.kp T.B_cycle_of (pa_cons (pv 0) pa_nil)))
 (pss_cons (ps_set (i := 3) sc_kind_paper.nd rfl (Or.inl rfl) (pe_callG (ok_cycle_of T) (hr.mono (by omega)) hG (by rfl) T.g_cycle_of T.F_cycle_of.kp T.B_cycle_of (pa_cons (pv 1) pa_nil)))
 (pss_cons (ps_set (i := 4) sc_kind_paper.nd rfl (Or.inl rfl) (pe_callG (ok_meeting T) (hr.mono (by omega)) hG (by rfl) T.g_meeting T.F_meeting.kp T.B_meeting (pa_cons (pe_ix ix_seq (pv 2) pe_int (fun _ _ => rfl)) (pa_cons (pe_ix ix_seq (pv 3) pe_int (fun _ _ => rfl)) pa_nil))))
 (pss_cons (ps_if (pt_cmpR op_isA (pv 4) pe_non (nomark _))
  (pss_one (ps_ret (pe_tup (pa_cons pe_str (pa_cons (pv 2) (pa_cons (pv 3) pa_nil))))))
  pss_nil)
 (pss_one (ps_ret (pe_tup (pa_cons pe_str (pa_cons (pe_callG (ok_way_between T) (hr.mono (by omega)) hG (by rfl) T.g_way_between T.F_way_between.kp T.B_way_between (pa_cons (pv 2) (pa_cons (pv 3) (pa_cons (pv 4) pa_nil)))) pa_nil))))))))), ?_⟩
  exact (sok_seq (sok_set 2 (eok_fn (aok_cons (eok_var 0) aok_nil) (an_cons an_nil)))
 (sok_seq (sok_set 3 (eok_fn (aok_cons (eok_var 1) aok_nil) (an_cons an_nil)))
 (sok_seq (sok_set 4 (eok_fn (aok_cons (eok_op r2_ix (eok_var 2) (eok_int 0)) (aok_cons (eok_op r2_ix (eok_var 3) (eok_int 0)) aok_nil)) (an_cons (an_cons an_nil))))
 (sok_seq (sok_if (tok_test (eok_op r2_is (eok_var 4) eok_none))
  (sok_ret (eok_tup (aok_cons (eok_str "two") (aok_cons (eok_var 2) (aok_cons (eok_var 3) aok_nil)))))
  sok_pass)
 (sok_ret (eok_tup (aok_cons (eok_str "one") (aok_cons (eok_fn (aok_cons (eok_var 2) (aok_cons (eok_var 3) (aok_cons (eok_var 4) aok_nil))) (an_cons (an_cons (an_cons an_nil)))) aok_nil))))))))
end
section
variable {P : Program} {w : World} {K : PySem.W.Frag} {mg : Str → Option Value} {base : Heap}
theorem ok_shows_one (T : Top K mg) : FnG P w K mg base 4 T.a_shows_one T.fd_shows_one ["first", "second", "paper"] (spD K 3 f_shows_one) := by
  unfold f_shows_one b_shows_one
  refine fnG_data T.F_shows_one sc_shows_one rfl rfl fun cdv A outer s H hr hG => ?_
  refine ⟨_, (pss_cons (ps_if (PW.pt (pw_or (pt_not (pt_val (pe_callG (ok_is_tagged T) (hr.mono (by omega)) hG (by rfl) T.g_is_tagged T.F_is_tagged.kp T.B_is_tagged (pa_cons (pv 2) (pa_cons pe_str (pa_cons pe_int pa_nil)))))) (pw_or1 (pt_not (pt_val (pe_callG (ok_is_turn T) (hr.mono (by omega)) hG (by rfl) T.g_is_turn T.F_is_turn.kp T.B_is_turn (pa_cons (pe_ix ix_seq (pv 2) pe_int (fun _ _ => rfl)) pa_nil)))))))
  (pss_one (ps_ret pe_bl))
  pss_nil)
 (pss_one (ps_ret (pe_callG (ok_leads T) (hr.mono (by omega)) hG (by rfl) T.g_leads T.F_leads.kp T.B_leads (pa_cons (pv 0) (pa_cons (pv 1) (pa_cons (pe_ix ix_seq (pv 2) pe_int (fun _ _ => rfl)) pa_nil))))))), ?_⟩
  exact (sok_seq (sok_if (tok_or (tok_not (tok_val (eok_fn (aok_cons (eok_var 2) (aok_cons (eok_str "one") (aok_cons (eok_int 2) aok_nil))) (an_cons (an_cons (an_cons an_nil)))))) (tok_not (tok_val (eok_fn (aok_cons (eok_op r2_ix (eok_var 2) (eok_int 1)) aok_nil) (an_cons an_nil)))))
  (sok_ret (eok_bool false))
  sok_pass)
 (sok_ret (eok_fn (aok_cons (eok_var 0) (aok_cons (eok_var 1) (aok_cons (eok_op r2_ix (eok_var 2) (eok_int 1)) aok_nil))) (an_cons (an_cons (an_cons an_nil))))))
end
end Lk75
set_option maxRecDepth 100000
set_option maxHeartbeats 4000000
namespace Lk75
open PySem PySem.Spec PyProof.Rows L2 F3
section
variable {P : Program} {w : World} {K : PySem.W.Frag} {mg : Str → Option Value} {base : Heap}
theorem ok__law_draws (T : Top K mg) : FnG P w K mg base 1 T.a__law_draws T.fd__law_draws ["script", "many"] (spD K 2 f__law_draws) := by
  unfold f__law_draws b__law_draws
  refine fnG_data T.F__law_draws sc__law_draws rfl rfl fun cdv A outer s H hr hG => ?_
  refine ⟨_, (pss_cons (ps_set (i := 2) sc__law_draws.nd rfl (Or.inl rfl) (pe_lst pa_nil))
 (pss_cons (ps_for PassesOwn.never rfl (pi_seq (pe_slice sl_2 (pv 0) po_none (po_some pe_int))) (pg_name (i := 3) sc__law_draws.nd rfl (Or.inl rfl))
  (pss_cons (ps_set (i := 4) sc__law_draws.nd rfl (Or.inl rfl) (pe_callB call_abs (by rfl) T.z_abs bt_abs (pa_cons (pe_callTy call_int1 (by rfl) T.z_int bt_int (pa_cons (pv 3) pa_nil)) pa_nil)))
 (pss_one (ps_if (pt_cmpR op_ge (pv 4) (pe_op op_pow pe_int pe_int) (nomark _))
  (pss_one (ps_for PassesOwn.never rfl (pi_range1 (by rfl) T.z_range (pa_cons pe_int pa_nil)) (pg_name (i := 5) sc__law_draws.nd rfl (Or.inl rfl))
  (pss_one (ps_if (pt_cmpR op_gt (pv 4) pe_int (nomark _))
  (pss_cons (ps_expr (pe_bm PySem.F.plainAttrs_list PySem.F.slot_list_append PySem.F.type_list_append mt_append (pv 2) (pa_cons (pe_op op_modN (pv 4) pe_int) pa_nil)))
 (pss_one (ps_set (i := 4) sc__law_draws.nd rfl (Or.inl rfl) (pe_op op_fdivA (pv 4) pe_int))))
  pss_nil))))
  (pss_cons (ps_set (i := 6) sc__law_draws.nd rfl (Or.inl rfl) (pe_op op_modN (pe_op op_add4 (pe_op op_add4 (pe_op op_mulW (pv 4) pe_int) (pe_op op_mulW pe_int (pe_callB call_lenA (by rfl) T.z_len bt_len (pa_cons (pv 2) pa_nil)))) pe_int) pe_int))
 (pss_one (ps_for PassesOwn.never rfl (pi_range1 (by rfl) T.z_range (pa_cons pe_int pa_nil)) (pg_name (i := 5) sc__law_draws.nd rfl (Or.inl rfl))
  (pss_cons (ps_set (i := 6) sc__law_draws.nd rfl (Or.inl rfl) (pe_op op_modN (pe_op op_add4 (pe_op op_add4 (pe_op op_add4 (pe_op op_mulW (pv 6) pe_int) (pe_op op_fdivA (pv 6) pe_int)) (pe_op op_mulW pe_int (pv 5))) pe_int) pe_int))
 (pss_one (ps_expr (pe_bm PySem.F.plainAttrs_list PySem.F.slot_list_append PySem.F.type_list_append mt_append (pv 2) (pa_cons (pe_op op_modN (pe_op op_fdivA (pv 6) pe_int) pe_int) pa_nil))))))))))))
 (pss_cons (ps_for PassesOwn.never rfl (pi_range1 (by rfl) T.z_range (pa_cons (pv 1) pa_nil)) (pg_name (i := 5) sc__law_draws.nd rfl (Or.inl rfl))
  (pss_one (ps_if (pt_cmpR op_lt (pe_callB call_lenA (by rfl) T.z_len bt_len (pa_cons (pv 2) pa_nil)) (pv 1) (nomark _))
  (pss_cons (ps_set (i := 7) sc__law_draws.nd rfl (Or.inl rfl) pe_int)
 (pss_cons (ps_if (pt_cmpR op_gt (pe_callB call_lenA (by rfl) T.z_len bt_len (pa_cons (pv 2) pa_nil)) pe_int (nomark _))
  (pss_one (ps_set (i := 7) sc__law_draws.nd rfl (Or.inl rfl) (pe_ix ix_seq (pv 2) (pe_op op_modN (pv 5) (pe_callB call_lenA (by rfl) T.z_len bt_len (pa_cons (pv 2) pa_nil))) (fun _ _ => rfl))))
  pss_nil)
 (pss_one (ps_expr (pe_bm PySem.F.plainAttrs_list PySem.F.slot_list_append PySem.F.type_list_append mt_append (pv 2) (pa_cons (pe_op op_modN (pe_op op_add4 (pe_op op_add4 (pe_op op_mulW (pv 7) pe_int) (pe_op op_mulW pe_int (pe_callB call_lenA (by rfl) T.z_len bt_len (pa_cons (pv 2) pa_nil)))) pe_int) pe_int) pa_nil))))))
  pss_nil)))
 (pss_one (ps_ret (pe_slice sl_2 (pv 2) po_none (po_some (pv 1)))))))), ?_⟩
  exact (sok_seq (sok_set 2 (eok_lst aok_nil))
 (sok_seq (sok_fo [3, 4, 5, 6] (sok_pre [3, 4, 5, 6] (sok_for (iok_seq (eok_sl (eok_var 0) ook_no (ook_is (eok_int 63)))) (gok_name 3)
  (sok_fo [3, 4, 5, 6] (sok_seq (sok_set 4 (eok_callB F3.cr_abs (aok_cons (eok_callB cr_int (aok_cons (eok_var 3) aok_nil)) aok_nil)))
 (sok_fo [4, 5, 6] (sok_if (tok_test (eok_op r2_ge (eok_var 4) (eok_op r2_pow (eok_int 10) (eok_int 18))))
  (sok_fo [4, 5] (sok_pre [5] (sok_for (iok_rng1 (aok_cons (eok_int 60) aok_nil)) (gok_name 5)
  (sok_fo [5] (sok_if (tok_test (eok_op r2_gt (eok_var 4) (eok_int 0)))
  (sok_seq (sok_app 2 (eok_op r2_mod (eok_var 4) (eok_int 1000003)))
 (sok_set 4 (eok_op r2_fdiv (eok_var 4) (eok_int 1000003))))
  sok_pass)))))
  (sok_seq (sok_set 6 (eok_op r2_mod (eok_op r2_add (eok_op r2_add (eok_op r2_mulI (eok_var 4) (eok_int 48271)) (eok_op r2_mulI (eok_int 7) (eok_callB F3.cr_len (aok_cons (eok_var 2) aok_nil)))) (eok_int 11)) (eok_int 2147483647)))
 (sok_fo [5, 6] (sok_pre [5] (sok_for (iok_rng1 (aok_cons (eok_int 4) aok_nil)) (gok_name 5)
  (sok_fo [5] (sok_seq (sok_set 6 (eok_op r2_mod (eok_op r2_add (eok_op r2_add (eok_op r2_add (eok_op r2_mulI (eok_var 6) (eok_int 69621)) (eok_op r2_fdiv (eok_var 6) (eok_int 65536))) (eok_op r2_mulI (eok_int 13) (eok_var 5))) (eok_int 5)) (eok_int 2147483629)))
 (sok_app 2 (eok_op r2_mod (eok_op r2_fdiv (eok_var 6) (eok_int 8)) (eok_int 1000003))))))))))))))))
 (sok_seq (sok_fo [5, 7] (sok_pre [5, 7] (sok_for (iok_rng1 (aok_cons (eok_var 1) aok_nil)) (gok_name 5)
  (sok_fo [5, 7] (sok_fo [7] (sok_if (tok_test (eok_op r2_lt (eok_callB F3.cr_len (aok_cons (eok_var 2) aok_nil)) (eok_var 1)))
  (sok_seq (sok_set 7 (eok_int 0))
 (sok_seq (sok_if (tok_test (eok_op r2_gt (eok_callB F3.cr_len (aok_cons (eok_var 2) aok_nil)) (eok_int 0)))
  (sok_set 7 (eok_op r2_ix (eok_var 2) (eok_op r2_mod (eok_var 5) (eok_callB F3.cr_len (aok_cons (eok_var 2) aok_nil)))))
  sok_pass)
 (sok_app 2 (eok_op r2_mod (eok_op r2_add (eok_op r2_add (eok_op r2_mulI (eok_var 7) (eok_int 16807)) (eok_op r2_mulI (eok_int 31) (eok_callB F3.cr_len (aok_cons (eok_var 2) aok_nil)))) (eok_int 17)) (eok_int 1000003)))))
  sok_pass))))))
 (sok_ret (eok_sl (eok_var 2) ook_no (ook_is (eok_var 1)))))))
end
section
variable {P : Program} {w : World} {K : PySem.W.Frag} {mg : Str → Option Value} {base : Heap}
theorem ok__law_is_number (T : Top K mg) : FnG P w K mg base 1 T.a__law_is_number T.fd__law_is_number ["value"] (spD K 1 f__law_is_number) := by
  unfold f__law_is_number b__law_is_number
  refine fnG_data T.F__law_is_number sc__law_is_number rfl rfl fun cdv A outer s H hr hG => ?_
  refine ⟨_, (pss_one (ps_ret (pe_and (pe_callB call_isi (by rfl) T.z_isinstance bt_isinstance (pa_cons (pv 0) (pa_cons (pe_bltn (v := .ty "int") (by rfl) T.z_int bt_int rfl) pa_nil))) (pe_one (pe_not (pe_callB call_isi (by rfl) T.z_isinstance bt_isinstance (pa_cons (pv 0) (pa_cons (pe_bltn (v := .ty "bool") (by rfl) T.z_bool bt_bool rfl) pa_nil)))))))), ?_⟩
  exact (sok_ret (eok_and (eok_isi .int (eok_var 0)) (eok_not (eok_isi .bool (eok_var 0)))))
end
section
variable {P : Program} {w : World} {K : PySem.W.Frag} {mg : Str → Option Value} {base : Heap}
theorem ok__law_is_tuple (T : Top K mg) : FnG P w K mg base 2 T.a__law_is_tuple T.fd__law_is_tuple ["value", "width"] (spD K 2 f__law_is_tuple) := by
  unfold f__law_is_tuple b__law_is_tuple
  refine fnG_data T.F__law_is_tuple sc__law_is_tuple rfl rfl fun cdv A outer s H hr hG => ?_
  refine ⟨_, (pss_cons (ps_if (PW.pt (pw_or (pt_not (pt_val (pe_callB call_isi (by rfl) T.z_isinstance bt_isinstance (pa_cons (pv 0) (pa_cons (pe_bltn (v := .ty "tuple") (by rfl) T.z_tuple bt_tuple rfl) pa_nil))))) (pw_or1 (pt_cmpR (op_neA hr.units) (pe_callB call_lenA (by rfl) T.z_len bt_len (pa_cons (pv 0) pa_nil)) (pv 1) (nomark _)))))
  (pss_one (ps_ret pe_bl))
  pss_nil)
 (pss_cons (ps_for PassesOwn.never rfl (pi_seq (pv 0)) (pg_name (i := 2) sc__law_is_tuple.nd rfl (Or.inl rfl))
  (pss_one (ps_if (pt_not (pt_val (pe_callG (ok__law_is_number T) (hr.mono (by omega)) hG (by rfl) T.g__law_is_number T.F__law_is_number.kp T.B__law_is_number (pa_cons (pv 2) pa_nil))))
  (pss_one (ps_ret pe_bl))
  pss_nil)))
 (pss_one (ps_ret pe_bl)))), ?_⟩
  exact (sok_seq (sok_if (tok_or (tok_not (tok_val (eok_isi .tuple (eok_var 0)))) (tok_test (eok_op r2_ne (eok_callB F3.cr_len (aok_cons (eok_var 0) aok_nil)) (eok_var 1))))
  (sok_ret (eok_bool false))
  sok_pass)
 (sok_seq (sok_fo [2] (sok_pre [2] (sok_for (iok_seq (eok_var 0)) (gok_name 2)
  (sok_fo [2] (sok_if (tok_not (tok_val (eok_fn (aok_cons (eok_var 2) aok_nil) (an_cons an_nil))))
  (sok_ret (eok_bool false))
  sok_pass)))))
 (sok_ret (eok_bool true))))
end
section
variable {P : Program} {w : World} {K : PySem.W.Frag} {mg : Str → Option Value} {base : Heap}
theorem ok__law_is_numbers (T : Top K mg) : FnG P w K mg base 2 T.a__law_is_numbers T.fd__law_is_numbers ["value"] (spD K 1 f__law_is_numbers) := by
  unfold f__law_is_numbers b__law_is_numbers
  refine fnG_data T.F__law_is_numbers sc__law_is_numbers rfl rfl fun cdv A outer s H hr hG => ?_
  refine ⟨_, (pss_cons (ps_if (pt_not (pt_val (pe_callB call_isi (by rfl) T.z_isinstance bt_isinstance (pa_cons (pv 0) (pa_cons (pe_bltn (v := .ty "list") (by rfl) T.z_list bt_list rfl) pa_nil)))))
  (pss_one (ps_ret pe_bl))
  pss_nil)
 (pss_cons (ps_for PassesOwn.never rfl (pi_seq (pv 0)) (pg_name (i := 1) sc__law_is_numbers.nd rfl (Or.inl rfl))
  (pss_one (ps_if (pt_not (pt_val (pe_callG (ok__law_is_number T) (hr.mono (by omega)) hG (by rfl) T.g__law_is_number T.F__law_is_number.kp T.B__law_is_number (pa_cons (pv 1) pa_nil))))
  (pss_one (ps_ret pe_bl))
  pss_nil)))
 (pss_one (ps_ret pe_bl)))), ?_⟩
  exact (sok_seq (sok_if (tok_not (tok_val (eok_isi .list (eok_var 0))))
  (sok_ret (eok_bool false))
  sok_pass)
 (sok_seq (sok_fo [1] (sok_pre [1] (sok_for (iok_seq (eok_var 0)) (gok_name 1)
  (sok_fo [1] (sok_if (tok_not (tok_val (eok_fn (aok_cons (eok_var 1) aok_nil) (an_cons an_nil))))
  (sok_ret (eok_bool false))
  sok_pass)))))
 (sok_ret (eok_bool true))))
end
section
variable {P : Program} {w : World} {K : PySem.W.Frag} {mg : Str → Option Value} {base : Heap}
theorem ok__law_same (T : Top K mg) : ∀ n : Nat, FnG P w K mg base (1 + n) T.a__law_same T.fd__law_same ["told", "due"] (spD K 2 (f__law_same n))
  | 0 => ⟨fun vs H Q E h => h.1, fun A o s H a us vs Q hr hg he hb hv hs => by
    obtain ⟨_, ds, r, Z, _, _, z, _⟩ := hs
    cases z⟩
  | n + 1 => fnG_data T.F__law_same sc__law_same rfl rfl fun cdv A outer s H hr hG => by
    have ih := ok__law_same T n
    have hr : Room (1 + n) _ := hr
    have hrr := hr
    refine ⟨_, (pss_cons (ps_if (pt_val (pe_callB call_isi (by rfl) T.z_isinstance bt_isinstance (pa_cons (pv 1) (pa_cons (pe_bltn (v := .ty "bool") (by rfl) T.z_bool bt_bool rfl) pa_nil))))
  (pss_one (ps_ret (pe_and (pe_callB call_isi (by rfl) T.z_isinstance bt_isinstance (pa_cons (pv 0) (pa_cons (pe_bltn (v := .ty "bool") (by rfl) T.z_bool bt_bool rfl) pa_nil))) (pe_one (pe_cmpR (op_eqA hr.units) (pv 0) (pv 1) (nomark _))))))
  pss_nil)
 (pss_cons (ps_if (pt_val (pe_callB call_isi (by rfl) T.z_isinstance bt_isinstance (pa_cons (pv 1) (pa_cons (pe_bltn (v := .ty "int") (by rfl) T.z_int bt_int rfl) pa_nil))))
  (pss_one (ps_ret (pe_and (pe_callG (ok__law_is_number T) (hr.mono (by omega)) hG (by rfl) T.g__law_is_number T.F__law_is_number.kp T.B__law_is_number (pa_cons (pv 0) pa_nil)) (pe_one (pe_cmpR (op_eqA hr.units) (pv 0) (pv 1) (nomark _))))))
  pss_nil)
 (pss_cons (ps_if (pt_val (pe_callB call_isi (by rfl) T.z_isinstance bt_isinstance (pa_cons (pv 1) (pa_cons (pe_bltn (v := .ty "str") (by rfl) T.z_str bt_str rfl) pa_nil))))
  (pss_one (ps_ret (pe_and (pe_callB call_isi (by rfl) T.z_isinstance bt_isinstance (pa_cons (pv 0) (pa_cons (pe_bltn (v := .ty "str") (by rfl) T.z_str bt_str rfl) pa_nil))) (pe_one (pe_cmpR (op_eqA hr.units) (pv 0) (pv 1) (nomark _))))))
  pss_nil)
 (pss_cons (ps_if (pt_cmpR op_isA (pv 1) pe_non (nomark _))
  (pss_one (ps_ret (pe_cmpR op_isA (pv 0) pe_non (nomark _))))
  pss_nil)
 (pss_cons (ps_if (PW.pt (pw_and (pt_val (pe_callB call_isi (by rfl) T.z_isinstance bt_isinstance (pa_cons (pv 1) (pa_cons (pe_bltn (v := .ty "tuple") (by rfl) T.z_tuple bt_tuple rfl) pa_nil)))) (pw_and1 (pt_not (pt_val (pe_callB call_isi (by rfl) T.z_isinstance bt_isinstance (pa_cons (pv 0) (pa_cons (pe_bltn (v := .ty "tuple") (by rfl) T.z_tuple bt_tuple rfl) pa_nil))))))))
  (pss_one (ps_ret pe_bl))
  pss_nil)
 (pss_cons (ps_if (PW.pt (pw_and (pt_val (pe_callB call_isi (by rfl) T.z_isinstance bt_isinstance (pa_cons (pv 1) (pa_cons (pe_bltn (v := .ty "list") (by rfl) T.z_list bt_list rfl) pa_nil)))) (pw_and1 (pt_not (pt_val (pe_callB call_isi (by rfl) T.z_isinstance bt_isinstance (pa_cons (pv 0) (pa_cons (pe_bltn (v := .ty "list") (by rfl) T.z_list bt_list rfl) pa_nil))))))))
  (pss_one (ps_ret pe_bl))
  pss_nil)
 (pss_cons (ps_if (pt_cmpR (op_neA hr.units) (pe_callB call_lenA (by rfl) T.z_len bt_len (pa_cons (pv 0) pa_nil)) (pe_callB call_lenA (by rfl) T.z_len bt_len (pa_cons (pv 1) pa_nil)) (nomark _))
  (pss_one (ps_ret pe_bl))
  pss_nil)
 (pss_cons (ps_for PassesOwn.never rfl (pi_range1 (by rfl) T.z_range (pa_cons (pe_callB call_lenA (by rfl) T.z_len bt_len (pa_cons (pv 1) pa_nil)) pa_nil)) (pg_name (i := 2) sc__law_same.nd rfl (Or.inl rfl))
  (pss_one (ps_if (pt_not (pt_val (pe_callG ih hrr hG (by rfl) T.g__law_same T.F__law_same.kp T.B__law_same (pa_cons (pe_ix ix_seq (pv 0) (pv 2) (fun _ _ => rfl)) (pa_cons (pe_ix ix_seq (pv 1) (pv 2) (fun _ _ => rfl)) pa_nil)))))
  (pss_one (ps_ret pe_bl))
  pss_nil)))
 (pss_one (ps_ret pe_bl)))))))))), ?_⟩
    exact (sok_seq (sok_if (tok_val (eok_isi .bool (eok_var 1)))
  (sok_ret (eok_and (eok_isi .bool (eok_var 0)) (eok_op r2_eq (eok_var 0) (eok_var 1))))
  sok_pass)
 (sok_seq (sok_if (tok_val (eok_isi .int (eok_var 1)))
  (sok_ret (eok_and (eok_fn (aok_cons (eok_var 0) aok_nil) (an_cons an_nil)) (eok_op r2_eq (eok_var 0) (eok_var 1))))
  sok_pass)
 (sok_seq (sok_if (tok_val (eok_isi .str (eok_var 1)))
  (sok_ret (eok_and (eok_isi .str (eok_var 0)) (eok_op r2_eq (eok_var 0) (eok_var 1))))
  sok_pass)
 (sok_seq (sok_if (tok_test (eok_op r2_is (eok_var 1) eok_none))
  (sok_ret (eok_op r2_is (eok_var 0) eok_none))
  sok_pass)
 (sok_seq (sok_if (tok_and (tok_val (eok_isi .tuple (eok_var 1))) (tok_not (tok_val (eok_isi .tuple (eok_var 0)))))
  (sok_ret (eok_bool false))
  sok_pass)
 (sok_seq (sok_if (tok_and (tok_val (eok_isi .list (eok_var 1))) (tok_not (tok_val (eok_isi .list (eok_var 0)))))
  (sok_ret (eok_bool false))
  sok_pass)
 (sok_seq (sok_if (tok_test (eok_op r2_ne (eok_callB F3.cr_len (aok_cons (eok_var 0) aok_nil)) (eok_callB F3.cr_len (aok_cons (eok_var 1) aok_nil))))
  (sok_ret (eok_bool false))
  sok_pass)
 (sok_seq (sok_fo [2] (sok_pre [2] (sok_for (iok_rng1 (aok_cons (eok_callB F3.cr_len (aok_cons (eok_var 1) aok_nil)) aok_nil)) (gok_name 2)
  (sok_fo [2] (sok_if (tok_not (tok_val (eok_fn (aok_cons (eok_op r2_ix (eok_var 0) (eok_var 2)) (aok_cons (eok_op r2_ix (eok_var 1) (eok_var 2)) aok_nil)) (an_cons (an_cons an_nil)))))
  (sok_ret (eok_bool false))
  sok_pass)))))
 (sok_ret (eok_bool true))))))))))
end
section
variable {P : Program} {w : World} {K : PySem.W.Frag} {mg : Str → Option Value} {base : Heap}
theorem ok__law_times (T : Top K mg) : FnG P w K mg base 1 T.a__law_times T.fd__law_times ["first", "second"] (spD K 2 f__law_times) := by
  unfold f__law_times b__law_times
  refine fnG_data T.F__law_times sc__law_times rfl rfl fun cdv A outer s H hr hG => ?_
  refine ⟨_, (pss_cons (ps_asg (pv 0) (pg_tup rfl (pgs_cons (pg_name (i := 2) sc__law_times.nd rfl (Or.inl rfl)) (pgs_cons (pg_name (i := 3) sc__law_times.nd rfl (Or.inl rfl)) (pgs_cons (pg_name (i := 4) sc__law_times.nd rfl (Or.inl rfl)) (pgs_cons (pg_name (i := 5) sc__law_times.nd rfl (Or.inl rfl)) pgs_nil))))))
 (pss_cons (ps_asg (pv 1) (pg_tup rfl (pgs_cons (pg_name (i := 6) sc__law_times.nd rfl (Or.inl rfl)) (pgs_cons (pg_name (i := 7) sc__law_times.nd rfl (Or.inl rfl)) (pgs_cons (pg_name (i := 8) sc__law_times.nd rfl (Or.inl rfl)) (pgs_cons (pg_name (i := 9) sc__law_times.nd rfl (Or.inl rfl)) pgs_nil))))))
 (pss_one (ps_ret (pe_tup (pa_cons (pe_op op_add4 (pe_op op_mulW (pv 2) (pv 6)) (pe_op op_mulW (pv 3) (pv 8))) (pa_cons (pe_op op_add4 (pe_op op_mulW (pv 2) (pv 7)) (pe_op op_mulW (pv 3) (pv 9))) (pa_cons (pe_op op_add4 (pe_op op_mulW (pv 4) (pv 6)) (pe_op op_mulW (pv 5) (pv 8))) (pa_cons (pe_op op_add4 (pe_op op_mulW (pv 4) (pv 7)) (pe_op op_mulW (pv 5) (pv 9))) pa_nil))))))))), ?_⟩
  exact (sok_seq (sok_unp (gok_tup (gsok_cons (gok_name 2) (gsok_cons (gok_name 3) (gsok_cons (gok_name 4) (gsok_cons (gok_name 5) gsok_nil)))) (gs_len (gs_len (gs_len (gs_len gs_len0 _) _) _) _)) (eok_var 0))
 (sok_seq (sok_unp (gok_tup (gsok_cons (gok_name 6) (gsok_cons (gok_name 7) (gsok_cons (gok_name 8) (gsok_cons (gok_name 9) gsok_nil)))) (gs_len (gs_len (gs_len (gs_len gs_len0 _) _) _) _)) (eok_var 1))
 (sok_ret (eok_tup (aok_cons (eok_op r2_add (eok_op r2_mulI (eok_var 2) (eok_var 6)) (eok_op r2_mulI (eok_var 3) (eok_var 8))) (aok_cons (eok_op r2_add (eok_op r2_mulI (eok_var 2) (eok_var 7)) (eok_op r2_mulI (eok_var 3) (eok_var 9))) (aok_cons (eok_op r2_add (eok_op r2_mulI (eok_var 4) (eok_var 6)) (eok_op r2_mulI (eok_var 5) (eok_var 8))) (aok_cons (eok_op r2_add (eok_op r2_mulI (eok_var 4) (eok_var 7)) (eok_op r2_mulI (eok_var 5) (eok_var 9))) aok_nil))))))))
end
section
variable {P : Program} {w : World} {K : PySem.W.Frag} {mg : Str → Option Value} {base : Heap}
theorem ok__law_is_turn (T : Top K mg) : FnG P w K mg base 3 T.a__law_is_turn T.fd__law_is_turn ["value"] (spD K 1 f__law_is_turn) := by
  unfold f__law_is_turn b__law_is_turn
  refine fnG_data T.F__law_is_turn sc__law_is_turn rfl rfl fun cdv A outer s H hr hG => ?_
  refine ⟨_, (pss_one (ps_ret (pe_and (pe_callG (ok__law_is_tuple T) (hr.mono (by omega)) hG (by rfl) T.g__law_is_tuple T.F__law_is_tuple.kp T.B__law_is_tuple (pa_cons (pv 0) (pa_cons pe_int pa_nil))) (pe_one (pe_cmpR (op_eqA hr.units) (pe_op op_sub (pe_op op_mulW (pe_ix ix_seq (pv 0) pe_int (fun _ _ => rfl)) (pe_ix ix_seq (pv 0) pe_int (fun _ _ => rfl))) (pe_op op_mulW (pe_ix ix_seq (pv 0) pe_int (fun _ _ => rfl)) (pe_ix ix_seq (pv 0) pe_int (fun _ _ => rfl)))) pe_int (nomark _)))))), ?_⟩
  exact (sok_ret (eok_and (eok_fn (aok_cons (eok_var 0) (aok_cons (eok_int 4) aok_nil)) (an_cons (an_cons an_nil))) (eok_op r2_eq (eok_op r2_sub (eok_op r2_mulI (eok_op r2_ix (eok_var 0) (eok_int 0)) (eok_op r2_ix (eok_var 0) (eok_int 3))) (eok_op r2_mulI (eok_op r2_ix (eok_var 0) (eok_int 1)) (eok_op r2_ix (eok_var 0) (eok_int 2)))) (eok_int 1))))
end
end Lk75
set_option maxRecDepth 100000
set_option maxHeartbeats 4000000
namespace Lk75
open PySem PySem.Spec PyProof.Rows L2 F3
section
variable {P : Program} {w : World} {K : PySem.W.Frag} {mg : Str → Option Value} {base : Heap}
theorem ok__law_cycle_turn (T : Top K mg) : FnG P w K mg base 1 T.a__law_cycle_turn T.fd__law_cycle_turn ["cycle"] (spD K 1 f__law_cycle_turn) := by
  unfold f__law_cycle_turn b__law_cycle_turn
  refine fnG_data T.F__law_cycle_turn sc__law_cycle_turn rfl rfl fun cdv A outer s H hr hG => ?_
  refine ⟨_, (pss_cons (ps_asg (pe_tup (pa_cons pe_int (pa_cons pe_int (pa_cons pe_int (pa_cons pe_int pa_nil))))) (pg_tup rfl (pgs_cons (pg_name (i := 1) sc__law_cycle_turn.nd rfl (Or.inl rfl)) (pgs_cons (pg_name (i := 2) sc__law_cycle_turn.nd rfl (Or.inl rfl)) (pgs_cons (pg_name (i := 3) sc__law_cycle_turn.nd rfl (Or.inl rfl)) (pgs_cons (pg_name (i := 4) sc__law_cycle_turn.nd rfl (Or.inl rfl)) pgs_nil))))))
 (pss_cons (ps_for PassesOwn.never rfl (pi_range1 (by rfl) T.z_range (pa_cons (pe_callB call_lenA (by rfl) T.z_len bt_len (pa_cons (pv 0) pa_nil)) pa_nil)) (pg_name (i := 5) sc__law_cycle_turn.nd rfl (Or.inl rfl))
  (pss_one (ps_if (pt_cmpR (op_eqA hr.units) (pe_op op_modN (pv 5) pe_int) pe_int (nomark _))
  (pss_cons (ps_set (i := 2) sc__law_cycle_turn.nd rfl (Or.inl rfl) (pe_op op_add4 (pv 2) (pe_op op_mulW (pv 1) (pe_ix ix_seq (pv 0) (pv 5) (fun _ _ => rfl)))))
 (pss_one (ps_set (i := 4) sc__law_cycle_turn.nd rfl (Or.inl rfl) (pe_op op_add4 (pv 4) (pe_op op_mulW (pv 3) (pe_ix ix_seq (pv 0) (pv 5) (fun _ _ => rfl)))))))
  (pss_cons (ps_set (i := 1) sc__law_cycle_turn.nd rfl (Or.inl rfl) (pe_op op_add4 (pv 1) (pe_op op_mulW (pv 2) (pe_ix ix_seq (pv 0) (pv 5) (fun _ _ => rfl)))))
 (pss_one (ps_set (i := 3) sc__law_cycle_turn.nd rfl (Or.inl rfl) (pe_op op_add4 (pv 3) (pe_op op_mulW (pv 4) (pe_ix ix_seq (pv 0) (pv 5) (fun _ _ => rfl))))))))))
 (pss_one (ps_ret (pe_tup (pa_cons (pv 1) (pa_cons (pv 2) (pa_cons (pv 3) (pa_cons (pv 4) pa_nil))))))))), ?_⟩
  exact (sok_seq (sok_unp (gok_tup (gsok_cons (gok_name 1) (gsok_cons (gok_name 2) (gsok_cons (gok_name 3) (gsok_cons (gok_name 4) gsok_nil)))) (gs_len (gs_len (gs_len (gs_len gs_len0 _) _) _) _)) (eok_tup (aok_cons (eok_int 1) (aok_cons (eok_int 0) (aok_cons (eok_int 0) (aok_cons (eok_int 1) aok_nil))))))
 (sok_seq (sok_fo [5] (sok_pre [5] (sok_for (iok_rng1 (aok_cons (eok_callB F3.cr_len (aok_cons (eok_var 0) aok_nil)) aok_nil)) (gok_name 5)
  (sok_fo [5] (sok_if (tok_test (eok_op r2_eq (eok_op r2_mod (eok_var 5) (eok_int 2)) (eok_int 0)))
  (sok_seq (sok_set 2 (eok_op r2_add (eok_var 2) (eok_op r2_mulI (eok_var 1) (eok_op r2_ix (eok_var 0) (eok_var 5)))))
 (sok_set 4 (eok_op r2_add (eok_var 4) (eok_op r2_mulI (eok_var 3) (eok_op r2_ix (eok_var 0) (eok_var 5))))))
  (sok_seq (sok_set 1 (eok_op r2_add (eok_var 1) (eok_op r2_mulI (eok_var 2) (eok_op r2_ix (eok_var 0) (eok_var 5)))))
 (sok_set 3 (eok_op r2_add (eok_var 3) (eok_op r2_mulI (eok_var 4) (eok_op r2_ix (eok_var 0) (eok_var 5)))))))))))
 (sok_ret (eok_tup (aok_cons (eok_var 1) (aok_cons (eok_var 2) (aok_cons (eok_var 3) (aok_cons (eok_var 4) aok_nil))))))))
end
section
variable {P : Program} {w : World} {K : PySem.W.Frag} {mg : Str → Option Value} {base : Heap}
theorem ok__law_leads (T : Top K mg) : FnG P w K mg base 2 T.a__law_leads T.fd__law_leads ["first", "second", "h"] (spD K 3 f__law_leads) := by
  unfold f__law_leads b__law_leads
  refine fnG_data T.F__law_leads sc__law_leads rfl rfl fun cdv A outer s H hr hG => ?_
  refine ⟨_, (pss_one (ps_ret (pe_cmpR (op_eqA hr.units) (pe_callG (ok__law_times T) (hr.mono (by omega)) hG (by rfl) T.g__law_times T.F__law_times.kp T.B__law_times (pa_cons (pv 2) (pa_cons (pv 0) pa_nil))) (pe_callG (ok__law_times T) (hr.mono (by omega)) hG (by rfl) T.g__law_times T.F__law_times.kp T.B__law_times (pa_cons (pv 1) (pa_cons (pv 2) pa_nil))) (nomark _)))), ?_⟩
  exact (sok_ret (eok_op r2_eq (eok_fn (aok_cons (eok_var 2) (aok_cons (eok_var 0) aok_nil)) (an_cons (an_cons an_nil))) (eok_fn (aok_cons (eok_var 1) (aok_cons (eok_var 2) aok_nil)) (an_cons (an_cons an_nil)))))
end
section
variable {P : Program} {w : World} {K : PySem.W.Frag} {mg : Str → Option Value} {base : Heap}
theorem ok__law_is_cycle (T : Top K mg) : FnG P w K mg base 3 T.a__law_is_cycle T.fd__law_is_cycle ["value"] (spD K 1 f__law_is_cycle) := by
  unfold f__law_is_cycle b__law_is_cycle
  refine fnG_data T.F__law_is_cycle sc__law_is_cycle rfl rfl fun cdv A outer s H hr hG => ?_
  refine ⟨_, (pss_cons (ps_if (PW.pt (pw_or (pt_not (pt_val (pe_callG (ok__law_is_numbers T) (hr.mono (by omega)) hG (by rfl) T.g__law_is_numbers T.F__law_is_numbers.kp T.B__law_is_numbers (pa_cons (pv 0) pa_nil)))) (pw_or (pt_cmpR op_lt (pe_callB call_lenA (by rfl) T.z_len bt_len (pa_cons (pv 0) pa_nil)) pe_int (nomark _)) (pw_or1 (pt_cmpR (op_neA hr.units) (pe_op op_modN (pe_callB call_lenA (by rfl) T.z_len bt_len (pa_cons (pv 0) pa_nil)) pe_int) pe_int (nomark _))))))
  (pss_one (ps_ret pe_bl))
  pss_nil)
 (pss_one (ps_ret (pe_cmpR (op_eqA hr.units) (pe_lc (own := [("number", 1)]) (g := (gName 1)) (tt := (tTest (tOp rLtI (tVar 1) (tC (.int 1))))) (te := (tVar 1)) rfl sc__law_is_cycle.nd (pi_seq (pv 0)) (blkOk_by (own := [("number", 1)]) (N := N__law_is_cycle) (sc := defScope s__law_is_cycle) (by decide +kernel)) (fun _ _ _ _ _ => by exact (pg_name (i := 1) sc__law_is_cycle.nd rfl (Or.inl rfl))) (fun _ _ _ _ _ => by exact (pts_one (pt_cmpR op_lt (pv 1) pe_int (nomark _)))) (fun _ _ _ _ _ => by exact (pv 1))) (pe_lst pa_nil) (nomark _))))), ?_⟩
  exact (sok_seq (sok_if (tok_or (tok_not (tok_val (eok_fn (aok_cons (eok_var 0) aok_nil) (an_cons an_nil)))) (tok_or (tok_test (eok_op r2_lt (eok_callB F3.cr_len (aok_cons (eok_var 0) aok_nil)) (eok_int 2))) (tok_test (eok_op r2_ne (eok_op r2_mod (eok_callB F3.cr_len (aok_cons (eok_var 0) aok_nil)) (eok_int 2)) (eok_int 0)))))
  (sok_ret (eok_bool false))
  sok_pass)
 (sok_ret (eok_op r2_eq (eok_lc (iok_seq (eok_var 0)) (gok_name 1) (tok_test (eok_op r2_lt (eok_var 1) (eok_int 1))) (eok_var 1) (by decide)) (eok_lst aok_nil))))
end
section
variable {P : Program} {w : World} {K : PySem.W.Frag} {mg : Str → Option Value} {base : Heap}
theorem ok__law_meet (T : Top K mg) : FnG P w K mg base 1 T.a__law_meet T.fd__law_meet ["first", "second"] (spD K 2 f__law_meet) := by
  unfold f__law_meet b__law_meet
  refine fnG_data T.F__law_meet sc__law_meet rfl rfl fun cdv A outer s H hr hG => ?_
  refine ⟨_, (pss_cons (ps_for PassesOwn.never rfl (pi_range3 (by rfl) T.z_range (pa_cons pe_int (pa_cons (pe_callB call_lenA (by rfl) T.z_len bt_len (pa_cons (pv 0) pa_nil)) (pa_cons pe_int pa_nil)))) (pg_name (i := 2) sc__law_meet.nd rfl (Or.inl rfl))
  (pss_one (ps_if (pt_cmpR (op_eqA hr.units) (pe_op op_add4 (pe_slice sl_2 (pv 0) (po_some (pv 2)) po_none) (pe_slice sl_2 (pv 0) po_none (po_some (pv 2)))) (pv 1) (nomark _))
  (pss_one (ps_ret pe_bl))
  pss_nil)))
 (pss_one (ps_ret pe_bl))), ?_⟩
  exact (sok_seq (sok_fo [2] (sok_pre [2] (sok_for (iok_rng3 (aok_cons (eok_int 0) (aok_cons (eok_callB F3.cr_len (aok_cons (eok_var 0) aok_nil)) (aok_cons (eok_int 2) aok_nil)))) (gok_name 2)
  (sok_fo [2] (sok_if (tok_test (eok_op r2_eq (eok_op r2_add (eok_sl (eok_var 0) (ook_is (eok_var 2)) ook_no) (eok_sl (eok_var 0) ook_no (ook_is (eok_var 2)))) (eok_var 1)))
  (sok_ret (eok_bool true))
  sok_pass)))))
 (sok_ret (eok_bool false)))
end
section
variable {P : Program} {w : World} {K : PySem.W.Frag} {mg : Str → Option Value} {base : Heap}
theorem ok__law_right_one (T : Top K mg) : FnG P w K mg base 27 T.a__law_right_one T.fd__law_right_one ["first", "second", "paper"] (spD K 3 f__law_right_one) := by
  unfold f__law_right_one b__law_right_one
  refine fnG_data T.F__law_right_one sc__law_right_one rfl rfl fun cdv A outer s H hr hG => ?_
  refine ⟨_, (pss_cons (ps_if (PW.pt (pw_or (pt_not (pt_val (pe_callB call_isi (by rfl) T.z_isinstance bt_isinstance (pa_cons (pv 2) (pa_cons (pe_bltn (v := .ty "tuple") (by rfl) T.z_tuple bt_tuple rfl) pa_nil))))) (pw_or (pt_cmpR (op_neA hr.units) (pe_callB call_lenA (by rfl) T.z_len bt_len (pa_cons (pv 2) pa_nil)) pe_int (nomark _)) (pw_or1 (pt_not (pt_val (pe_callG (ok__law_same T 24) (hr.mono (by omega)) hG (by rfl) T.g__law_same T.F__law_same.kp T.B__law_same (pa_cons (pe_ix ix_seq (pv 2) pe_int (fun _ _ => rfl)) (pa_cons pe_str pa_nil)))))))))
  (pss_one (ps_ret pe_bl))
  pss_nil)
 (pss_one (ps_ret (pe_and (pe_callG (ok__law_is_turn T) (hr.mono (by omega)) hG (by rfl) T.g__law_is_turn T.F__law_is_turn.kp T.B__law_is_turn (pa_cons (pe_ix ix_seq (pv 2) pe_int (fun _ _ => rfl)) pa_nil)) (pe_one (pe_callG (ok__law_leads T) (hr.mono (by omega)) hG (by rfl) T.g__law_leads T.F__law_leads.kp T.B__law_leads (pa_cons (pv 0) (pa_cons (pv 1) (pa_cons (pe_ix ix_seq (pv 2) pe_int (fun _ _ => rfl)) pa_nil))))))))), ?_⟩
  exact (sok_seq (sok_if (tok_or (tok_not (tok_val (eok_isi .tuple (eok_var 2)))) (tok_or (tok_test (eok_op r2_ne (eok_callB F3.cr_len (aok_cons (eok_var 2) aok_nil)) (eok_int 2))) (tok_not (tok_val (eok_fn (aok_cons (eok_op r2_ix (eok_var 2) (eok_int 0)) (aok_cons (eok_str "one") aok_nil)) (an_cons (an_cons an_nil)))))))
  (sok_ret (eok_bool false))
  sok_pass)
 (sok_ret (eok_and (eok_fn (aok_cons (eok_op r2_ix (eok_var 2) (eok_int 1)) aok_nil) (an_cons an_nil)) (eok_fn (aok_cons (eok_var 0) (aok_cons (eok_var 1) (aok_cons (eok_op r2_ix (eok_var 2) (eok_int 1)) aok_nil))) (an_cons (an_cons (an_cons an_nil)))))))
end
section
variable {P : Program} {w : World} {K : PySem.W.Frag} {mg : Str → Option Value} {base : Heap}
theorem ok__law_right_side (T : Top K mg) : FnG P w K mg base 4 T.a__law_right_side T.fd__law_right_side ["turn", "value"] (spD K 2 f__law_right_side) := by
  unfold f__law_right_side b__law_right_side
  refine fnG_data T.F__law_right_side sc__law_right_side rfl rfl fun cdv A outer s H hr hG => ?_
  refine ⟨_, (pss_cons (ps_if (PW.pt (pw_or (pt_not (pt_val (pe_callB call_isi (by rfl) T.z_isinstance bt_isinstance (pa_cons (pv 1) (pa_cons (pe_bltn (v := .ty "tuple") (by rfl) T.z_tuple bt_tuple rfl) pa_nil))))) (pw_or (pt_cmpR (op_neA hr.units) (pe_callB call_lenA (by rfl) T.z_len bt_len (pa_cons (pv 1) pa_nil)) pe_int (nomark _)) (pw_or (pt_not (pt_val (pe_callG (ok__law_is_cycle T) (hr.mono (by omega)) hG (by rfl) T.g__law_is_cycle T.F__law_is_cycle.kp T.B__law_is_cycle (pa_cons (pe_ix ix_seq (pv 1) pe_int (fun _ _ => rfl)) pa_nil)))) (pw_or1 (pt_not (pt_val (pe_callG (ok__law_is_turn T) (hr.mono (by omega)) hG (by rfl) T.g__law_is_turn T.F__law_is_turn.kp T.B__law_is_turn (pa_cons (pe_ix ix_seq (pv 1) pe_int (fun _ _ => rfl)) pa_nil)))))))))
  (pss_one (ps_ret pe_bl))
  pss_nil)
 (pss_one (ps_ret (pe_callG (ok__law_leads T) (hr.mono (by omega)) hG (by rfl) T.g__law_leads T.F__law_leads.kp T.B__law_leads (pa_cons (pv 0) (pa_cons (pe_callG (ok__law_cycle_turn T) (hr.mono (by omega)) hG (by rfl) T.g__law_cycle_turn T.F__law_cycle_turn.kp T.B__law_cycle_turn (pa_cons (pe_ix ix_seq (pv 1) pe_int (fun _ _ => rfl)) pa_nil)) (pa_cons (pe_ix ix_seq (pv 1) pe_int (fun _ _ => rfl)) pa_nil))))))), ?_⟩
  exact (sok_seq (sok_if (tok_or (tok_not (tok_val (eok_isi .tuple (eok_var 1)))) (tok_or (tok_test (eok_op r2_ne (eok_callB F3.cr_len (aok_cons (eok_var 1) aok_nil)) (eok_int 2))) (tok_or (tok_not (tok_val (eok_fn (aok_cons (eok_op r2_ix (eok_var 1) (eok_int 0)) aok_nil) (an_cons an_nil)))) (tok_not (tok_val (eok_fn (aok_cons (eok_op r2_ix (eok_var 1) (eok_int 1)) aok_nil) (an_cons an_nil)))))))
  (sok_ret (eok_bool false))
  sok_pass)
 (sok_ret (eok_fn (aok_cons (eok_var 0) (aok_cons (eok_fn (aok_cons (eok_op r2_ix (eok_var 1) (eok_int 0)) aok_nil) (an_cons an_nil)) (aok_cons (eok_op r2_ix (eok_var 1) (eok_int 1)) aok_nil))) (an_cons (an_cons (an_cons an_nil))))))
end
section
variable {P : Program} {w : World} {K : PySem.W.Frag} {mg : Str → Option Value} {base : Heap}
theorem ok__law_right_two (T : Top K mg) : FnG P w K mg base 27 T.a__law_right_two T.fd__law_right_two ["first", "second", "paper"] (spD K 3 f__law_right_two) := by
  unfold f__law_right_two b__law_right_two
  refine fnG_data T.F__law_right_two sc__law_right_two rfl rfl fun cdv A outer s H hr hG => ?_
  refine ⟨_, (pss_cons (ps_if (PW.pt (pw_or (pt_not (pt_val (pe_callB call_isi (by rfl) T.z_isinstance bt_isinstance (pa_cons (pv 2) (pa_cons (pe_bltn (v := .ty "tuple") (by rfl) T.z_tuple bt_tuple rfl) pa_nil))))) (pw_or (pt_cmpR (op_neA hr.units) (pe_callB call_lenA (by rfl) T.z_len bt_len (pa_cons (pv 2) pa_nil)) pe_int (nomark _)) (pw_or1 (pt_not (pt_val (pe_callG (ok__law_same T 24) (hr.mono (by omega)) hG (by rfl) T.g__law_same T.F__law_same.kp T.B__law_same (pa_cons (pe_ix ix_seq (pv 2) pe_int (fun _ _ => rfl)) (pa_cons pe_str pa_nil)))))))))
  (pss_one (ps_ret pe_bl))
  pss_nil)
 (pss_cons (ps_if (PW.pt (pw_or (pt_not (pt_val (pe_callG (ok__law_right_side T) (hr.mono (by omega)) hG (by rfl) T.g__law_right_side T.F__law_right_side.kp T.B__law_right_side (pa_cons (pv 0) (pa_cons (pe_ix ix_seq (pv 2) pe_int (fun _ _ => rfl)) pa_nil))))) (pw_or1 (pt_not (pt_val (pe_callG (ok__law_right_side T) (hr.mono (by omega)) hG (by rfl) T.g__law_right_side T.F__law_right_side.kp T.B__law_right_side (pa_cons (pv 1) (pa_cons (pe_ix ix_seq (pv 2) pe_int (fun _ _ => rfl)) pa_nil))))))))
  (pss_one (ps_ret pe_bl))
  pss_nil)
 (pss_one (ps_ret (pe_not (pe_callG (ok__law_meet T) (hr.mono (by omega)) hG (by rfl) T.g__law_meet T.F__law_meet.kp T.B__law_meet (pa_cons (pe_ix ix_seq (pe_ix ix_seq (pv 2) pe_int (fun _ _ => rfl)) pe_int (fun _ _ => rfl)) (pa_cons (pe_ix ix_seq (pe_ix ix_seq (pv 2) pe_int (fun _ _ => rfl)) pe_int (fun _ _ => rfl)) pa_nil)))))))), ?_⟩
  exact (sok_seq (sok_if (tok_or (tok_not (tok_val (eok_isi .tuple (eok_var 2)))) (tok_or (tok_test (eok_op r2_ne (eok_callB F3.cr_len (aok_cons (eok_var 2) aok_nil)) (eok_int 3))) (tok_not (tok_val (eok_fn (aok_cons (eok_op r2_ix (eok_var 2) (eok_int 0)) (aok_cons (eok_str "two") aok_nil)) (an_cons (an_cons an_nil)))))))
  (sok_ret (eok_bool false))
  sok_pass)
 (sok_seq (sok_if (tok_or (tok_not (tok_val (eok_fn (aok_cons (eok_var 0) (aok_cons (eok_op r2_ix (eok_var 2) (eok_int 1)) aok_nil)) (an_cons (an_cons an_nil))))) (tok_not (tok_val (eok_fn (aok_cons (eok_var 1) (aok_cons (eok_op r2_ix (eok_var 2) (eok_int 2)) aok_nil)) (an_cons (an_cons an_nil))))))
  (sok_ret (eok_bool false))
  sok_pass)
 (sok_ret (eok_not (eok_fn (aok_cons (eok_op r2_ix (eok_op r2_ix (eok_var 2) (eok_int 1)) (eok_int 0)) (aok_cons (eok_op r2_ix (eok_op r2_ix (eok_var 2) (eok_int 2)) (eok_int 0)) aok_nil)) (an_cons (an_cons an_nil)))))))
end
end Lk75
set_option maxRecDepth 100000
set_option maxHeartbeats 4000000
namespace Lk75
open PySem PySem.Spec PyProof.Rows L2 F3
section
variable {P : Program} {w : World} {K : PySem.W.Frag} {mg : Str → Option Value} {base : Heap}
theorem ok__law_by (T : Top K mg) : FnG P w K mg base 2 T.a__law_by T.fd__law_by ["h", "turn"] (spD K 2 f__law_by) := by
  unfold f__law_by b__law_by
  refine fnG_data T.F__law_by sc__law_by rfl rfl fun cdv A outer s H hr hG => ?_
  refine ⟨_, (pss_one (ps_ret (pe_callG (ok__law_times T) (hr.mono (by omega)) hG (by rfl) T.g__law_times T.F__law_times.kp T.B__law_times (pa_cons (pe_callG (ok__law_times T) (hr.mono (by omega)) hG (by rfl) T.g__law_times T.F__law_times.kp T.B__law_times (pa_cons (pv 0) (pa_cons (pv 1) pa_nil))) (pa_cons (pe_tup (pa_cons (pe_ix ix_seq (pv 0) pe_int (fun _ _ => rfl)) (pa_cons (pe_un un_neg (pe_ix ix_seq (pv 0) pe_int (fun _ _ => rfl))) (pa_cons (pe_un un_neg (pe_ix ix_seq (pv 0) pe_int (fun _ _ => rfl))) (pa_cons (pe_ix ix_seq (pv 0) pe_int (fun _ _ => rfl)) pa_nil))))) pa_nil))))), ?_⟩
  exact (sok_ret (eok_fn (aok_cons (eok_fn (aok_cons (eok_var 0) (aok_cons (eok_var 1) aok_nil)) (an_cons (an_cons an_nil))) (aok_cons (eok_tup (aok_cons (eok_op r2_ix (eok_var 0) (eok_int 3)) (aok_cons (eok_un r1_neg (eok_op r2_ix (eok_var 0) (eok_int 1))) (aok_cons (eok_un r1_neg (eok_op r2_ix (eok_var 0) (eok_int 2))) (aok_cons (eok_op r2_ix (eok_var 0) (eok_int 0)) aok_nil))))) aok_nil)) (an_cons (an_cons an_nil))))
end
section
variable {P : Program} {w : World} {K : PySem.W.Frag} {mg : Str → Option Value} {base : Heap}
theorem ok__law_turns (T : Top K mg) : FnG P w K mg base 1 T.a__law_turns T.fd__law_turns [] (spD K 0 f__law_turns) := by
  unfold f__law_turns b__law_turns
  refine fnG_data T.F__law_turns sc__law_turns rfl rfl fun cdv A outer s H hr hG => ?_
  refine ⟨_, (pss_cons (ps_set (i := 0) sc__law_turns.nd rfl (Or.inl rfl) (pe_lst pa_nil))
 (pss_cons (ps_for PassesOwn.never rfl (pi_range2 (by rfl) T.z_range (pa_cons (pe_un un_neg pe_int) (pa_cons pe_int pa_nil))) (pg_name (i := 1) sc__law_turns.nd rfl (Or.inl rfl))
  (pss_one (ps_for PassesOwn.never rfl (pi_range2 (by rfl) T.z_range (pa_cons (pe_un un_neg pe_int) (pa_cons pe_int pa_nil))) (pg_name (i := 2) sc__law_turns.nd rfl (Or.inl rfl))
  (pss_one (ps_for PassesOwn.never rfl (pi_range2 (by rfl) T.z_range (pa_cons (pe_un un_neg pe_int) (pa_cons pe_int pa_nil))) (pg_name (i := 3) sc__law_turns.nd rfl (Or.inl rfl))
  (pss_one (ps_for PassesOwn.never rfl (pi_range2 (by rfl) T.z_range (pa_cons (pe_un un_neg pe_int) (pa_cons pe_int pa_nil))) (pg_name (i := 4) sc__law_turns.nd rfl (Or.inl rfl))
  (pss_one (ps_if (pt_cmpR (op_eqA hr.units) (pe_op op_sub (pe_op op_mulW (pv 1) (pv 2)) (pe_op op_mulW (pv 3) (pv 4))) pe_int (nomark _))
  (pss_one (ps_expr (pe_bm PySem.F.plainAttrs_list PySem.F.slot_list_append PySem.F.type_list_append mt_append (pv 0) (pa_cons (pe_tup (pa_cons (pv 1) (pa_cons (pv 3) (pa_cons (pv 4) (pa_cons (pv 2) pa_nil))))) pa_nil))))
  pss_nil)))))))))
 (pss_one (ps_ret (pv 0))))), ?_⟩
  exact (sok_seq (sok_set 0 (eok_lst aok_nil))
 (sok_seq (sok_fo [1, 2, 3, 4] (sok_pre [1, 2, 3, 4] (sok_for (iok_rng2 (aok_cons (eok_un r1_neg (eok_int 3)) (aok_cons (eok_int 4) aok_nil))) (gok_name 1)
  (sok_fo [1, 2, 3, 4] (sok_fo [2, 3, 4] (sok_pre [2, 3, 4] (sok_for (iok_rng2 (aok_cons (eok_un r1_neg (eok_int 3)) (aok_cons (eok_int 4) aok_nil))) (gok_name 2)
  (sok_fo [2, 3, 4] (sok_fo [3, 4] (sok_pre [3, 4] (sok_for (iok_rng2 (aok_cons (eok_un r1_neg (eok_int 3)) (aok_cons (eok_int 4) aok_nil))) (gok_name 3)
  (sok_fo [3, 4] (sok_fo [4] (sok_pre [4] (sok_for (iok_rng2 (aok_cons (eok_un r1_neg (eok_int 3)) (aok_cons (eok_int 4) aok_nil))) (gok_name 4)
  (sok_fo [4] (sok_if (tok_test (eok_op r2_eq (eok_op r2_sub (eok_op r2_mulI (eok_var 1) (eok_var 2)) (eok_op r2_mulI (eok_var 3) (eok_var 4))) (eok_int 1)))
  (sok_app 0 (eok_tup (aok_cons (eok_var 1) (aok_cons (eok_var 3) (aok_cons (eok_var 4) (aok_cons (eok_var 2) aok_nil))))))
  sok_pass)))))))))))))))))
 (sok_ret (eok_var 0))))
end
section
variable {P : Program} {w : World} {K : PySem.W.Frag} {mg : Str → Option Value} {base : Heap}
theorem ok__law_leading (T : Top K mg) : FnG P w K mg base 1 T.a__law_leading T.fd__law_leading ["turns", "first", "second"] (spD K 3 f__law_leading) := by
  unfold f__law_leading b__law_leading
  refine fnG_data T.F__law_leading sc__law_leading rfl rfl fun cdv A outer s H hr hG => ?_
  refine ⟨_, (pss_cons (ps_asg (pv 1) (pg_tup rfl (pgs_cons (pg_name (i := 3) sc__law_leading.nd rfl (Or.inl rfl)) (pgs_cons (pg_name (i := 4) sc__law_leading.nd rfl (Or.inl rfl)) (pgs_cons (pg_name (i := 5) sc__law_leading.nd rfl (Or.inl rfl)) (pgs_cons (pg_name (i := 6) sc__law_leading.nd rfl (Or.inl rfl)) pgs_nil))))))
 (pss_cons (ps_asg (pv 2) (pg_tup rfl (pgs_cons (pg_name (i := 7) sc__law_leading.nd rfl (Or.inl rfl)) (pgs_cons (pg_name (i := 8) sc__law_leading.nd rfl (Or.inl rfl)) (pgs_cons (pg_name (i := 9) sc__law_leading.nd rfl (Or.inl rfl)) (pgs_cons (pg_name (i := 10) sc__law_leading.nd rfl (Or.inl rfl)) pgs_nil))))))
 (pss_cons (ps_for PassesOwn.never rfl (pi_seq (pv 0)) (pg_tup rfl (pgs_cons (pg_name (i := 11) sc__law_leading.nd rfl (Or.inl rfl)) (pgs_cons (pg_name (i := 12) sc__law_leading.nd rfl (Or.inl rfl)) (pgs_cons (pg_name (i := 13) sc__law_leading.nd rfl (Or.inl rfl)) (pgs_cons (pg_name (i := 14) sc__law_leading.nd rfl (Or.inl rfl)) pgs_nil)))))
  (pss_one (ps_if (PW.pt (pw_and (pt_cmpR (op_eqA hr.units) (pe_op op_add4 (pe_op op_mulW (pv 11) (pv 3)) (pe_op op_mulW (pv 12) (pv 5))) (pe_op op_add4 (pe_op op_mulW (pv 7) (pv 11)) (pe_op op_mulW (pv 8) (pv 13))) (nomark _)) (pw_and1 (pt_cmpR (op_eqA hr.units) (pe_op op_add4 (pe_op op_mulW (pv 11) (pv 4)) (pe_op op_mulW (pv 12) (pv 6))) (pe_op op_add4 (pe_op op_mulW (pv 7) (pv 12)) (pe_op op_mulW (pv 8) (pv 14))) (nomark _)))))
  (pss_one (ps_if (PW.pt (pw_and (pt_cmpR (op_eqA hr.units) (pe_op op_add4 (pe_op op_mulW (pv 13) (pv 3)) (pe_op op_mulW (pv 14) (pv 5))) (pe_op op_add4 (pe_op op_mulW (pv 9) (pv 11)) (pe_op op_mulW (pv 10) (pv 13))) (nomark _)) (pw_and1 (pt_cmpR (op_eqA hr.units) (pe_op op_add4 (pe_op op_mulW (pv 13) (pv 4)) (pe_op op_mulW (pv 14) (pv 6))) (pe_op op_add4 (pe_op op_mulW (pv 9) (pv 12)) (pe_op op_mulW (pv 10) (pv 14))) (nomark _)))))
  (pss_one (ps_ret (pe_tup (pa_cons (pv 11) (pa_cons (pv 12) (pa_cons (pv 13) (pa_cons (pv 14) pa_nil)))))))
  pss_nil))
  pss_nil)))
 (pss_one (ps_ret pe_non))))), ?_⟩
  exact (sok_seq (sok_unp (gok_tup (gsok_cons (gok_name 3) (gsok_cons (gok_name 4) (gsok_cons (gok_name 5) (gsok_cons (gok_name 6) gsok_nil)))) (gs_len (gs_len (gs_len (gs_len gs_len0 _) _) _) _)) (eok_var 1))
 (sok_seq (sok_unp (gok_tup (gsok_cons (gok_name 7) (gsok_cons (gok_name 8) (gsok_cons (gok_name 9) (gsok_cons (gok_name 10) gsok_nil)))) (gs_len (gs_len (gs_len (gs_len gs_len0 _) _) _) _)) (eok_var 2))
 (sok_seq (sok_fo [11, 12, 13, 14] (sok_pre [11, 12, 13, 14] (sok_for (iok_seq (eok_var 0)) (gok_tup (gsok_cons (gok_name 11) (gsok_cons (gok_name 12) (gsok_cons (gok_name 13) (gsok_cons (gok_name 14) gsok_nil)))) (gs_len (gs_len (gs_len (gs_len gs_len0 _) _) _) _))
  (sok_fo [11, 12, 13, 14] (sok_if (tok_and (tok_test (eok_op r2_eq (eok_op r2_add (eok_op r2_mulI (eok_var 11) (eok_var 3)) (eok_op r2_mulI (eok_var 12) (eok_var 5))) (eok_op r2_add (eok_op r2_mulI (eok_var 7) (eok_var 11)) (eok_op r2_mulI (eok_var 8) (eok_var 13))))) (tok_test (eok_op r2_eq (eok_op r2_add (eok_op r2_mulI (eok_var 11) (eok_var 4)) (eok_op r2_mulI (eok_var 12) (eok_var 6))) (eok_op r2_add (eok_op r2_mulI (eok_var 7) (eok_var 12)) (eok_op r2_mulI (eok_var 8) (eok_var 14))))))
  (sok_if (tok_and (tok_test (eok_op r2_eq (eok_op r2_add (eok_op r2_mulI (eok_var 13) (eok_var 3)) (eok_op r2_mulI (eok_var 14) (eok_var 5))) (eok_op r2_add (eok_op r2_mulI (eok_var 9) (eok_var 11)) (eok_op r2_mulI (eok_var 10) (eok_var 13))))) (tok_test (eok_op r2_eq (eok_op r2_add (eok_op r2_mulI (eok_var 13) (eok_var 4)) (eok_op r2_mulI (eok_var 14) (eok_var 6))) (eok_op r2_add (eok_op r2_mulI (eok_var 9) (eok_var 12)) (eok_op r2_mulI (eok_var 10) (eok_var 14))))))
  (sok_ret (eok_tup (aok_cons (eok_var 11) (aok_cons (eok_var 12) (aok_cons (eok_var 13) (aok_cons (eok_var 14) aok_nil))))))
  sok_pass)
  sok_pass)))))
 (sok_ret eok_none))))
end
section
variable {P : Program} {w : World} {K : PySem.W.Frag} {mg : Str → Option Value} {base : Heap}
theorem ok__law_two_cycles (T : Top K mg) : FnG P w K mg base 1 T.a__law_two_cycles T.fd__law_two_cycles ["draws"] (spD K 1 f__law_two_cycles) := by
  unfold f__law_two_cycles b__law_two_cycles
  refine fnG_data T.F__law_two_cycles sc__law_two_cycles rfl rfl fun cdv A outer s H hr hG => ?_
  refine ⟨_, (pss_cons (ps_set (i := 1) sc__law_two_cycles.nd rfl (Or.inl rfl) (pe_op op_add4 pe_int (pe_op op_mulW pe_int (pe_op op_modN (pe_ix ix_seq (pv 0) pe_int (fun _ _ => rfl)) pe_int))))
 (pss_cons (ps_setLc (i := 2) (own := [("k", 4)]) (g := (gName 4)) (tt := tYes) (te := (tOp (rAdd4 K) (tC (.int 1)) (tOp rModI (tOp (rIx K) (tVar 0) (tOp (rAdd4 K) (tC (.int 1)) (tVar 4))) (tC (.int 3))))) rfl sc__law_two_cycles.nd rfl rfl (sw_true rfl rfl rfl (by decide +kernel)) (pi_range1 (by rfl) T.z_range (pa_cons (pv 1) pa_nil)) (blkOk_by (own := [("k", 4)]) (N := N__law_two_cycles) (sc := defScope s__law_two_cycles) (by decide +kernel)) (fun _ _ _ _ _ => by exact (pg_name (i := 4) sc__law_two_cycles.nd rfl (Or.inl rfl))) (fun _ _ _ _ _ => by exact pts_nil) (fun _ _ _ _ _ => by exact (pe_op op_add4 pe_int (pe_op op_modN (pe_ix ix_seq (pv 0) (pe_op op_add4 pe_int (pv 4)) (fun _ _ => rfl)) pe_int))))
 (pss_cons (ps_setLc (i := 3) (own := [("k", 4)]) (g := (gName 4)) (tt := tYes) (te := (tOp (rAdd4 K) (tC (.int 1)) (tOp rModI (tOp (rIx K) (tVar 0) (tOp (rAdd4 K) (tC (.int 5)) (tVar 4))) (tC (.int 3))))) rfl sc__law_two_cycles.nd rfl rfl (sw_true rfl rfl rfl (by decide +kernel)) (pi_range1 (by rfl) T.z_range (pa_cons (pv 1) pa_nil)) (blkOk_by (own := [("k", 4)]) (N := N__law_two_cycles) (sc := defScope s__law_two_cycles) (by decide +kernel)) (fun _ _ _ _ _ => by exact (pg_name (i := 4) sc__law_two_cycles.nd rfl (Or.inl rfl))) (fun _ _ _ _ _ => by exact pts_nil) (fun _ _ _ _ _ => by exact (pe_op op_add4 pe_int (pe_op op_modN (pe_ix ix_seq (pv 0) (pe_op op_add4 pe_int (pv 4)) (fun _ _ => rfl)) pe_int))))
 (pss_cons (ps_if (pt_cmpR (op_eqA hr.units) (pe_op op_modN (pe_ix ix_seq (pv 0) pe_int (fun _ _ => rfl)) pe_int) pe_int (nomark _))
  (pss_one (ps_set (i := 3) sc__law_two_cycles.nd rfl (Or.inl rfl) (pe_op op_add4 (pe_slice sl_2 (pv 2) (po_some pe_int) po_none) (pe_slice sl_2 (pv 2) po_none (po_some pe_int)))))
  pss_nil)
 (pss_cons (ps_if (pt_cmpR (op_eqA hr.units) (pe_op op_modN (pe_ix ix_seq (pv 0) pe_int (fun _ _ => rfl)) pe_int) pe_int (nomark _))
  (pss_one (ps_set (i := 3) sc__law_two_cycles.nd rfl (Or.inl rfl) (pe_slice3 (pv 2) po_none po_none (po_some (pe_un un_neg pe_int)))))
  pss_nil)
 (pss_one (ps_ret (pe_tup (pa_cons (pv 2) (pa_cons (pv 3) pa_nil)))))))))), ?_⟩
  exact (sok_seq (sok_set 1 (eok_op r2_add (eok_int 2) (eok_op r2_mulI (eok_int 2) (eok_op r2_mod (eok_op r2_ix (eok_var 0) (eok_int 0)) (eok_int 2)))))
 (sok_seq (sok_set 2 (eok_lc (iok_rng1 (aok_cons (eok_var 1) aok_nil)) (gok_name 4) tok_yes (eok_op r2_add (eok_int 1) (eok_op r2_mod (eok_op r2_ix (eok_var 0) (eok_op r2_add (eok_int 1) (eok_var 4))) (eok_int 3))) (by decide)))
 (sok_seq (sok_set 3 (eok_lc (iok_rng1 (aok_cons (eok_var 1) aok_nil)) (gok_name 4) tok_yes (eok_op r2_add (eok_int 1) (eok_op r2_mod (eok_op r2_ix (eok_var 0) (eok_op r2_add (eok_int 5) (eok_var 4))) (eok_int 3))) (by decide)))
 (sok_seq (sok_if (tok_test (eok_op r2_eq (eok_op r2_mod (eok_op r2_ix (eok_var 0) (eok_int 9)) (eok_int 4)) (eok_int 0)))
  (sok_set 3 (eok_op r2_add (eok_sl (eok_var 2) (ook_is (eok_int 2)) ook_no) (eok_sl (eok_var 2) ook_no (ook_is (eok_int 2)))))
  sok_pass)
 (sok_seq (sok_if (tok_test (eok_op r2_eq (eok_op r2_mod (eok_op r2_ix (eok_var 0) (eok_int 9)) (eok_int 4)) (eok_int 1)))
  (sok_set 3 (eok_sl3 (eok_var 2) ook_no ook_no (ook_is (eok_un r1_neg (eok_int 1)))))
  sok_pass)
 (sok_frz [2, 3] (sok_ret (eok_tup (aok_cons (eok_var 2) (aok_cons (eok_var 3) aok_nil))))))))))
end
section
variable {P : Program} {w : World} {K : PySem.W.Frag} {mg : Str → Option Value} {base : Heap}
theorem ok__law_is_one (T : Top K mg) : FnG P w K mg base 28 T.a__law_is_one T.fd__law_is_one ["first", "second"] (spD K 2 f__law_is_one) := by
  unfold f__law_is_one b__law_is_one
  refine fnG_data T.F__law_is_one sc__law_is_one rfl rfl fun cdv A outer s H hr hG => ?_
  refine ⟨_, (pss_cons (ps_set (i := 2) sc__law_is_one.nd rfl (Or.inl rfl) (pe_callG (ok_kind_paper T) (hr.mono (by omega)) hG (by rfl) T.g_kind_paper T.F_kind_paper.kp T.B_kind_paper (pa_cons (pv 0) (pa_cons (pv 1) pa_nil))))
 (pss_cons (ps_if (pt_val (pe_callG (ok__law_right_one T) (hr.mono (by omega)) hG (by rfl) T.g__law_right_one T.F__law_right_one.kp T.B__law_right_one (pa_cons (pv 0) (pa_cons (pv 1) (pa_cons (pv 2) pa_nil)))))
  (pss_one (ps_ret pe_bl))
  pss_nil)
 (pss_cons (ps_if (pt_val (pe_callG (ok__law_right_two T) (hr.mono (by omega)) hG (by rfl) T.g__law_right_two T.F__law_right_two.kp T.B__law_right_two (pa_cons (pv 0) (pa_cons (pv 1) (pa_cons (pv 2) pa_nil)))))
  (pss_one (ps_ret pe_bl))
  pss_nil)
 (pss_one (ps_ret pe_non))))), ?_⟩
  exact (sok_seq (sok_set 2 (eok_fn (aok_cons (eok_var 0) (aok_cons (eok_var 1) aok_nil)) (an_cons (an_cons an_nil))))
 (sok_seq (sok_if (tok_val (eok_fn (aok_cons (eok_var 0) (aok_cons (eok_var 1) (aok_cons (eok_var 2) aok_nil))) (an_cons (an_cons (an_cons an_nil)))))
  (sok_ret (eok_bool true))
  sok_pass)
 (sok_seq (sok_if (tok_val (eok_fn (aok_cons (eok_var 0) (aok_cons (eok_var 1) (aok_cons (eok_var 2) aok_nil))) (an_cons (an_cons (an_cons an_nil)))))
  (sok_ret (eok_bool false))
  sok_pass)
 (sok_ret eok_none))))
end
section
variable {P : Program} {w : World} {K : PySem.W.Frag} {mg : Str → Option Value} {base : Heap}
theorem ok_law (T : Top K mg) : FnG P w K mg base 29 T.a_law T.fd_law ["script"] (spD K 1 f_law) := by
  unfold f_law b_law
  refine fnG_data T.F_law sc_law rfl rfl fun cdv A outer s H hr hG => ?_
  refine ⟨_, (pss_cons (ps_set (i := 1) sc_law.nd rfl (Or.inl rfl) (pe_callG (ok__law_draws T) (hr.mono (by omega)) hG (by rfl) T.g__law_draws T.F__law_draws.kp T.B__law_draws (pa_cons (pv 0) (pa_cons pe_int pa_nil))))
 (pss_cons (ps_asg (pe_callG (ok__law_two_cycles T) (hr.mono (by omega)) hG (by rfl) T.g__law_two_cycles T.F__law_two_cycles.kp T.B__law_two_cycles (pa_cons (pv 1) pa_nil)) (pg_tup rfl (pgs_cons (pg_name (i := 2) sc_law.nd rfl (Or.inl rfl)) (pgs_cons (pg_name (i := 3) sc_law.nd rfl (Or.inl rfl)) pgs_nil))))
 (pss_cons (ps_set (i := 4) sc_law.nd rfl (Or.inl rfl) (pe_callG0 (ok__law_turns T) (hr.mono (by omega)) hG (by rfl) T.g__law_turns T.F__law_turns.kp T.B__law_turns))
 (pss_cons (ps_set (i := 5) sc_law.nd rfl (Or.inl rfl) (pe_lst (pa_cons (pe_ix ix_seq (pv 4) (pe_op op_modN (pe_ix ix_seq (pv 1) pe_int (fun _ _ => rfl)) (pe_callB call_lenA (by rfl) T.z_len bt_len (pa_cons (pv 4) pa_nil))) (fun _ _ => rfl)) (pa_cons (pe_ix ix_seq (pv 4) (pe_op op_modN (pe_ix ix_seq (pv 1) pe_int (fun _ _ => rfl)) (pe_callB call_lenA (by rfl) T.z_len bt_len (pa_cons (pv 4) pa_nil))) (fun _ _ => rfl)) pa_nil))))
 (pss_cons (ps_set (i := 6) sc_law.nd rfl (Or.inl rfl) (pe_callG (ok__law_cycle_turn T) (hr.mono (by omega)) hG (by rfl) T.g__law_cycle_turn T.F__law_cycle_turn.kp T.B__law_cycle_turn (pa_cons (pv 2) pa_nil)))
 (pss_cons (ps_set (i := 7) sc_law.nd rfl (Or.inl rfl) (pe_callG (ok__law_cycle_turn T) (hr.mono (by omega)) hG (by rfl) T.g__law_cycle_turn T.F__law_cycle_turn.kp T.B__law_cycle_turn (pa_cons (pv 3) pa_nil)))
 (pss_cons (ps_set (i := 8) sc_law.nd rfl (Or.inr rfl) (pe_lst (pa_cons (pv 6) (pa_cons (pe_callG (ok__law_by T) (hr.mono (by omega)) hG (by rfl) T.g__law_by T.F__law_by.kp T.B__law_by (pa_cons (pe_ix ix_seq (pv 5) pe_int (fun _ _ => rfl)) (pa_cons (pv 6) pa_nil))) (pa_cons (pv 7) (pa_cons (pe_callG (ok__law_by T) (hr.mono (by omega)) hG (by rfl) T.g__law_by T.F__law_by.kp T.B__law_by (pa_cons (pe_ix ix_seq (pv 5) pe_int (fun _ _ => rfl)) (pa_cons (pv 7) pa_nil))) pa_nil))))))
 (pss_cons (ps_setLc (i := 9) (own := [("left", 14)]) (g := (gName 14)) (tt := tYes) (te := (tLc (iSeq K (tVar 8)) (gName 15) tYes (tCallD (spD K 2 f__law_is_one) (tCons (tVar 14) (tCons (tVar 15) tNil))) [15])) rfl sc_law.nd rfl rfl (sw_true rfl rfl rfl (by decide +kernel)) (pi_seq (pv 8)) (blkOk_by (own := [("left", 14)]) (N := N_law) (sc := defScope s_law) (by decide +kernel)) (fun _ _ _ _ _ => by exact (pg_name (i := 14) sc_law.nd rfl (Or.inr rfl))) (fun _ _ _ _ _ => by exact pts_nil) (fun _ _ _ _ _ => by exact (pe_lc (own := [("right", 15)]) (g := (gName 15)) (tt := tYes) (te := (tCallD (spD K 2 f__law_is_one) (tCons (tVar 14) (tCons (tVar 15) tNil)))) rfl sc_law.nd (pi_seq (pv 8)) (blkOk_by (own := [("right", 15)]) (N := N_law) (sc := ⟨.function, [(".0", .local), ("left", .cell), ("four", .cell)], false, false, []⟩) (by decide +kernel)) (fun _ _ _ _ _ => by exact (pg_name (i := 15) sc_law.nd rfl (Or.inl rfl))) (fun _ _ _ _ _ => by exact pts_nil) (fun _ _ _ _ _ => by exact (pe_callG (ok__law_is_one T) (hr.mono (by omega)) hG (by rfl) T.g__law_is_one T.F__law_is_one.kp T.B__law_is_one (pa_cons (pv 14) (pa_cons (pv 15) pa_nil)))))))
 (pss_cons (ps_for PassesOwn.never rfl (pi_range1 (by rfl) T.z_range (pa_cons pe_int pa_nil)) (pg_name (i := 10) sc_law.nd rfl (Or.inl rfl))
  (pss_one (ps_for PassesOwn.never rfl (pi_range1 (by rfl) T.z_range (pa_cons pe_int pa_nil)) (pg_name (i := 11) sc_law.nd rfl (Or.inl rfl))
  (pss_cons (ps_if (PW.pt (pw_or (pt_cmpR op_isA (pe_ix ix_seq (pe_ix ix_seq (pv 9) (pv 10) (fun _ _ => rfl)) (pv 11) (fun _ _ => rfl)) pe_non (nomark _)) (pw_or (pt_cmpR (op_neA hr.units) (pe_ix ix_seq (pe_ix ix_seq (pv 9) (pv 10) (fun _ _ => rfl)) (pv 11) (fun _ _ => rfl)) (pe_ix ix_seq (pe_ix ix_seq (pv 9) (pv 11) (fun _ _ => rfl)) (pv 10) (fun _ _ => rfl)) (nomark _)) (pw_or1 (PW.pt (pw_and (pt_cmpR (op_eqA hr.units) (pe_op op_fdivA (pv 10) pe_int) (pe_op op_fdivA (pv 11) pe_int) (nomark _)) (pw_and1 (pt_not (pt_val (pe_ix ix_seq (pe_ix ix_seq (pv 9) (pv 10) (fun _ _ => rfl)) (pv 11) (fun _ _ => rfl)))))))))))
  (pss_one (ps_ret pe_bl))
  pss_nil)
 (pss_cons (ps_if (PW.pt (pw_and (pt_val (pe_ix ix_seq (pe_ix ix_seq (pv 9) (pv 10) (fun _ _ => rfl)) (pv 11) (fun _ _ => rfl))) (pw_and1 (pt_cmpR (op_neA hr.units) (pe_op op_add4 (pe_ix ix_seq (pe_ix ix_seq (pv 8) (pv 10) (fun _ _ => rfl)) pe_int (fun _ _ => rfl)) (pe_ix ix_seq (pe_ix ix_seq (pv 8) (pv 10) (fun _ _ => rfl)) pe_int (fun _ _ => rfl))) (pe_op op_add4 (pe_ix ix_seq (pe_ix ix_seq (pv 8) (pv 11) (fun _ _ => rfl)) pe_int (fun _ _ => rfl)) (pe_ix ix_seq (pe_ix ix_seq (pv 8) (pv 11) (fun _ _ => rfl)) pe_int (fun _ _ => rfl))) (nomark _)))))
  (pss_one (ps_ret pe_bl))
  pss_nil)
 (pss_one (ps_for PassesOwn.never rfl (pi_range1 (by rfl) T.z_range (pa_cons pe_int pa_nil)) (pg_name (i := 12) sc_law.nd rfl (Or.inl rfl))
  (pss_one (ps_if (PW.pt (pw_and (pt_val (pe_ix ix_seq (pe_ix ix_seq (pv 9) (pv 10) (fun _ _ => rfl)) (pv 12) (fun _ _ => rfl))) (pw_and (pt_val (pe_ix ix_seq (pe_ix ix_seq (pv 9) (pv 12) (fun _ _ => rfl)) (pv 11) (fun _ _ => rfl))) (pw_and1 (pt_not (pt_val (pe_ix ix_seq (pe_ix ix_seq (pv 9) (pv 10) (fun _ _ => rfl)) (pv 11) (fun _ _ => rfl))))))))
  (pss_one (ps_ret pe_bl))
  pss_nil)))))))))
 (pss_cons (ps_for PassesOwn.never rfl (pi_seq (pe_lst (pa_cons (pe_tup (pa_cons pe_int (pa_cons pe_int pa_nil))) (pa_cons (pe_tup (pa_cons pe_int (pa_cons pe_int pa_nil))) (pa_cons (pe_tup (pa_cons pe_int (pa_cons pe_int pa_nil))) (pa_cons (pe_tup (pa_cons pe_int (pa_cons pe_int pa_nil))) (pa_cons (pe_tup (pa_cons pe_int (pa_cons pe_int pa_nil))) pa_nil))))))) (pg_tup rfl (pgs_cons (pg_name (i := 10) sc_law.nd rfl (Or.inl rfl)) (pgs_cons (pg_name (i := 11) sc_law.nd rfl (Or.inl rfl)) pgs_nil)))
  (pss_cons (ps_set (i := 13) sc_law.nd rfl (Or.inl rfl) (pe_callG (ok__law_leading T) (hr.mono (by omega)) hG (by rfl) T.g__law_leading T.F__law_leading.kp T.B__law_leading (pa_cons (pv 4) (pa_cons (pe_ix ix_seq (pv 8) (pv 10) (fun _ _ => rfl)) (pa_cons (pe_ix ix_seq (pv 8) (pv 11) (fun _ _ => rfl)) pa_nil)))))
 (pss_one (ps_if (PW.pt (pw_and (pt_cmpR op_isnotA (pv 13) pe_non (nomark _)) (pw_and1 (PW.pt (pw_or (pt_not (pt_val (pe_ix ix_seq (pe_ix ix_seq (pv 9) (pv 10) (fun _ _ => rfl)) (pv 11) (fun _ _ => rfl)))) (pw_or1 (pt_cmpR op_isnotA (pe_callG (ok_shows_one T) (hr.mono (by omega)) hG (by rfl) T.g_shows_one T.F_shows_one.kp T.B_shows_one (pa_cons (pe_ix ix_seq (pv 8) (pv 10) (fun _ _ => rfl)) (pa_cons (pe_ix ix_seq (pv 8) (pv 11) (fun _ _ => rfl)) (pa_cons (pe_tup (pa_cons pe_str (pa_cons (pv 13) pa_nil))) pa_nil)))) pe_bl (nomark _))))))))
  (pss_one (ps_ret pe_bl))
  pss_nil))))
 (pss_cons (ps_if (PW.pt (pw_or (pt_cmpR (op_neA hr.units) (pe_ix ix_seq (pe_ix ix_seq (pv 9) pe_int (fun _ _ => rfl)) pe_int (fun _ _ => rfl)) (pe_callG (ok__law_meet T) (hr.mono (by omega)) hG (by rfl) T.g__law_meet T.F__law_meet.kp T.B__law_meet (pa_cons (pv 2) (pa_cons (pv 3) pa_nil))) (nomark _)) (pw_or1 (pt_cmpR op_isA (pe_callG (ok__law_leading T) (hr.mono (by omega)) hG (by rfl) T.g__law_leading T.F__law_leading.kp T.B__law_leading (pa_cons (pv 4) (pa_cons (pe_ix ix_seq (pv 8) pe_int (fun _ _ => rfl)) (pa_cons (pe_ix ix_seq (pv 8) pe_int (fun _ _ => rfl)) pa_nil)))) pe_non (nomark _)))))
  (pss_one (ps_ret pe_bl))
  pss_nil)
 (pss_one (ps_ret (pe_cmpR op_isA (pe_callG (ok_shows_one T) (hr.mono (by omega)) hG (by rfl) T.g_shows_one T.F_shows_one.kp T.B_shows_one (pa_cons (pe_ix ix_seq (pv 8) pe_int (fun _ _ => rfl)) (pa_cons (pe_ix ix_seq (pv 8) pe_int (fun _ _ => rfl)) (pa_cons (pe_tup (pa_cons pe_str (pa_cons (pe_ix ix_seq (pv 5) pe_int (fun _ _ => rfl)) pa_nil))) pa_nil)))) pe_bl (nomark _))))))))))))))), ?_⟩
  exact (sok_seq (sok_set 1 (eok_fn (aok_cons (eok_var 0) (aok_cons (eok_int 14) aok_nil)) (an_cons (an_cons an_nil))))
 (sok_seq (sok_frz [1] (sok_unp (gok_tup (gsok_cons (gok_name 2) (gsok_cons (gok_name 3) gsok_nil)) (gs_len (gs_len gs_len0 _) _)) (eok_fn (aok_cons (eok_var 1) aok_nil) (an_cons an_nil))))
 (sok_seq (sok_set 4 (eok_fn aok_nil an_nil))
 (sok_seq (sok_set 5 (eok_lst (aok_cons (eok_op r2_ix (eok_var 4) (eok_op r2_mod (eok_op r2_ix (eok_var 1) (eok_int 10)) (eok_callB F3.cr_len (aok_cons (eok_var 4) aok_nil)))) (aok_cons (eok_op r2_ix (eok_var 4) (eok_op r2_mod (eok_op r2_ix (eok_var 1) (eok_int 11)) (eok_callB F3.cr_len (aok_cons (eok_var 4) aok_nil)))) aok_nil))))
 (sok_seq (sok_set 6 (eok_fn (aok_cons (eok_var 2) aok_nil) (an_cons an_nil)))
 (sok_seq (sok_set 7 (eok_fn (aok_cons (eok_var 3) aok_nil) (an_cons an_nil)))
 (sok_seq (sok_set 8 (eok_lst (aok_cons (eok_var 6) (aok_cons (eok_fn (aok_cons (eok_op r2_ix (eok_var 5) (eok_int 0)) (aok_cons (eok_var 6) aok_nil)) (an_cons (an_cons an_nil))) (aok_cons (eok_var 7) (aok_cons (eok_fn (aok_cons (eok_op r2_ix (eok_var 5) (eok_int 1)) (aok_cons (eok_var 7) aok_nil)) (an_cons (an_cons an_nil))) aok_nil))))))
 (sok_seq (sok_frz [8] (sok_set 9 (eok_lc (iok_seq (eok_var 8)) (gok_name 14) tok_yes (eok_lc (iok_seq (eok_var 8)) (gok_name 15) tok_yes (eok_fn (aok_cons (eok_var 14) (aok_cons (eok_var 15) aok_nil)) (an_cons (an_cons an_nil))) (by decide)) (by decide))))
 (sok_seq (sok_fo [10, 11, 12] (sok_pre [10, 11, 12] (sok_for (iok_rng1 (aok_cons (eok_int 4) aok_nil)) (gok_name 10)
  (sok_fo [10, 11, 12] (sok_fo [11, 12] (sok_pre [11, 12] (sok_for (iok_rng1 (aok_cons (eok_int 4) aok_nil)) (gok_name 11)
  (sok_fo [11, 12] (sok_seq (sok_if (tok_or (tok_test (eok_op r2_is (eok_op r2_ix (eok_op r2_ix (eok_var 9) (eok_var 10)) (eok_var 11)) eok_none)) (tok_or (tok_test (eok_op r2_ne (eok_op r2_ix (eok_op r2_ix (eok_var 9) (eok_var 10)) (eok_var 11)) (eok_op r2_ix (eok_op r2_ix (eok_var 9) (eok_var 11)) (eok_var 10)))) (tok_and (tok_test (eok_op r2_eq (eok_op r2_fdiv (eok_var 10) (eok_int 2)) (eok_op r2_fdiv (eok_var 11) (eok_int 2)))) (tok_not (tok_val (eok_op r2_ix (eok_op r2_ix (eok_var 9) (eok_var 10)) (eok_var 11)))))))
  (sok_ret (eok_bool false))
  sok_pass)
 (sok_seq (sok_if (tok_and (tok_val (eok_op r2_ix (eok_op r2_ix (eok_var 9) (eok_var 10)) (eok_var 11))) (tok_test (eok_op r2_ne (eok_op r2_add (eok_op r2_ix (eok_op r2_ix (eok_var 8) (eok_var 10)) (eok_int 0)) (eok_op r2_ix (eok_op r2_ix (eok_var 8) (eok_var 10)) (eok_int 3))) (eok_op r2_add (eok_op r2_ix (eok_op r2_ix (eok_var 8) (eok_var 11)) (eok_int 0)) (eok_op r2_ix (eok_op r2_ix (eok_var 8) (eok_var 11)) (eok_int 3))))))
  (sok_ret (eok_bool false))
  sok_pass)
 (sok_fo [12] (sok_pre [12] (sok_for (iok_rng1 (aok_cons (eok_int 4) aok_nil)) (gok_name 12)
  (sok_fo [12] (sok_if (tok_and (tok_val (eok_op r2_ix (eok_op r2_ix (eok_var 9) (eok_var 10)) (eok_var 12))) (tok_and (tok_val (eok_op r2_ix (eok_op r2_ix (eok_var 9) (eok_var 12)) (eok_var 11))) (tok_not (tok_val (eok_op r2_ix (eok_op r2_ix (eok_var 9) (eok_var 10)) (eok_var 11))))))
  (sok_ret (eok_bool false))
  sok_pass)))))))))))))))
 (sok_seq (sok_fo [10, 11, 13] (sok_pre [10, 11, 13] (sok_for (iok_seq (eok_lst (aok_cons (eok_tup (aok_cons (eok_int 0) (aok_cons (eok_int 1) aok_nil))) (aok_cons (eok_tup (aok_cons (eok_int 0) (aok_cons (eok_int 2) aok_nil))) (aok_cons (eok_tup (aok_cons (eok_int 1) (aok_cons (eok_int 2) aok_nil))) (aok_cons (eok_tup (aok_cons (eok_int 2) (aok_cons (eok_int 3) aok_nil))) (aok_cons (eok_tup (aok_cons (eok_int 0) (aok_cons (eok_int 3) aok_nil))) aok_nil))))))) (gok_tup (gsok_cons (gok_name 10) (gsok_cons (gok_name 11) gsok_nil)) (gs_len (gs_len gs_len0 _) _))
  (sok_fo [10, 11, 13] (sok_seq (sok_frz [4] (sok_set 13 (eok_fn (aok_cons (eok_var 4) (aok_cons (eok_op r2_ix (eok_var 8) (eok_var 10)) (aok_cons (eok_op r2_ix (eok_var 8) (eok_var 11)) aok_nil))) (an_cons (an_cons (an_cons an_nil))))))
 (sok_if (tok_and (tok_test (eok_op r2_isnot (eok_var 13) eok_none)) (tok_or (tok_not (tok_val (eok_op r2_ix (eok_op r2_ix (eok_var 9) (eok_var 10)) (eok_var 11)))) (tok_test (eok_op r2_isnot (eok_fn (aok_cons (eok_op r2_ix (eok_var 8) (eok_var 10)) (aok_cons (eok_op r2_ix (eok_var 8) (eok_var 11)) (aok_cons (eok_tup (aok_cons (eok_str "one") (aok_cons (eok_var 13) aok_nil))) aok_nil))) (an_cons (an_cons (an_cons an_nil)))) (eok_bool true)))))
  (sok_ret (eok_bool false))
  sok_pass))))))
 (sok_seq (sok_frz [4] (sok_if (tok_or (tok_test (eok_op r2_ne (eok_op r2_ix (eok_op r2_ix (eok_var 9) (eok_int 0)) (eok_int 2)) (eok_fn (aok_cons (eok_var 2) (aok_cons (eok_var 3) aok_nil)) (an_cons (an_cons an_nil))))) (tok_test (eok_op r2_is (eok_fn (aok_cons (eok_var 4) (aok_cons (eok_op r2_ix (eok_var 8) (eok_int 0)) (aok_cons (eok_op r2_ix (eok_var 8) (eok_int 1)) aok_nil))) (an_cons (an_cons (an_cons an_nil)))) eok_none)))
  (sok_ret (eok_bool false))
  sok_pass))
 (sok_ret (eok_op r2_is (eok_fn (aok_cons (eok_op r2_ix (eok_var 8) (eok_int 0)) (aok_cons (eok_op r2_ix (eok_var 8) (eok_int 1)) (aok_cons (eok_tup (aok_cons (eok_str "one") (aok_cons (eok_op r2_ix (eok_var 5) (eok_int 0)) aok_nil))) aok_nil))) (an_cons (an_cons (an_cons an_nil)))) (eok_bool true))))))))))))))
end
end Lk75
set_option maxRecDepth 100000
set_option maxHeartbeats 1000000
namespace Lk75
open PySem L2 F3
theorem mulOks {n m : Nat} {x y : M} (hx : x.bd n) (hy : y.bd m) (h : n + m < 1000000) :
    mulOk x.a y.a ∧ mulOk x.b y.c ∧ mulOk x.a y.b ∧ mulOk x.b y.d ∧ mulOk x.c y.a ∧ mulOk x.d y.c ∧ mulOk x.c y.b ∧ mulOk x.d y.d := by
  obtain ⟨h1, h2, h3, h4⟩ := hx
  obtain ⟨g1, g2, g3, g4⟩ := hy
  exact ⟨mulOk_of h1 g1 h, mulOk_of h2 g3 h, mulOk_of h1 g2 h, mulOk_of h2 g4 h, mulOk_of h3 g1 h, mulOk_of h4 g3 h, mulOk_of h3 g2 h, mulOk_of h4 g4 h⟩
theorem e_turn_product {n m : Nat} {x y : M} (hx : x.bd n) (hy : y.bd m) (h : n + m < 1000000) : f_turn_product [x.D, y.D] = some (.sh (x * y).D) := by
  obtain ⟨h1, h2, h3, h4, h5, h6, h7, h8⟩ := mulOks hx hy h
  simp [f_turn_product, b_turn_product, M.D, M.mul_def, *]
theorem e_law_times {n m : Nat} {x y : M} (hx : x.bd n) (hy : y.bd m) (h : n + m < 1000000) : f__law_times [x.D, y.D] = some (.sh (x * y).D) := by
  obtain ⟨h1, h2, h3, h4, h5, h6, h7, h8⟩ := mulOks hx hy h
  simp [f__law_times, b__law_times, M.D, M.mul_def, *]
theorem e_turn_back (x : M) : f_turn_back [x.D] = some (.sh x.inv.D) := by
  simp [f_turn_back, b_turn_back, M.D, M.inv]
theorem e_turned_by {n m : Nat} {x h : M} (hx : x.bd n) (hh : h.bd m) (hs : n + m + m + 1 < 1000000) : f_turned_by [x.D, h.D] = some (.sh (M.by_ h x).D) := by
  have e1 := e_turn_product hh hx (by omega)
  have e2 := e_turn_product (hh.mul hx) hh.inv (by omega)
  simp [f_turned_by, b_turned_by, e_turn_back, e1, e2, M.by_]
theorem e_law_by {n m : Nat} {x h : M} (hx : x.bd n) (hh : h.bd m) (hs : n + m + m + 1 < 1000000) : f__law_by [h.D, x.D] = some (.sh (M.by_ h x).D) := by
  have e1 := e_law_times hh hx (by omega)
  have e2 := e_law_times (hh.mul hx) hh.inv (by omega)
  simp [f__law_by, b__law_by, e1]
  simp [M.D, M.inv] at e2 ⊢
  simp [e2, M.by_, M.inv]
theorem e_leads {n m k : Nat} {x y h : M} (hx : x.bd n) (hy : y.bd m) (hh : h.bd k) (h1 : k + n < 1000000) (h2 : m + k < 1000000) : f_leads [x.D, y.D, h.D] = some (.sh (.bool (decide (h * x = y * h)))) := by
  have e1 := e_turn_product hh hx h1
  have e2 := e_turn_product hy hh h2
  simp [f_leads, b_leads, e1, e2, eqD_M]
theorem e_law_leads {n m k : Nat} {x y h : M} (hx : x.bd n) (hy : y.bd m) (hh : h.bd k) (h1 : k + n < 1000000) (h2 : m + k < 1000000) : f__law_leads [x.D, y.D, h.D] = some (.sh (.bool (decide (h * x = y * h)))) := by
  have e1 := e_law_times hh hx h1
  have e2 := e_law_times hy hh h2
  simp [f__law_leads, b__law_leads, e1, e2, eqD_M]
def isNum : PyData → Bool
  | .int _ => true
  | _ => false
theorem e_is_number (d : PyData) : f_is_number [d] = some (.sh (.bool (isNum d))) := by
  cases d <;> simp [f_is_number, b_is_number, isNum]
theorem e_law_is_number (d : PyData) : f__law_is_number [d] = some (.sh (.bool (isNum d))) := by
  cases d <;> simp [f__law_is_number, b__law_is_number, isNum]
theorem nums_of : ∀ {ds : List PyData}, ds.all isNum = true → ∃ ns : List Int, ds = ns.map .int
  | [], _ => ⟨[], rfl⟩
  | d :: ds, h => by
    simp only [List.all_cons, Bool.and_eq_true] at h
    obtain ⟨ns, rfl⟩ := nums_of h.2
    cases d with
    | int i => exact ⟨i :: ns, rfl⟩
    | _ => exact absurd h.1 (by simp [isNum])
theorem all_nums (ns : List Int) : (ns.map PyData.int).all isNum = true := by
  simp [isNum]
theorem for_all {g : PyData → Rh → Option Rh} {b : Rh → Option Out} {p : PyData → Bool} {ρ : Rh} (h : ∀ d, ((g d ρ).bind b) = some (if p d = true then .nx ρ else .rt (.sh (.bool false)))) :
    ∀ ds : List PyData, forD g b ds ρ = some (if ds.all p = true then .nx ρ else .rt (.sh (.bool false)))
  | [] => by simp [forD]
  | d :: ds => by
    have hd := h d
    obtain ⟨ρ1, e1, e2⟩ := bind_some hd
    have ih := for_all h ds
    unfold forD
    rw [e1, Option.bind_some, e2, Option.bind_some]
    by_cases hp : p d = true
    · simp only [hp, if_true, List.all_cons, Bool.true_and]
      exact ih
    · simp [hp]
theorem e_law_is_numbers (d : PyData) : f__law_is_numbers [d] = some (.sh (.bool (match d with | .list ds => ds.all isNum | _ => false))) := by
  cases d with
  | list ds =>
    have := for_all (g := gNm 1) (b := sFo [1] (sIf (tNotD (tOf (eFn f__law_is_number (aCons (eVar 1) aNil)))) (sRet (eC (.bool false))) sPass)) (p := isNum) (ρ := [some (.sh (.list ds)), none]) (fun d => by
      simp [e_law_is_number]
      cases isNum d <;> first | rfl | simp) ds
    cases hb : ds.all isNum <;> rw [hb] at this <;> simp [f__law_is_numbers, b__law_is_numbers, this, hb]
  | _ => simp [f__law_is_numbers, b__law_is_numbers]
def isTupN (k : Nat) : PyData → Bool
  | .tuple ds => decide (ds.length = k) && ds.all isNum
  | _ => false
theorem e_is_number_tuple (d : PyData) (k : Nat) : f_is_number_tuple [d, .int k] = some (.sh (.bool (isTupN k d))) := by
  cases d with
  | tuple ds =>
    have := for_all (g := gNm 2) (b := sFo [2] (sIf (tNotD (tOf (eFn f_is_number (aCons (eVar 2) aNil)))) (sRet (eC (.bool false))) sPass)) (p := isNum) (ρ := [some (.sh (.tuple ds)), some (.sh (.int k)), none]) (fun d => by
      simp [e_is_number]
      cases isNum d <;> first | rfl | simp) ds
    by_cases hk : ds.length = k
    · cases hb : ds.all isNum <;> rw [hb] at this <;> simp [f_is_number_tuple, b_is_number_tuple, this, isTupN, hk, hb]
    · have hk' : ¬ (ds.length : Int) = (k : Int) := by omega
      simp [f_is_number_tuple, b_is_number_tuple, isTupN, hk, hk']
  | _ => simp [f_is_number_tuple, b_is_number_tuple, isTupN]
theorem e_law_is_tuple (d : PyData) (k : Nat) : f__law_is_tuple [d, .int k] = some (.sh (.bool (isTupN k d))) := by
  cases d with
  | tuple ds =>
    have := for_all (g := gNm 2) (b := sFo [2] (sIf (tNotD (tOf (eFn f__law_is_number (aCons (eVar 2) aNil)))) (sRet (eC (.bool false))) sPass)) (p := isNum) (ρ := [some (.sh (.tuple ds)), some (.sh (.int k)), none]) (fun d => by
      simp [e_law_is_number]
      cases isNum d <;> first | rfl | simp) ds
    by_cases hk : ds.length = k
    · cases hb : ds.all isNum <;> rw [hb] at this <;> simp [f__law_is_tuple, b__law_is_tuple, this, isTupN, hk, hb]
    · have hk' : ¬ (ds.length : Int) = (k : Int) := by omega
      simp [f__law_is_tuple, b__law_is_tuple, isTupN, hk, hk']
  | _ => simp [f__law_is_tuple, b__law_is_tuple, isTupN]
def isTurn : PyData → Bool
  | .tuple [.int a, .int b, .int c, .int e] => decide ((M.mk a b c e).det = 1)
  | _ => false
theorem isTurn_M (m : M) : isTurn m.D = decide (m.det = 1) := rfl
theorem tup4 {d : PyData} (h : isTupN 4 d = true) : ∃ m : M, d = m.D := by
  cases d with
  | tuple ds =>
    simp only [isTupN, Bool.and_eq_true, decide_eq_true_eq] at h
    obtain ⟨ns, rfl⟩ := nums_of h.2
    have hl := h.1
    rw [List.length_map] at hl
    match ns, hl with
    | [a, b, c, e], _ => exact ⟨⟨a, b, c, e⟩, rfl⟩
  | _ => simp [isTupN] at h
theorem isTurn_no {d : PyData} (h : isTupN 4 d = false) : isTurn d = false := by
  unfold isTurn
  split
  · simp [isTupN, isNum] at h
  · rfl
theorem gd_M {m : M} (h : Gd m.D) : m.bd IB := by
  have := h.ok
  simp only [M.D, okB_t, okL_c, okB_i, okL_n, Bool.and_eq_true, decide_eq_true_eq] at this
  exact ⟨this.1, this.2.1, this.2.2.1, this.2.2.2.1⟩
theorem e_is_turn {d : PyData} (h : Gd d) : f_is_turn [d] = some (.sh (.bool (isTurn d))) := by
  have e : f_is_number_tuple [d, .int 4] = _ := e_is_number_tuple d 4
  cases ht : isTupN 4 d with
  | false => simp [f_is_turn, b_is_turn, e, ht, isTurn_no ht]
  | true =>
    obtain ⟨m, rfl⟩ := tup4 ht
    obtain ⟨h1, h2, h3, h4⟩ := gd_M h
    have m1 := mulOk_of h1 h4 (by decide)
    have m2 := mulOk_of h2 h3 (by decide)
    rw [ht] at e
    rw [isTurn_M]
    simp only [M.D] at e
    simp [f_is_turn, b_is_turn, e, M.D, m1, m2, M.det]
    by_cases hh : m.a * m.d - m.b * m.c = 1 <;> simp [hh]
theorem e_law_is_turn {d : PyData} (h : Gd d) : f__law_is_turn [d] = some (.sh (.bool (isTurn d))) := by
  have e : f__law_is_tuple [d, .int 4] = _ := e_law_is_tuple d 4
  cases ht : isTupN 4 d with
  | false => simp [f__law_is_turn, b__law_is_turn, e, ht, isTurn_no ht]
  | true =>
    obtain ⟨m, rfl⟩ := tup4 ht
    obtain ⟨h1, h2, h3, h4⟩ := gd_M h
    have m1 := mulOk_of h1 h4 (by decide)
    have m2 := mulOk_of h2 h3 (by decide)
    rw [ht] at e
    rw [isTurn_M]
    simp only [M.D] at e
    simp [f__law_is_turn, b__law_is_turn, e, M.D, m1, m2, M.det]
    by_cases hh : m.a * m.d - m.b * m.c = 1 <;> simp [hh]
theorem isTurn_yes {d : PyData} (h : isTurn d = true) : ∃ m : M, d = m.D ∧ m.det = 1 := by
  unfold isTurn at h
  split at h
  · exact ⟨_, rfl, of_decide_eq_true h⟩
  · cases h
theorem rOk_nat {n : Nat} (h : n ≤ 1000000) : rOk (n : Int) := by
  unfold rOk
  omega
def isS (t : Str) : PyData → Bool
  | .str x => decide (x = t)
  | _ => false
theorem e_same_str (n : Nat) (d : PyData) (t : Str) : f__law_same (n + 1) [d, .str t] = some (.sh (.bool (isS t d))) := by
  cases d <;> simp [f__law_same, isS]
theorem e_same_bool (n : Nat) (p q : Bool) : f__law_same (n + 1) [.bool p, .bool q] = some (.sh (.bool (p == q))) := by
  cases p <;> cases q <;> simp [f__law_same, eqD, PyData.eqv]
theorem e_same_two (n : Nat) (p q : Bool) : f__law_same (n + 2) [.list [.bool p, .bool q], .list [.bool p, .bool q]] = some (.sh (.bool true)) := by
  have h1 := e_same_bool n p p
  have h2 := e_same_bool n q q
  have r : rOk 2 := rOk_nat (n := 2) (by decide)
  have e2 : rangeD 0 1 2 = [.int 0, .int 1] := rfl
  rw [f__law_same]
  simp [r, e2, forD, h1, h2]
def frs : PyData → Res
  | .list ds => .fr ds
  | d => .sh d
theorem frs_shr (d : PyData) : (frs d).shr = some d := by cases d <;> rfl
theorem lc_all {elt : Rh → Option Res} {i : Nat} {ρ : Rh} {r : PyData → Res} (hr : ∀ d, (r d).shr = some d) : ∀ ds : List PyData, (∀ d ∈ ds, elt (ρ.set i (some (.sh d))) = some (r d)) → lcD (gNm i) tYesD elt ρ ds = some ds
  | [], _ => by simp [lcD]
  | d :: ds, h => by
    have h1 := h d List.mem_cons_self
    have h2 := lc_all hr ds fun e he => h e (List.mem_cons_of_mem _ he)
    simp [lcD, h1, h2, hr]
def lt (k : Nat) (t : Int) : M := if k % 2 = 0 then ⟨1, t, 0, 1⟩ else ⟨1, 0, t, 1⟩
def a0 (ns : List Int) (k : Nat) : Int := ns[k]?.getD 0
def cyP (ns : List Int) : Nat → M
  | 0 => M.one
  | k + 1 => cyP ns k * lt k (a0 ns k)
def cyc (ns : List Int) : M := cyP ns ns.length
theorem one_bd : M.one.bd 1 := by simp [M.bd, M.one, Bd]
theorem lt_bd {n : Nat} {t : Int} (h : Bd n t) (k : Nat) : (lt k t).bd (n + 1) := by
  have h1 : Bd (n + 1) 1 := by
    show (1 : Nat) < 2 ^ (n + 1)
    exact Nat.one_lt_two_pow (by omega)
  have h0 : Bd (n + 1) 0 := by
    show (0 : Nat) < 2 ^ (n + 1)
    exact Nat.two_pow_pos _
  have ht := h.mono (Nat.le_succ n)
  unfold lt
  split <;> simp only [M.bd, h1, h0, ht, and_self]
theorem a0_bd {n : Nat} {ns : List Int} (h : ∀ i ∈ ns, Bd n i) (k : Nat) : Bd n (a0 ns k) := by
  unfold a0
  by_cases hk : k < ns.length
  · rw [List.getElem?_eq_getElem hk]
    exact h _ (List.getElem_mem hk)
  · rw [List.getElem?_eq_none (by omega)]
    exact Nat.two_pow_pos _
theorem cyP_bd {n : Nat} {ns : List Int} (h : ∀ i ∈ ns, Bd n i) : ∀ k : Nat, (cyP ns k).bd (1 + k * (n + 2))
  | 0 => one_bd.mono (by omega)
  | k + 1 => by
    have := (cyP_bd h k).mul (lt_bd (a0_bd h k) k)
    exact this.mono (by rw [Nat.succ_mul]; omega)
theorem for_rng {g : PyData → Rh → Option Rh} {b : Rh → Option Out} (S : Nat → Rh) {n : Nat} (h : ∀ k, k < n → (g (.int (k : Int)) (S k)).bind b = some (.nx (S (k + 1)))) : forD g b (rangeD 0 1 n) (S 0) = some (.nx (S n)) := by
  have : ∀ (m k : Nat), k + m = n → forD g b ((List.range' k m).map fun (j : Nat) => PyData.int (0 + (j : Int) * 1)) (S k) = some (.nx (S n)) := by
    intro m
    induction m with
    | zero =>
      intro k hk
      have : k = n := by omega
      subst this
      simp [forD]
    | succ m ih =>
      intro k hk
      rw [List.range'_succ, List.map_cons, forD]
      have e := h k (by omega)
      rw [show (0 + (k : Int) * 1) = (k : Int) by omega]
      obtain ⟨ρ1, e1, e2⟩ := bind_some e
      rw [e1, Option.bind_some, e2, Option.bind_some]
      exact ih (k + 1) (by omega)
  have := this n 0 (by omega)
  unfold rangeD
  rw [List.range_eq_range']
  exact this
theorem mod2 (k : Nat) : ((k : Int) % 2 == 0) = decide (k % 2 = 0) := by
  rw [Bool.eq_iff_iff, beq_iff_eq, decide_eq_true_eq]
  omega
theorem ints_at (ns : List Int) {k : Nat} (hk : k < ns.length) : (ns.map PyData.int)[k]? = some (.int (a0 ns k)) := by
  unfold a0
  rw [List.getElem?_map, List.getElem?_eq_getElem hk]
  rfl
theorem e_cycle_turn {n : Nat} {ns : List Int} (h : ∀ i ∈ ns, Bd n i) (hn : ns.length * (n + 2) + n < 999000) (hl : ns.length ≤ 1000) : f_cycle_turn [.list (ns.map .int)] = some (.sh (cyc ns).D) := by
  have := for_rng (g := gNm 2) (b := (sFo [2] (sIf (tOf (eBin eqR (eBin modR (eVar 2) (eC (.int 2))) (eC (.int 0))))
  (sSet 1 (eFn f_turn_product (aCons (eVar 1) (aCons (eTup (aCons (eC (.int 1)) (aCons (eBin ixR (eVar 0) (eVar 2)) (aCons (eC (.int 0)) (aCons (eC (.int 1)) aNil))))) aNil))))
  (sSet 1 (eFn f_turn_product (aCons (eVar 1) (aCons (eTup (aCons (eC (.int 1)) (aCons (eC (.int 0)) (aCons (eBin ixR (eVar 0) (eVar 2)) (aCons (eC (.int 1)) aNil))))) aNil)))))))
   (fun k => [some (.sh (.list (ns.map .int))), some (.sh (cyP ns k).D), none]) (n := ns.length) (fun k hk => by
    have hb := cyP_bd h k
    have hm := lt_bd (a0_bd h k) k
    have hkn : k * (n + 2) ≤ ns.length * (n + 2) := Nat.mul_le_mul_right _ (by omega)
    have e := e_turn_product hb hm (by omega)
    have e2 := ints_at ns hk
    by_cases hp : k % 2 = 0
    · rw [lt, if_pos hp] at e
      simp only [M.D] at e
      simp [mod2, hp, e2, M.D, e, cyP, lt]
    · rw [lt, if_neg hp] at e
      simp only [M.D] at e
      simp [mod2, hp, e2, M.D, e, cyP, lt])
  have r : rOk (ns.length : Int) := rOk_nat (by omega)
  have hs : c_STILL = (cyP ns 0).D := rfl
  simp [f_cycle_turn, b_cycle_turn, r, hs, this, cyc]
theorem rsize2 {n : Nat} : Builtin.Range.rangeSize 0 (n : Int) 2 = (((n + 1) / 2 : Nat) : Int) := by
  unfold Builtin.Range.rangeSize
  simp only [show (2 : Int) > 0 by decide, if_true]
  split <;> omega
theorem rngD_s2 {n : Nat} (h : n ≤ 1000000) : rngD [0, (n : Int), 2] = some (rangeD 0 2 ((n + 1) / 2)) := by
  have e := rsize2 (n := n)
  have hs : Builtin.Range.small 0 (n : Int) 2 = true := by
    unfold Builtin.Range.small
    rw [e]
    have f : ∀ i : Int, 0 ≤ i → i ≤ 2000000 → Builtin.Range.rangeFitsLong i = true := fun i h0 h1 => by
      unfold Builtin.Range.rangeFitsLong
      rw [Bool.and_eq_true, decide_eq_true_eq, decide_eq_true_eq]
      constructor <;> omega
    rw [f 0 (by decide) (by decide), f _ (by omega) (by omega), f 2 (by decide) (by decide), f _ (by omega) (by omega), if_pos (by decide), f _ (by omega) (by omega), Bool.or_true]
    rfl
  rw [rngD_eq]
  show (if (2 : Int) ≠ 0 ∧ (2 : Int).natAbs < 1073741824 ∧ Builtin.Range.small 0 (n : Int) 2 = true ∧ 0 ≤ Builtin.Range.rangeSize 0 (n : Int) 2 then some (rangeD 0 2 (Builtin.Range.rangeSize 0 (n : Int) 2).toNat) else none) = _
  rw [if_pos ⟨by decide, by decide, hs, by rw [e]; omega⟩, e, Int.toNat_natCast]
theorem cut_from (ds : List PyData) (k : Nat) : cutD ds (some (k : Int)) none = ds.drop k := by
  unfold cutD
  rw [HT.sIx_nat, HT.sIx_none]
  by_cases h : k ≤ ds.length
  · rw [Nat.min_eq_left h, List.take_of_length_le (by rw [List.length_drop]; omega)]
  · rw [Nat.min_eq_right (by omega), List.drop_of_length_le (Nat.le_refl _), List.drop_of_length_le (by omega), List.take_nil]
theorem cut_to (ds : List PyData) (k : Nat) : cutD ds none (some (k : Int)) = ds.take k := by
  unfold cutD
  rw [HT.sIx_nat, HT.sIx_none, Nat.sub_zero, List.drop_zero]
  by_cases h : k ≤ ds.length
  · rw [Nat.min_eq_left h]
  · rw [Nat.min_eq_right (by omega), List.take_of_length_le (Nat.le_refl _), List.take_of_length_le (by omega)]
theorem cut_last (ds : List PyData) : cutD ds (some (-1)) none = ds.drop (ds.length - 1) := by
  unfold cutD
  have e : HT.sIx ds.length 0 (some (-1)) = ds.length - 1 := by
    show (if (-1 : Int) < 0 then ((-1 : Int) + (ds.length : Int)).toNat else min (-1 : Int).toNat ds.length) = _
    rw [if_pos (by decide)]
    omega
  rw [e, HT.sIx_none, List.take_of_length_le (by rw [List.length_drop]; omega)]
theorem cut_front (ds : List PyData) : cutD ds none (some (-1)) = ds.take (ds.length - 1) := by
  unfold cutD
  have e : HT.sIx ds.length ds.length (some (-1)) = ds.length - 1 := by
    show (if (-1 : Int) < 0 then ((-1 : Int) + (ds.length : Int)).toNat else min (-1 : Int).toNat ds.length) = _
    rw [if_pos (by decide)]
    omega
  rw [e, HT.sIx_none, Nat.sub_zero, List.drop_zero]
def rot (ns : List Int) (k : Nat) : List Int := ns.drop k ++ ns.take k
theorem rot_map (ns : List Int) (k : Nat) : (ns.map PyData.int).drop k ++ (ns.map PyData.int).take k = (rot ns k).map PyData.int := by
  unfold rot
  rw [List.map_append, List.map_drop, List.map_take]
theorem rot_len (ns : List Int) (k : Nat) : (rot ns k).length = ns.length := by
  unfold rot
  rw [List.length_append, List.length_drop, List.length_take]
  omega
theorem lens_map (ns : List Int) (k : Nat) (h : ns.length ≤ 1000) : ((ns.map PyData.int).drop k).length + ((ns.map PyData.int).take k).length ≤ LIM := by
  rw [List.length_drop, List.length_take, List.length_map]
  unfold LIM
  omega
theorem e_turned_on (ns : List Int) (k : Nat) (h : ns.length ≤ 1000) : f_turned_on [.list (ns.map .int), .int k] = some (.fr ((rot ns k).map .int)) := by
  have h1 := lens_map ns k h
  rw [← rot_map]
  have h2 : ns.length - k + min k ns.length ≤ 1000000 := by omega
  simp [f_turned_on, b_turned_on, cut_from, cut_to, h2]
theorem for_find {g : PyData → Rh → Option Rh} {b : Rh → Option Out} {p : Nat → Bool} {c : Nat → PyData} {r : Nat → Res} {ρ : Rh} : ∀ ks : List Nat, (∀ k ∈ ks, (g (c k) ρ).bind b = some (if p k = true then .rt (r k) else .nx ρ)) →
    forD g b (ks.map c) ρ = some (match ks.find? p with | some k => .rt (r k) | none => .nx ρ)
  | [], _ => by simp [forD]
  | k :: ks, h => by
    have hd := h k List.mem_cons_self
    obtain ⟨ρ1, e1, e2⟩ := bind_some hd
    have ih := for_find ks fun j hj => h j (List.mem_cons_of_mem _ hj)
    rw [List.map_cons, forD, e1, Option.bind_some, e2, Option.bind_some, List.find?_cons]
    by_cases hp : p k = true
    · simp only [hp, if_true]
    · have hp' : p k = false := by simpa using hp
      simp only [hp', Bool.false_eq_true, if_false]
      exact ih
def mt (ns ms : List Int) : Option Nat := (List.range ((ns.length + 1) / 2)).find? fun j => decide (rot ns (2 * j) = ms)
theorem range2 (n : Nat) : rangeD 0 2 n = (List.range n).map fun k => PyData.int ((2 * k : Nat) : Int) := by
  unfold rangeD
  congr
  funext k
  congr 1
  omega
theorem e_meeting (ns ms : List Int) (h : ns.length ≤ 1000) : f_meeting [.list (ns.map .int), .list (ms.map .int)] = some (match mt ns ms with | some j => .sh (.int ((2 * j : Nat) : Int)) | none => .sh .none) := by
  have h0 := rngD_s2 (n := ns.length) (by omega)
  have := for_find (g := gNm 2) (b := sFo [2] (sIf (tOf (eBin eqR (eFn f_turned_on (aCons (eVar 0) (aCons (eVar 2) aNil))) (eVar 1))) (sRet (eVar 2)) sPass)) (p := fun j => decide (rot ns (2 * j) = ms)) (c := fun k => PyData.int ((2 * k : Nat) : Int)) (r := fun k => .sh (PyData.int ((2 * k : Nat) : Int))) (ρ := [some (.sh (.list (ns.map .int))), some (.sh (.list (ms.map .int))), none])
    (List.range ((ns.length + 1) / 2)) (fun k hk => by
      have e := e_turned_on ns (2 * k) h
      obtain ⟨i, hi⟩ : ∃ i : Nat, i = 2 * k := ⟨_, rfl⟩
      rw [← hi] at e ⊢
      by_cases hp : rot ns i = ms <;> simp [e, hp, Res.dat])
  rw [← range2] at this
  unfold mt
  cases hf : (List.range ((ns.length + 1) / 2)).find? (fun j => decide (rot ns (2 * j) = ms)) with
  | none => rw [hf] at this; simp [f_meeting, b_meeting, h0, this]
  | some j => rw [hf] at this; simp [f_meeting, b_meeting, h0, this]
theorem e_law_meet (ns ms : List Int) (h : ns.length ≤ 1000) : f__law_meet [.list (ns.map .int), .list (ms.map .int)] = some (.sh (.bool (mt ns ms).isSome)) := by
  have h0 := rngD_s2 (n := ns.length) (by omega)
  have := for_find (g := gNm 2) (b := sFo [2] (sIf (tOf (eBin eqR (eBin addR (eSl (eVar 0) (oIs (eVar 2)) oNo) (eSl (eVar 0) oNo (oIs (eVar 2)))) (eVar 1))) (sRet (eC (.bool true))) sPass)) (p := fun j => decide (rot ns (2 * j) = ms)) (c := fun k => PyData.int ((2 * k : Nat) : Int)) (r := fun k => .sh (.bool true)) (ρ := [some (.sh (.list (ns.map .int))), some (.sh (.list (ms.map .int))), none])
    (List.range ((ns.length + 1) / 2)) (fun k hk => by
      obtain ⟨i, hi⟩ : ∃ i : Nat, i = 2 * k := ⟨_, rfl⟩
      have h2 : ns.length - i + min i ns.length ≤ 1000000 := by omega
      rw [← hi]
      have h3 : eqD (.list ((ns.map PyData.int).drop i ++ (ns.map PyData.int).take i)) (.list (ms.map .int)) = some (decide (rot ns i = ms)) := by
        rw [rot_map, eqD_listInts]
      by_cases hp : rot ns i = ms <;> simp [cut_from, cut_to, h2, h3, hp, Res.dat])
  rw [← range2] at this
  unfold mt
  cases hf : (List.range ((ns.length + 1) / 2)).find? (fun j => decide (rot ns (2 * j) = ms)) with
  | none => rw [hf] at this; simp [f__law_meet, b__law_meet, h0, this]
  | some j => rw [hf] at this; simp [f__law_meet, b__law_meet, h0, this]
theorem cyP_U (ns : List Int) (k : Nat) (h : k % 2 = 0) : cyP ns (k + 1) = ⟨(cyP ns k).a, (cyP ns k).b + (cyP ns k).a * a0 ns k, (cyP ns k).c, (cyP ns k).d + (cyP ns k).c * a0 ns k⟩ := by
  show cyP ns k * lt k (a0 ns k) = _
  rw [lt, if_pos h, M.mul_def]
  ext <;> simp only [] <;> omega
theorem cyP_L (ns : List Int) (k : Nat) (h : ¬ k % 2 = 0) : cyP ns (k + 1) = ⟨(cyP ns k).a + (cyP ns k).b * a0 ns k, (cyP ns k).b, (cyP ns k).c + (cyP ns k).d * a0 ns k, (cyP ns k).d⟩ := by
  show cyP ns k * lt k (a0 ns k) = _
  rw [lt, if_neg h, M.mul_def]
  ext <;> simp only [] <;> omega
theorem e_law_cycle_turn {n : Nat} {ns : List Int} (h : ∀ i ∈ ns, Bd n i) (hn : ns.length * (n + 2) + n < 999000) (hl : ns.length ≤ 1000) : f__law_cycle_turn [.list (ns.map .int)] = some (.sh (cyc ns).D) := by
  have := for_rng (g := gNm 5) (b := (sFo [5] (sIf (tOf (eBin eqR (eBin modR (eVar 5) (eC (.int 2))) (eC (.int 0))))
  (sSeq (sSet 2 (eBin addR (eVar 2) (eBin mulI (eVar 1) (eBin ixR (eVar 0) (eVar 5)))))
 (sSet 4 (eBin addR (eVar 4) (eBin mulI (eVar 3) (eBin ixR (eVar 0) (eVar 5))))))
  (sSeq (sSet 1 (eBin addR (eVar 1) (eBin mulI (eVar 2) (eBin ixR (eVar 0) (eVar 5)))))
 (sSet 3 (eBin addR (eVar 3) (eBin mulI (eVar 4) (eBin ixR (eVar 0) (eVar 5)))))))))
   (fun k => [some (.sh (.list (ns.map .int))), some (.sh (.int (cyP ns k).a)), some (.sh (.int (cyP ns k).b)), some (.sh (.int (cyP ns k).c)), some (.sh (.int (cyP ns k).d)), none]) (n := ns.length) (fun k hk => by
    obtain ⟨b1, b2, b3, b4⟩ := cyP_bd h k
    have hm := a0_bd h k
    have hkn : k * (n + 2) ≤ ns.length * (n + 2) := Nat.mul_le_mul_right _ (by omega)
    have m1 := mulOk_of b1 hm (by omega)
    have m2 := mulOk_of b2 hm (by omega)
    have m3 := mulOk_of b3 hm (by omega)
    have m4 := mulOk_of b4 hm (by omega)
    have e2 := ints_at ns hk
    by_cases hp : k % 2 = 0
    · rw [cyP_U ns k hp]
      simp [mod2, hp, e2, m1, m2, m3, m4]
    · rw [cyP_L ns k hp]
      simp [mod2, hp, e2, m1, m2, m3, m4])
  have r : rOk (ns.length : Int) := rOk_nat (by omega)
  have e0 : cyP ns 0 = ⟨1, 0, 0, 1⟩ := rfl
  rw [e0] at this
  simp [f__law_cycle_turn, b__law_cycle_turn, r, this, cyc, M.D]
theorem min_all {ns : List Int} (h : ns ≠ []) : decide (0 < minL ns) = ns.all (fun i => decide (0 < i)) := by
  rw [Bool.eq_iff_iff, decide_eq_true_eq, List.all_eq_true]
  constructor
  · intro h1 i hi
    have := minL_le ns i hi
    exact decide_eq_true (by omega)
  · intro h1
    exact of_decide_eq_true (h1 _ (minL_mem ns h))
theorem lc_small : ∀ (ns : List Int) (ρ : Rh), ρ.length = 2 → lcD (gNm 1) (tOf (eBin ltR (eVar 1) (eC (.int 1)))) (eVar 1) ρ (ns.map .int) = some ((ns.filter (fun i => decide (i < 1))).map .int)
  | [], _, _ => by simp [lcD]
  | n :: ns, ρ, h => by
    have ih := lc_small ns ρ h
    obtain ⟨x, y, rfl⟩ : ∃ x y, ρ = [x, y] := by
      match ρ, h with
      | [x, y], _ => exact ⟨x, y, rfl⟩
    rw [List.map_cons]
    unfold lcD
    by_cases hn : n < 1 <;> simp [hn, ih]
theorem filt_all (ns : List Int) : decide (ns.filter (fun i => decide (i < 1)) = []) = ns.all (fun i => decide (0 < i)) := by
  rw [Bool.eq_iff_iff, decide_eq_true_eq, List.all_eq_true, List.filter_eq_nil_iff]
  constructor
  · intro h i hi
    have := h i hi
    simp only [decide_eq_true_eq] at this ⊢
    omega
  · intro h i hi
    have := h i hi
    simp only [decide_eq_true_eq] at this ⊢
    omega
def isCyc : PyData → Bool
  | .list ds => ds.all isNum && (decide (2 ≤ ds.length) && (decide (ds.length % 2 = 0) && ds.all (fun d => match d with | .int i => decide (0 < i) | _ => false)))
  | _ => false
theorem isCyc_ints (ns : List Int) : isCyc (.list (ns.map .int)) = (decide (2 ≤ ns.length) && (decide (ns.length % 2 = 0) && ns.all (fun i => decide (0 < i)))) := by
  have h := all_nums ns
  unfold isCyc
  simp only []
  rw [h, Bool.true_and, List.length_map, List.all_map]
  rfl
theorem isCyc_yes {d : PyData} (h : isCyc d = true) : ∃ ns : List Int, d = .list (ns.map .int) ∧ 2 ≤ ns.length ∧ ns.length % 2 = 0 ∧ ∀ i ∈ ns, 0 < i := by
  cases d with
  | list ds =>
    obtain ⟨ns, rfl⟩ := nums_of (show ds.all isNum = true by simp only [isCyc, Bool.and_eq_true] at h; exact h.1)
    rw [isCyc_ints] at h
    simp only [Bool.and_eq_true, decide_eq_true_eq, List.all_eq_true] at h
    exact ⟨ns, rfl, h.1, h.2.1, h.2.2⟩
  | _ => simp [isCyc] at h
theorem e_law_is_cycle (d : PyData) (hf : Gd d) : f__law_is_cycle [d] = some (.sh (.bool (isCyc d))) := by
  have e := e_law_is_numbers d
  cases d with
  | list ds =>
    cases hb : ds.all isNum with
    | false => rw [show isCyc (.list ds) = false by simp only [isCyc, hb, Bool.false_and]]; simp only [hb] at e; simp [f__law_is_cycle, b__law_is_cycle, e]
    | true =>
      obtain ⟨ns, rfl⟩ := nums_of hb
      simp only [hb] at e
      rw [isCyc_ints]
      by_cases h2 : 2 ≤ ns.length
      · by_cases h3 : ns.length % 2 = 0
        · have h2' : ¬ (ns.length : Int) < 2 := by omega
          have h3' : (ns.length : Int) % 2 = 0 := by omega
          have hl : ns.length ≤ 1000000 := by
            have := hf.few
            rw [cn_l, cnL_ints] at this
            omega
          have hm := filt_all ns
          have hs := lc_small ns [some (.sh (.list (ns.map .int))), none] rfl
          have hq : eqD (.list ((ns.filter (fun i => decide (i < 1))).map .int)) (.list []) = some (ns.all (fun i => decide (0 < i))) := by
            rw [← hm]
            exact eqD_listInts _ []
          simp [f__law_is_cycle, b__law_is_cycle, e, h2, h3, h2', h3', hl, wipeD]
          rw [hs, Option.bind_some]
          simp only [Option.bind_some]
          rw [hq]
          rfl
        · have h2' : ¬ (ns.length : Int) < 2 := by omega
          have h3' : ¬ (ns.length : Int) % 2 = 0 := by omega
          simp [f__law_is_cycle, b__law_is_cycle, e, h2, h3, h2', h3']
      · have h2' : (ns.length : Int) < 2 := by omega
        simp [f__law_is_cycle, b__law_is_cycle, e, h2, h2']
  | _ => simp [f__law_is_cycle, b__law_is_cycle, e, isCyc]
theorem cyc_gd {ns : List Int} (h : Gd (.list (ns.map .int))) : (∀ i ∈ ns, Bd IB i) ∧ ns.length ≤ 500 := by
  constructor
  · intro i hi
    exact (h.item (List.mem_map_of_mem hi)).int
  · have := h.few
    rw [cn_l, cnL_ints] at this
    omega
theorem cyc_bd {n : Nat} {ns : List Int} (h : ∀ i ∈ ns, Bd n i) : (cyc ns).bd (1 + ns.length * (n + 2)) := cyP_bd h _
def s1 : Str := "one"
def s2 : Str := "two"
theorem tag_no {d : PyData} {t : Str} (ds : List PyData) (k : Nat) (h : isS t d = false) (hk : ds.length + 1 = k) : f_is_tagged [.tuple (d :: ds), .str t, .int k] = some (.sh (.bool false)) := by
  have hk' : (ds.length : Int) + 1 = k := by omega
  cases d with
  | str x =>
    have hx : ¬ x = t := by simpa [isS] using h
    simp [f_is_tagged, b_is_tagged, hk', hx]
  | _ => simp [f_is_tagged, b_is_tagged, hk']
theorem tag_yes {t : Str} (ds : List PyData) (k : Nat) (hk : ds.length + 1 = k) : f_is_tagged [.tuple (.str t :: ds), .str t, .int k] = some (.sh (.bool true)) := by
  have hk' : (ds.length : Int) + 1 = k := by omega
  simp [f_is_tagged, b_is_tagged, hk']
theorem tag_len {t : Str} (ds : List PyData) (k : Nat) (hk : ¬ ds.length = k) : f_is_tagged [.tuple ds, .str t, .int k] = some (.sh (.bool false)) := by
  have hk' : ¬ (ds.length : Int) = k := by omega
  simp [f_is_tagged, b_is_tagged, hk']
theorem isS_yes {d : PyData} {t : Str} (h : isS t d = true) : d = .str t := by
  cases d with
  | str x => have : x = t := by simpa [isS] using h
             rw [this]
  | _ => simp [isS] at h
theorem one_at {x y m : M} (hx : x.bd 1000) (hy : y.bd 1000) (hm : m.bd IB) (gm : Gd m.D) (hd : m.det = 1) :
    f_shows_one [x.D, y.D, .tuple [.str "one", m.D]] = some (.sh (.bool (decide (m * x = y * m)))) ∧ f__law_right_one [x.D, y.D, .tuple [.str "one", m.D]] = some (.sh (.bool (decide (m * x = y * m)))) := by
  have l1 := e_leads hx hy hm (by decide) (by decide)
  have l2 := e_law_leads hx hy hm (by decide) (by decide)
  have t1 := e_is_turn gm
  have t2 := e_law_is_turn gm
  rw [isTurn_M, hd] at t1 t2
  have g1 : f_is_tagged [.tuple [.str "one", m.D], .str "one", .int 2] = _ := tag_yes [m.D] 2 rfl
  have g2 : f__law_same 24 [.str "one", .str "one"] = _ := e_same_str 23 (.str "one") "one"
  constructor
  · simp [f_shows_one, b_shows_one, g1, t1, l1]
  · simp [f__law_right_one, b__law_right_one, g2, t2, l2, isS]
theorem e_one {x y : M} (hx : x.bd 1000) (hy : y.bd 1000) {p : PyData} (g : Gd p) :
    ∃ b, f_shows_one [x.D, y.D, p] = some (.sh (.bool b)) ∧ f__law_right_one [x.D, y.D, p] = some (.sh (.bool b)) := by
  cases p with
  | tuple ds =>
    match ds, g with
    | [c, h], g =>
      have gh := g.itemT (d := h) (by simp)
      have g2 : f__law_same 24 [c, .str "one"] = _ := e_same_str 23 c "one"
      cases hs : isS "one" c with
      | false =>
        have g1 : f_is_tagged [.tuple [c, h], .str "one", .int 2] = _ := tag_no [h] 2 hs rfl
        rw [hs] at g2
        exact ⟨false, by simp [f_shows_one, b_shows_one, g1], by simp [f__law_right_one, b__law_right_one, g2]⟩
      | true =>
        cases isS_yes hs
        cases ht : isTurn h with
        | false =>
          have t1 := e_is_turn gh
          have t2 := e_law_is_turn gh
          have g1 : f_is_tagged [.tuple [.str "one", h], .str "one", .int 2] = _ := tag_yes [h] 2 rfl
          rw [ht] at t1 t2
          rw [hs] at g2
          exact ⟨false, by simp [f_shows_one, b_shows_one, g1, t1], by simp [f__law_right_one, b__law_right_one, g2, t2]⟩
        | true =>
          obtain ⟨m, rfl, hd⟩ := isTurn_yes ht
          obtain ⟨s1, s2⟩ := one_at hx hy (gd_M gh) gh hd
          exact ⟨_, s1, s2⟩
    | [], g =>
      have g1 : f_is_tagged [.tuple [], .str "one", .int 2] = _ := tag_len [] 2 (by decide)
      exact ⟨false, by simp [f_shows_one, b_shows_one, g1], by simp [f__law_right_one, b__law_right_one]⟩
    | [a], g =>
      have g1 : f_is_tagged [.tuple [a], .str "one", .int 2] = _ := tag_len [a] 2 (by simp)
      exact ⟨false, by simp [f_shows_one, b_shows_one, g1], by simp [f__law_right_one, b__law_right_one]⟩
    | a :: b :: c :: ds, g =>
      have h : ¬ ((ds.length : Int) + 1 + 1 + 1 = 2) := by omega
      have g1 : f_is_tagged [.tuple (a :: b :: c :: ds), .str "one", .int 2] = _ := tag_len (a :: b :: c :: ds) 2 (by simp)
      exact ⟨false, by simp [f_shows_one, b_shows_one, g1], by simp [f__law_right_one, b__law_right_one, h]⟩
  | _ => exact ⟨false, by simp [f_shows_one, b_shows_one, f_is_tagged, b_is_tagged], by simp [f__law_right_one, b__law_right_one]⟩
theorem for_still {g : PyData → Rh → Option Rh} {b : Rh → Option Out} {ρ : Rh} : ∀ ds : List PyData, (∀ d ∈ ds, (g d ρ).bind b = some (.nx ρ)) → forD g b ds ρ = some (.nx ρ)
  | [], _ => rfl
  | d :: ds, h => by
    obtain ⟨ρ1, e1, e2⟩ := bind_some (h d List.mem_cons_self)
    rw [forD, e1, Option.bind_some, e2, Option.bind_some]
    exact for_still ds fun e he => h e (List.mem_cons_of_mem _ he)
theorem for_inv {g : PyData → Rh → Option Rh} {b : Rh → Option Out} (I : Nat → Rh → Prop) : ∀ (ds : List PyData) (n : Nat) (ρ : Rh), (∀ k d ρ, ds[k]? = some d → I (n + k) ρ → ∃ ρ', (g d ρ).bind b = some (.nx ρ') ∧ I (n + k + 1) ρ') → I n ρ → ∃ ρ', forD g b ds ρ = some (.nx ρ') ∧ I (n + ds.length) ρ'
  | [], n, ρ, _, h => ⟨ρ, rfl, h⟩
  | d :: ds, n, ρ, hs, h => by
    obtain ⟨ρ', e, h'⟩ := hs 0 d ρ rfl h
    obtain ⟨ρ1, e1, e2⟩ := bind_some e
    obtain ⟨ρ2, e3, h3⟩ := for_inv I ds (n + 1) ρ' (fun k d ρ hk hI => by
      have := hs (k + 1) d ρ (by simpa using hk) (by rw [show n + (k + 1) = n + 1 + k by omega]; exact hI)
      rw [show n + (k + 1) + 1 = n + 1 + k + 1 by omega] at this
      exact this) h'
    refine ⟨ρ2, ?_, by rw [List.length_cons, show n + (ds.length + 1) = n + 1 + ds.length by omega]; exact h3⟩
    rw [forD, e1, Option.bind_some, e2, Option.bind_some]
    exact e3
def Dr (f : List Int) : Prop := ∀ i ∈ f, 0 ≤ i ∧ i < 1000003
theorem Dr.app {f : List Int} {i : Int} (h : Dr f) (h0 : 0 ≤ i) (h1 : i < 1000003) : Dr (f ++ [i]) := fun j hj => by
  rcases List.mem_append.mp hj with hj | hj
  · exact h j hj
  · rcases List.mem_singleton.mp hj with rfl
    exact ⟨h0, h1⟩
theorem sApp_int {ρ : Rh} {k : Nat} {e : Rh → Option Res} {fs : List Int} {i : Int} (h : ρ[k]? = some (some (.bo (fs.map .int)))) (he : e ρ = some (.sh (.int i))) (hl : fs.length < 1000000) : sApp k e ρ = some (.nx (ρ.set k (some (.bo ((fs ++ [i]).map .int))))) := by
  rw [sApp_eq h, he]
  have : (fs.map PyData.int).length < LIM := by rw [List.length_map]; exact hl
  simp only [Option.bind_some, shr_s, this, if_true, List.map_append, List.map_cons, List.map_nil]
theorem rng_get {n k : Nat} {d : PyData} (h : (rangeD 0 1 n)[k]? = some d) : k < n ∧ d = .int (k : Int) := by
  obtain ⟨h1, h2⟩ := rangeD_get h
  refine ⟨h1, ?_⟩
  rw [h2]
  congr 1
  omega
theorem draws_big (q w c : Option Res) (v : Int) (h0 : 0 ≤ v) (fs : List Int) (hf : Dr fs) (n : Nat) (hl : fs.length + n < 900000) :
    ∃ (gs : List Int) (u : Int), forD (gNm 5) (sFo [5] (sIf (tOf (eBin gtR (eVar 4) (eC (.int 0))))
  (sSeq (sApp 2 (eBin modR (eVar 4) (eC (.int 1000003))))
 (sSet 4 (eBin fdivR (eVar 4) (eC (.int 1000003)))))
  sPass)) (rangeD 0 1 n) [q, w, some (.bo (fs.map .int)), c, some (.sh (.int v)), none, none, none] = some (.nx [q, w, some (.bo (gs.map .int)), c, some (.sh (.int u)), none, none, none]) ∧ Dr gs ∧ gs.length ≤ fs.length + n := by
  obtain ⟨ρ', e, gs, u, rfl, h1, h2, h3⟩ := for_inv (g := gNm 5) (b := (sFo [5] (sIf (tOf (eBin gtR (eVar 4) (eC (.int 0))))
  (sSeq (sApp 2 (eBin modR (eVar 4) (eC (.int 1000003))))
 (sSet 4 (eBin fdivR (eVar 4) (eC (.int 1000003)))))
  sPass))) (fun k ρ => ∃ (gs : List Int) (u : Int), ρ = [q, w, some (.bo (gs.map .int)), c, some (.sh (.int u)), none, none, none] ∧ Dr gs ∧ gs.length ≤ fs.length + k ∧ 0 ≤ u) (rangeD 0 1 n) 0 [q, w, some (.bo (fs.map .int)), c, some (.sh (.int v)), none, none, none]
    (fun k d ρ hk hI => by
      obtain ⟨hkn, rfl⟩ := rng_get hk
      obtain ⟨gs, u, rfl, i1, i2, i3⟩ := hI
      by_cases hu : 0 < u
      · have hd : divOk 1000003 := divOk_of (n := 20) (by decide) (by decide) (by decide)
        refine ⟨_, ?_, gs ++ [u % 1000003], u / 1000003, rfl, i1.app (Int.emod_nonneg _ (by decide)) (Int.emod_lt_of_pos _ (by decide)), ?_, ?_⟩
        · have ha := sApp_int (ρ := [q, w, some (.bo (gs.map .int)), c, some (.sh (.int u)), some (.sh (.int (k : Int))), none, none]) (k := 2) (e := eBin modR (eVar 4) (eC (.int 1000003))) (fs := gs) (i := u % 1000003) rfl (by simp) (by omega)
          simp only [gNm, Option.bind_some, sFo_eq, sIf, sSeq_eq, List.set]
          simp [hu, ha, hd]
        · rw [List.length_append]
          simp
          omega
        · omega
      · exact ⟨_, by simp [hu], gs, u, rfl, i1, by omega, i3⟩) ⟨fs, v, rfl, hf, by omega, h0⟩
  rw [rangeD_len] at h2
  exact ⟨gs, u, e, h1, by omega⟩
theorem draws_four (q w c v : Option Res) (m : Int) (h0 : 0 ≤ m) (h1 : m < 2147483647) (fs : List Int) (hf : Dr fs) (n : Nat) (hn : n ≤ 100) (hl : fs.length + n < 900000) :
    ∃ (gs : List Int) (u : Int), forD (gNm 5) (sFo [5] (sSeq (sSet 6 (eBin modR (eBin addR (eBin addR (eBin addR (eBin mulI (eVar 6) (eC (.int 69621))) (eBin fdivR (eVar 6) (eC (.int 65536)))) (eBin mulI (eC (.int 13)) (eVar 5))) (eC (.int 5))) (eC (.int 2147483629))))
 (sApp 2 (eBin modR (eBin fdivR (eVar 6) (eC (.int 8))) (eC (.int 1000003)))))) (rangeD 0 1 n) [q, w, some (.bo (fs.map .int)), c, v, none, some (.sh (.int m)), none] = some (.nx [q, w, some (.bo (gs.map .int)), c, v, none, some (.sh (.int u)), none]) ∧ Dr gs ∧ gs.length ≤ fs.length + n := by
  obtain ⟨ρ', e, gs, u, rfl, h1, h2, h3⟩ := for_inv (g := gNm 5) (b := (sFo [5] (sSeq (sSet 6 (eBin modR (eBin addR (eBin addR (eBin addR (eBin mulI (eVar 6) (eC (.int 69621))) (eBin fdivR (eVar 6) (eC (.int 65536)))) (eBin mulI (eC (.int 13)) (eVar 5))) (eC (.int 5))) (eC (.int 2147483629))))
 (sApp 2 (eBin modR (eBin fdivR (eVar 6) (eC (.int 8))) (eC (.int 1000003))))))) (fun k ρ => ∃ (gs : List Int) (u : Int), ρ = [q, w, some (.bo (gs.map .int)), c, v, none, some (.sh (.int u)), none] ∧ Dr gs ∧ gs.length ≤ fs.length + k ∧ 0 ≤ u ∧ u < 2147483647) (rangeD 0 1 n) 0 [q, w, some (.bo (fs.map .int)), c, v, none, some (.sh (.int m)), none]
    (fun k d ρ hk hI => by
      obtain ⟨hkn, rfl⟩ := rng_get hk
      obtain ⟨gs, u, rfl, i1, i2, i3, i4⟩ := hI
      have bu : Bd 32 u := bd_of (by omega) (by omega)
      have bk : Bd 32 (k : Int) := bd_of (by omega) (by omega)
      have m1 : mulOk u 69621 := mulOk_of bu (show Bd 32 69621 by decide) (by decide)
      have m2 : mulOk 13 (k : Int) := mulOk_of (show Bd 32 13 by decide) bk (by decide)
      have d1 : divOk 65536 := divOk_of (n := 20) (by decide) (by decide) (by decide)
      have d2 : divOk 8 := divOk_of (n := 20) (by decide) (by decide) (by decide)
      obtain ⟨z, hz⟩ : ∃ z : Int, z = (u * 69621 + u / 65536 + 13 * (k : Int) + 5) % 2147483629 := ⟨_, rfl⟩
      have z0 : 0 ≤ z := by rw [hz]; exact Int.emod_nonneg _ (by decide)
      have z1 : z < 2147483629 := by rw [hz]; exact Int.emod_lt_of_pos _ (by decide)
      have ha := sApp_int (ρ := [q, w, some (.bo (gs.map .int)), c, v, some (.sh (.int (k : Int))), some (.sh (.int z)), none]) (k := 2) (e := eBin modR (eBin fdivR (eVar 6) (eC (.int 8))) (eC (.int 1000003))) (fs := gs) (i := z / 8 % 1000003) rfl (by simp [d2]) (by omega)
      refine ⟨_, ?_, gs ++ [z / 8 % 1000003], z, rfl, i1.app (Int.emod_nonneg _ (by decide)) (Int.emod_lt_of_pos _ (by decide)), ?_, z0, by omega⟩
      · simp [m1, m2, d1, ← hz, ha]
      · rw [List.length_append]
        simp
        omega) ⟨fs, m, rfl, hf, by omega, h0, h1⟩
  rw [rangeD_len] at h2
  exact ⟨gs, u, e, h1, by omega⟩
theorem draws_fill (q c v x : Option Res) (fs : List Int) (hf : Dr fs) (n : Nat) (hn : n ≤ 100) (hl : fs.length < 800000) :
    ∃ (gs : List Int), forD (gNm 5) (sFo [5, 7] (sFo [7] (sIf (tOf (eBin ltR (eCall (on1 lenR) (aCons (eVar 2) aNil)) (eVar 1)))
  (sSeq (sSet 7 (eC (.int 0)))
 (sSeq (sIf (tOf (eBin gtR (eCall (on1 lenR) (aCons (eVar 2) aNil)) (eC (.int 0))))
  (sSet 7 (eBin ixR (eVar 2) (eBin modR (eVar 5) (eCall (on1 lenR) (aCons (eVar 2) aNil)))))
  sPass)
 (sApp 2 (eBin modR (eBin addR (eBin addR (eBin mulI (eVar 7) (eC (.int 16807))) (eBin mulI (eC (.int 31)) (eCall (on1 lenR) (aCons (eVar 2) aNil)))) (eC (.int 17))) (eC (.int 1000003))))))
  sPass))) (rangeD 0 1 n) [q, some (.sh (.int (n : Int))), some (.bo (fs.map .int)), c, v, none, x, none] = some (.nx [q, some (.sh (.int (n : Int))), some (.bo (gs.map .int)), c, v, none, x, none]) ∧ Dr gs ∧ gs.length ≤ fs.length + n ∧ n ≤ gs.length := by
  obtain ⟨ρ', e, gs, rfl, h1, h2, h3⟩ := for_inv (g := gNm 5) (b := (sFo [5, 7] (sFo [7] (sIf (tOf (eBin ltR (eCall (on1 lenR) (aCons (eVar 2) aNil)) (eVar 1)))
  (sSeq (sSet 7 (eC (.int 0)))
 (sSeq (sIf (tOf (eBin gtR (eCall (on1 lenR) (aCons (eVar 2) aNil)) (eC (.int 0))))
  (sSet 7 (eBin ixR (eVar 2) (eBin modR (eVar 5) (eCall (on1 lenR) (aCons (eVar 2) aNil)))))
  sPass)
 (sApp 2 (eBin modR (eBin addR (eBin addR (eBin mulI (eVar 7) (eC (.int 16807))) (eBin mulI (eC (.int 31)) (eCall (on1 lenR) (aCons (eVar 2) aNil)))) (eC (.int 17))) (eC (.int 1000003))))))
  sPass)))) (fun k ρ => ∃ (gs : List Int), ρ = [q, some (.sh (.int (n : Int))), some (.bo (gs.map .int)), c, v, none, x, none] ∧ Dr gs ∧ gs.length ≤ fs.length + k ∧ (n ≤ gs.length ∨ k ≤ gs.length)) (rangeD 0 1 n) 0 [q, some (.sh (.int (n : Int))), some (.bo (fs.map .int)), c, v, none, x, none]
    (fun k d ρ hk hI => by
      obtain ⟨hkn, rfl⟩ := rng_get hk
      obtain ⟨gs, rfl, i1, i2, i3⟩ := hI
      by_cases hu : gs.length < n
      · obtain ⟨b, hb⟩ : ∃ b : Int, b = if 0 < gs.length then a0 gs (k % gs.length) else 0 := ⟨_, rfl⟩
        have hbd : 0 ≤ b ∧ b < 1000003 := by
          rw [hb]
          split
          · rename_i hp
            have hm := Nat.mod_lt k hp
            unfold a0
            rw [List.getElem?_eq_getElem hm]
            exact i1 _ (List.getElem_mem hm)
          · exact ⟨by decide, by decide⟩
        have m1 : mulOk b 16807 := mulOk_of (bd_of (n := 32) (by omega) (by omega)) (show Bd 32 16807 by decide) (by decide)
        have m2 : mulOk 31 (gs.length : Int) := mulOk_of (show Bd 32 31 by decide) (bd_of (n := 32) (by omega) (by omega)) (by decide)
        have ha := sApp_int (ρ := [q, some (.sh (.int (n : Int))), some (.bo (gs.map .int)), c, v, some (.sh (.int (k : Int))), x, some (.sh (.int b))]) (k := 2) (e := (eBin modR (eBin addR (eBin addR (eBin mulI (eVar 7) (eC (.int 16807))) (eBin mulI (eC (.int 31)) (eCall (on1 lenR) (aCons (eVar 2) aNil)))) (eC (.int 17))) (eC (.int 1000003)))) (fs := gs) (i := (b * 16807 + 31 * (gs.length : Int) + 17) % 1000003) rfl (by simp [m1, m2]) (by omega)
        refine ⟨_, ?_, gs ++ [(b * 16807 + 31 * (gs.length : Int) + 17) % 1000003], rfl, i1.app (Int.emod_nonneg _ (by decide)) (Int.emod_lt_of_pos _ (by decide)), ?_, ?_⟩
        · by_cases hp : 0 < gs.length
          · rw [if_pos hp] at hb
            have hm := Nat.mod_lt k hp
            have e2 := ints_at gs hm
            have hp' : (0 : Int) < gs.length := by omega
            have e3 : atI (gs.map PyData.int) ((k : Int) % (gs.length : Int)) = some (.int b) := by
              rw [show ((k : Int) % (gs.length : Int)) = ((k % gs.length : Nat) : Int) by omega, atI_nat', e2, hb]
            simp [hu, hp', hp, e3, ha]
          · rw [if_neg hp] at hb
            have hg : gs = [] := List.eq_nil_of_length_eq_zero (by omega)
            subst hb hg
            have hn0 : 0 < n := by simpa using hu
            simp at ha
            simp [hn0, ha]
        · rw [List.length_append]
          simp
          omega
        · rw [List.length_append]
          simp
          omega
      · exact ⟨_, by simp [hu], gs, rfl, i1, by omega, by omega⟩) ⟨fs, rfl, hf, by omega, Or.inr (Nat.zero_le _)⟩
  rw [rangeD_len] at h2 h3
  exact ⟨gs, e, h1, by omega, by omega⟩
theorem lc_rng {elt : Rh → Option Res} {i : Nat} {ρ : Rh} (c : Nat → Int) (n : Nat) (h : ∀ k, k < n → elt (ρ.set i (some (.sh (.int (k : Int))))) = some (.sh (.int (c k)))) : lcD (gNm i) tYesD elt ρ (rangeD 0 1 n) = some (((List.range n).map c).map .int) := by
  have : ∀ (m k : Nat), k + m = n → lcD (gNm i) tYesD elt ρ ((List.range' k m).map fun (j : Nat) => PyData.int (0 + (j : Int) * 1)) = some (((List.range' k m).map c).map .int) := by
    intro m
    induction m with
    | zero => intro k hk; simp [lcD]
    | succ m ih =>
      intro k hk
      have e := h k (by omega)
      have e2 := ih (k + 1) (by omega)
      rw [List.range'_succ, List.map_cons, List.map_cons, List.map_cons, lcD]
      rw [show (0 + (k : Int) * 1) = (k : Int) by omega]
      simp only [gNm, Option.bind_some, tYesD, if_true, e, shr_s, e2]
  have := this n 0 (by omega)
  unfold rangeD
  rw [List.range_eq_range']
  exact this
theorem pick_map (ns : List Int) (lo hi st : Option Int) : pickD (ns.map PyData.int) lo hi st = (pickD ns lo hi st).map PyData.int := by
  unfold pickD
  rw [List.length_map]
  generalize sliceRange _ _ _ = ks
  induction ks with
  | nil => rfl
  | cons k ks ih =>
    rw [List.filterMap_cons, List.filterMap_cons, List.getElem?_map]
    cases ns[k]? <;> simp only [Option.map_none, Option.map_some, ih, List.map_cons]
theorem pick_mem {α : Type} {xs : List α} {lo hi st : Option Int} {x : α} (h : x ∈ pickD xs lo hi st) : x ∈ xs := by
  unfold pickD at h
  obtain ⟨k, _, hk⟩ := List.mem_filterMap.mp h
  exact List.mem_of_getElem? hk
theorem pick_le {α : Type} (xs : List α) (lo hi st : Option Int) : (pickD xs lo hi st).length ≤ (sliceRange (sliceBounds lo hi st xs.length).1 (sliceBounds lo hi st xs.length).2.1 (sliceBounds lo hi st xs.length).2.2).length := by
  unfold pickD
  exact List.length_filterMap_le _ _
theorem pick_len {α : Type} (xs : List α) (ks : List Nat) (h : ∀ k ∈ ks, k < xs.length) : (ks.filterMap (xs[·]?)).length = ks.length := by
  induction ks with
  | nil => rfl
  | cons k ks ih =>
    have hk := h k List.mem_cons_self
    rw [List.filterMap_cons, List.getElem?_eq_getElem hk, List.length_cons, List.length_cons, ih fun j hj => h j (List.mem_cons_of_mem _ hj)]
theorem rev_len {α : Type} (xs : List α) (h : xs.length ≤ 14) : (pickD xs none none (some (-1))).length = xs.length := by
  have h0 : ∀ n : Nat, n ≤ 14 → (sliceRange (sliceBounds none none (some (-1)) n).1 (sliceBounds none none (some (-1)) n).2.1 (sliceBounds none none (some (-1)) n).2.2).length = n ∧ ∀ k ∈ (sliceRange (sliceBounds none none (some (-1)) n).1 (sliceBounds none none (some (-1)) n).2.1 (sliceBounds none none (some (-1)) n).2.2), k < n := by
    decide
  obtain ⟨h1, h2⟩ := h0 _ h
  unfold pickD
  rw [pick_len _ _ h2, h1]
theorem rev1_len {α : Type} (xs : List α) (h2 : 2 ≤ xs.length) (h : xs.length ≤ 14) : (pickD xs (some 1) none (some (-1))).length = 2 := by
  have h0 : ∀ n : Nat, n ≤ 14 → 2 ≤ n → (sliceRange (sliceBounds (some 1) none (some (-1)) n).1 (sliceBounds (some 1) none (some (-1)) n).2.1 (sliceBounds (some 1) none (some (-1)) n).2.2).length = 2 ∧ ∀ k ∈ (sliceRange (sliceBounds (some 1) none (some (-1)) n).1 (sliceBounds (some 1) none (some (-1)) n).2.1 (sliceBounds (some 1) none (some (-1)) n).2.2), k < n := by
    decide
  obtain ⟨h1, h2⟩ := h0 _ h h2
  unfold pickD
  rw [pick_len _ _ h2, h1]
structure Cy (l : List Int) : Prop where
  lo : 2 ≤ l.length
  hi : l.length ≤ 14
  ev : l.length % 2 = 0
  all : ∀ i ∈ l, 1 ≤ i ∧ i ≤ 10000
theorem cy_rot {l : List Int} (h : Cy l) (k : Nat) : Cy (rot l k) := by
  refine ⟨by rw [rot_len]; exact h.lo, by rw [rot_len]; exact h.hi, by rw [rot_len]; exact h.ev, fun i hi => ?_⟩
  unfold rot at hi
  rcases List.mem_append.mp hi with hi | hi
  · exact h.all i (List.mem_of_mem_drop hi)
  · exact h.all i (List.mem_of_mem_take hi)
noncomputable def cy_tail : Rh → Option Out := (sSeq (sSet 4 (eLc (itRng (aCons (eVar 2) aNil)) (gNm 7) tYesD (eBin addR (eC (.int 1)) (eBin modR (eBin ixR (eVar 0) (eBin addR (eBin addR (eVar 1) (eC (.int 1))) (eVar 7))) (eVar 3))) [7]))
 (sSeq (sSet 5 (eBin modR (eBin ixR (eVar 0) (eBin addR (eVar 1) (eC (.int 13)))) (eC (.int 8))))
 (sSeq (sSet 6 (eBin addR (eSl (eVar 4) (oIs (eC (.int 2))) oNo) (eSl (eVar 4) oNo (oIs (eC (.int 2))))))
 (sSeq (sIf (tOf (eBin eqR (eVar 5) (eC (.int 4))))
  (sSet 6 (eBin addR (eSl (eVar 4) (oIs (eC (.int 1))) oNo) (eSl (eVar 4) oNo (oIs (eC (.int 1))))))
  sPass)
 (sSeq (sIf (tOf (eBin eqR (eVar 5) (eC (.int 5))))
  (sSet 6 (eSl3 (eVar 4) oNo oNo (oIs (eUn negR (eC (.int 1))))))
  sPass)
 (sSeq (sIf (tOf (eBin eqR (eVar 5) (eC (.int 6))))
  (sSet 6 (eBin addR (eSl3 (eVar 4) (oIs (eC (.int 1))) oNo (oIs (eUn negR (eC (.int 1))))) (eSl (eVar 4) (oIs (eC (.int 2))) oNo)))
  sPass)
 (sSeq (sIf (tOf (eBin eqR (eVar 5) (eC (.int 7))))
  (sSet 6 (eLc (itRng (aCons (eVar 2) aNil)) (gNm 7) tYesD (eBin addR (eC (.int 1)) (eBin modR (eBin ixR (eVar 0) (eBin subR (eBin addR (eVar 1) (eC (.int 12))) (eVar 7))) (eVar 3))) [7]))
  sPass)
 (sSeq (sIf (tOf (eBin eqR (eVar 5) (eC (.int 3))))
  (sSet 6 (eBin addR (eVar 4) (eSl (eVar 4) oNo (oIs (eC (.int 2))))))
  sPass)
 (sFrz [4, 6] (sRet (eTup (aCons (eVar 4) (aCons (eVar 6) aNil)))))))))))))
theorem a0_in {ds : List Int} {k : Nat} (hd : Dr ds) (hk : k < ds.length) : 0 ≤ a0 ds k ∧ a0 ds k < 1000003 := by
  unfold a0
  rw [List.getElem?_eq_getElem hk]
  exact hd _ (List.getElem_mem hk)
theorem cy_tail_ok {ds : List Int} (hd : Dr ds) (hl : ds.length = 24) (n : Nat) (h2 : 2 ≤ n) (h12 : n ≤ 12) (hev : n % 2 = 0) (most : Int) (hm0 : 0 < most) (hm1 : most ≤ 10000) :
    ∃ a b : List Int, finD (cy_tail [some (.sh (.list (ds.map .int))), some (.sh (.int 0)), some (.sh (.int (n : Int))), some (.sh (.int most)), none, none, none, none]) = some (.sh (.tuple [.list (a.map .int), .list (b.map .int)])) ∧ Cy a ∧ Cy b := by
  have r : rOk (n : Int) := rOk_nat (by omega)
  obtain ⟨c, hc⟩ : ∃ c : List Int, c = (List.range n).map fun k => 1 + a0 ds (1 + k) % most := ⟨_, rfl⟩
  obtain ⟨c', hc'⟩ : ∃ c : List Int, c = (List.range n).map fun k => 1 + a0 ds (12 - k) % most := ⟨_, rfl⟩
  have hcl : c.length = n := by rw [hc, List.length_map, List.length_range]
  have hcl' : c'.length = n := by rw [hc', List.length_map, List.length_range]
  have hmod : ∀ x : Int, 1 ≤ 1 + x % most ∧ 1 + x % most ≤ 10000 := fun x => by
    have g1 := Int.emod_nonneg x (show most ≠ 0 by omega)
    have g2 := Int.emod_lt_of_pos x hm0
    omega
  have C : Cy c := ⟨by omega, by omega, by omega, fun i hi => by
    rw [hc] at hi
    obtain ⟨k, _, rfl⟩ := List.mem_map.mp hi
    exact hmod _⟩
  have C' : Cy c' := ⟨by omega, by omega, by omega, fun i hi => by
    rw [hc'] at hi
    obtain ⟨k, _, rfl⟩ := List.mem_map.mp hi
    exact hmod _⟩
  have l1 : ∀ (x y z : Option Res), lcD (gNm 7) tYesD (eBin addR (eC (.int 1)) (eBin modR (eBin ixR (eVar 0) (eBin addR (eBin addR (eVar 1) (eC (.int 1))) (eVar 7))) (eVar 3))) [some (.sh (.list (ds.map .int))), some (.sh (.int 0)), some (.sh (.int (n : Int))), some (.sh (.int most)), x, y, z, none] (rangeD 0 1 n) = some (c.map .int) := fun x y z => by
    rw [hc]
    refine lc_rng _ n fun k hk => ?_
    have e := ints_at ds (k := 1 + k) (by omega)
    have e2 : atI (ds.map PyData.int) (1 + (k : Int)) = some (.int (a0 ds (1 + k))) := by
      rw [show (1 + (k : Int)) = ((1 + k : Nat) : Int) by omega, atI_nat', e]
    simp [e2, hm0]
  have l2 : ∀ (x y z : Option Res), lcD (gNm 7) tYesD (eBin addR (eC (.int 1)) (eBin modR (eBin ixR (eVar 0) (eBin subR (eBin addR (eVar 1) (eC (.int 12))) (eVar 7))) (eVar 3))) [some (.sh (.list (ds.map .int))), some (.sh (.int 0)), some (.sh (.int (n : Int))), some (.sh (.int most)), x, y, z, none] (rangeD 0 1 n) = some (c'.map .int) := fun x y z => by
    rw [hc']
    refine lc_rng _ n fun k hk => ?_
    have e := ints_at ds (k := 12 - k) (by omega)
    have e2 : atI (ds.map PyData.int) (12 - (k : Int)) = some (.int (a0 ds (12 - k))) := by
      rw [show (12 - (k : Int)) = ((12 - k : Nat) : Int) by omega, atI_nat', e]
    simp [e2, hm0]
  have hlen : (rangeD 0 1 n).length ≤ 1000000 := by rw [rangeD_len]; omega
  have e13 : atI (ds.map PyData.int) 13 = some (.int (a0 ds 13)) := by
    rw [show (13 : Int) = ((13 : Nat) : Int) from rfl, atI_nat', ints_at ds (by omega)]
  obtain ⟨kd, hkd⟩ : ∃ kd : Int, kd = a0 ds 13 % 8 := ⟨_, rfl⟩
  have f2 : cutD (c.map PyData.int) (some 2) none = (c.map PyData.int).drop 2 := cut_from _ 2
  have t2 : cutD (c.map PyData.int) none (some 2) = (c.map PyData.int).take 2 := cut_to _ 2
  have f1 : cutD (c.map PyData.int) (some 1) none = (c.map PyData.int).drop 1 := cut_from _ 1
  have t1 : cutD (c.map PyData.int) none (some 1) = (c.map PyData.int).take 1 := cut_to _ 1
  have q1 : c.length - 2 + min 2 c.length ≤ 1000000 := by omega
  have q2 : c.length - 1 + min 1 c.length ≤ 1000000 := by omega
  have q3 : c.length + min 2 c.length ≤ 1000000 := by omega
  have q4 : (pickD c (some 1) none (some (-1))).length + (c.length - 2) ≤ 1000000 := by
    have := rev1_len c (by omega) (by omega)
    omega
  have r2 := rot_map c 2
  have r1 := rot_map c 1
  by_cases k4 : kd = 4
  · refine ⟨c, rot c 1, ?_, C, cy_rot C 1⟩
    rw [← r1]
    simp [cy_tail, r, hlen, wipeD, l1, e13, ← hkd, f2, t2, f1, t1, q1, q2, k4, frz1]
  · by_cases k5 : kd = 5
    · have P : Cy (pickD c none none (some (-1))) := ⟨by rw [rev_len c (by omega)]; omega, by rw [rev_len c (by omega)]; omega, by rw [rev_len c (by omega)]; omega, fun i hi => C.all i (pick_mem hi)⟩
      have e := pick_map c none none (some (-1))
      refine ⟨c, _, ?_, C, P⟩
      simp [cy_tail, r, hlen, wipeD, l1, e13, ← hkd, f2, t2, q1, k5, frz1, e]
    · by_cases k6 : kd = 6
      · have hp := rev1_len c (by omega) (by omega)
        have P : Cy (pickD c (some 1) none (some (-1)) ++ c.drop 2) := by
          have hl : (pickD c (some 1) none (some (-1)) ++ c.drop 2).length = n := by rw [List.length_append, hp, List.length_drop]; omega
          refine ⟨by omega, by omega, by omega, fun i hi => ?_⟩
          rcases List.mem_append.mp hi with hi | hi
          · exact C.all i (pick_mem hi)
          · exact C.all i (List.mem_of_mem_drop hi)
        have e := pick_map c (some 1) none (some (-1))
        refine ⟨c, _, ?_, C, P⟩
        simp [cy_tail, r, hlen, wipeD, l1, e13, ← hkd, f2, t2, q1, q4, k6, frz1, e]
      · by_cases k7 : kd = 7
        · refine ⟨c, c', ?_, C, C'⟩
          simp [cy_tail, r, hlen, wipeD, l1, l2, e13, ← hkd, f2, t2, q1, k7, frz1]
        · by_cases k3 : kd = 3
          · have P : Cy (c ++ c.take 2) := by
              have hl : (c ++ c.take 2).length = n + 2 := by rw [List.length_append, List.length_take]; omega
              refine ⟨by omega, by omega, by omega, fun i hi => ?_⟩
              rcases List.mem_append.mp hi with hi | hi
              · exact C.all i hi
              · exact C.all i (List.mem_of_mem_take hi)
            refine ⟨c, _, ?_, C, P⟩
            simp [cy_tail, r, hlen, wipeD, l1, e13, ← hkd, f2, t2, q1, q3, k3, frz1]
          · refine ⟨c, rot c 2, ?_, C, cy_rot C 2⟩
            rw [← r2]
            simp [cy_tail, r, hlen, wipeD, l1, e13, ← hkd, f2, t2, q1, k3, k4, k5, k6, k7, frz1]
theorem cy_head {ds : List Int} (hd : Dr ds) (hl : ds.length = 24) (T : Rh → Option Out) (hT : ∀ (n : Nat), 2 ≤ n → n ≤ 12 → n % 2 = 0 → ∀ most : Int, 0 < most → most ≤ 10000 → ∃ a b : List Int, finD (T [some (.sh (.list (ds.map .int))), some (.sh (.int 0)), some (.sh (.int (n : Int))), some (.sh (.int most)), none, none, none, none]) = some (.sh (.tuple [.list (a.map .int), .list (b.map .int)])) ∧ Cy a ∧ Cy b) :
    ∃ a b : List Int, finD ((sSeq (sSet 2 (eBin addR (eC (.int 2)) (eBin mulI (eC (.int 2)) (eBin modR (eBin ixR (eVar 0) (eVar 1)) (eC (.int 3))))))
 (sSeq (sSet 3 (eC (.int 4)))
 (sSeq (sIf (tOf (eBin eqR (eBin modR (eBin fdivR (eBin ixR (eVar 0) (eVar 1)) (eC (.int 3))) (eC (.int 8))) (eC (.int 3))))
  (sSeq (sSet 2 (eBin addR (eC (.int 2)) (eBin mulI (eC (.int 2)) (eBin modR (eBin fdivR (eBin ixR (eVar 0) (eVar 1)) (eC (.int 24))) (eC (.int 6))))))
 (sSet 3 (eC (.int 2))))
  sPass)
 (sSeq (sIf (tOf (eBin eqR (eBin modR (eBin fdivR (eBin ixR (eVar 0) (eVar 1)) (eC (.int 3))) (eC (.int 8))) (eC (.int 5))))
  (sSeq (sSet 2 (eC (.int 2)))
 (sSet 3 (eBin powR (eC (.int 10)) (eC (.int 4)))))
  sPass) T)))) [some (.sh (.list (ds.map .int))), some (.sh (.int 0)), none, none, none, none, none, none]) = some (.sh (.tuple [.list (a.map .int), .list (b.map .int)])) ∧ Cy a ∧ Cy b := by
  obtain ⟨x, hx⟩ : ∃ x : Int, x = a0 ds 0 := ⟨_, rfl⟩
  have x0 := a0_in hd (k := 0) (by omega)
  rw [← hx] at x0
  have e0 : (ds.map PyData.int)[0]? = some (.int x) := by rw [ints_at ds (by omega), hx]
  have m1 : mulOk 2 (x % 3) := mulOk_of (show Bd 32 2 by decide) (bd_of (n := 32) (by omega) (by omega)) (by decide)
  have m2 : mulOk 2 (x / 24 % 6) := mulOk_of (show Bd 32 2 by decide) (bd_of (n := 32) (by omega) (by omega)) (by decide)
  have d3 : divOk 3 := divOk_of (n := 20) (by decide) (by decide) (by decide)
  have d24 : divOk 24 := divOk_of (n := 20) (by decide) (by decide) (by decide)
  by_cases h3 : x / 3 % 8 = 3
  · obtain ⟨a, b, e, A, B⟩ := hT (2 + 2 * (x / 24 % 6).toNat) (by omega) (by omega) (by omega) 2 (by decide) (by decide)
    rw [show ((2 + 2 * (x / 24 % 6).toNat : Nat) : Int) = 2 + 2 * (x / 24 % 6) by omega] at e
    refine ⟨a, b, ?_, A, B⟩
    simp [e0, m1, m2, d3, d24, h3, e]
  · by_cases h5 : x / 3 % 8 = 5
    · obtain ⟨a, b, e, A, B⟩ := hT 2 (by omega) (by omega) (by omega) 10000 (by decide) (by decide)
      rw [show ((2 : Nat) : Int) = 2 from rfl] at e
      refine ⟨a, b, ?_, A, B⟩
      simp [e0, m1, m2, d3, d24, h5, e]
    · obtain ⟨a, b, e, A, B⟩ := hT (2 + 2 * (x % 3).toNat) (by omega) (by omega) (by omega) 4 (by decide) (by decide)
      rw [show ((2 + 2 * (x % 3).toNat : Nat) : Int) = 2 + 2 * (x % 3) by omega] at e
      refine ⟨a, b, ?_, A, B⟩
      simp [e0, m1, m2, d3, d24, h3, h5, e]
theorem step_bd {n : Nat} {x y t : Int} (hx : Bd n x) (hy : Bd n y) (h0 : -3 ≤ t) (h1 : t ≤ 3) : Bd (n + 2) (x + t * y) := by
  have ht : t.natAbs ≤ 3 := by omega
  have h2 : (t * y).natAbs ≤ 3 * y.natAbs := by rw [Int.natAbs_mul]; exact Nat.mul_le_mul_right _ ht
  have h3 := Int.natAbs_add_le x (t * y)
  unfold Bd at *
  rw [Nat.pow_succ, Nat.pow_succ]
  omega
def small (m : M) : Prop := -1000000000 ≤ m.a ∧ m.a ≤ 1000000000 ∧ -1000000000 ≤ m.b ∧ m.b ≤ 1000000000 ∧ -1000000000 ≤ m.c ∧ m.c ≤ 1000000000 ∧ -1000000000 ≤ m.d ∧ m.d ≤ 1000000000
theorem small.bd {m : M} (h : small m) : m.bd 30 := by
  obtain ⟨h1, h2, h3, h4, h5, h6, h7, h8⟩ := h
  exact ⟨bd_of (by omega) (by omega), bd_of (by omega) (by omega), bd_of (by omega) (by omega), bd_of (by omega) (by omega)⟩
theorem lt_two (k : Nat) (t : Int) : lt (k + 2) t = lt k t := by
  unfold lt
  rw [Nat.add_mod_right]
theorem cyP_cc (a b : Int) (r : List Int) : ∀ k, cyP (a :: b :: r) (k + 2) = lt 0 a * lt 1 b * cyP r k
  | 0 => by
    show M.one * lt 0 a * lt 1 b = lt 0 a * lt 1 b * M.one
    rw [M.one_mul, M.mul_one]
  | k + 1 => by
    show cyP (a :: b :: r) (k + 2) * lt (k + 2) (a0 (a :: b :: r) (k + 2)) = lt 0 a * lt 1 b * (cyP r k * lt k (a0 r k))
    rw [cyP_cc a b r k, lt_two, M.mul_assoc]
    rfl
theorem cyc_cc (a b : Int) (r : List Int) : cyc (a :: b :: r) = lt 0 a * lt 1 b * cyc r := cyP_cc a b r r.length
theorem cyP_pre (r s : List Int) : ∀ k, k ≤ r.length → cyP (r ++ s) k = cyP r k
  | 0, _ => rfl
  | k + 1, h => by
    show cyP (r ++ s) k * lt k (a0 (r ++ s) k) = cyP r k * lt k (a0 r k)
    rw [cyP_pre r s k (by omega)]
    unfold a0
    rw [List.getElem?_append_left (by omega)]
theorem lt_even {n : Nat} (h : n % 2 = 0) (k : Nat) (t : Int) : lt (n + k) t = lt k t := by
  unfold lt
  rw [show (n + k) % 2 = k % 2 by omega]
theorem cyP_app {r s : List Int} (h : r.length % 2 = 0) : ∀ k, cyP (r ++ s) (r.length + k) = cyc r * cyP s k
  | 0 => by
    show cyP (r ++ s) r.length = cyP r r.length * M.one
    rw [M.mul_one, cyP_pre r s _ (Nat.le_refl _)]
  | k + 1 => by
    show cyP (r ++ s) (r.length + k) * lt (r.length + k) (a0 (r ++ s) (r.length + k)) = cyc r * (cyP s k * lt k (a0 s k))
    rw [cyP_app h k, lt_even h, M.mul_assoc]
    unfold a0
    rw [List.getElem?_append_right (by omega), Nat.add_sub_cancel_left]
theorem cyc_app {r s : List Int} (h : r.length % 2 = 0) : cyc (r ++ s) = cyc r * cyc s := by
  unfold cyc
  rw [List.length_append]
  exact cyP_app h _
theorem lt_det (k : Nat) (t : Int) : (lt k t).det = 1 := by
  unfold lt M.det
  split <;> simp
theorem cyP_det (ns : List Int) : ∀ k, (cyP ns k).det = 1
  | 0 => by
    show M.one.det = 1
    decide
  | k + 1 => by
    show (cyP ns k * lt k (a0 ns k)).det = 1
    rw [M.det_mul, cyP_det ns k, lt_det]
    rfl
theorem cyc_det (ns : List Int) : (cyc ns).det = 1 := cyP_det ns _
def stp (a b : Int) : M := ⟨1, 0, -b, 1⟩ * ⟨1, -a, 0, 1⟩
theorem stp_inv (a b : Int) : stp a b * (lt 0 a * lt 1 b) = M.one := by
  have e : stp a b = (lt 0 a * lt 1 b).inv := by
    rw [M.inv_mul_rev]
    simp only [stp, lt, M.inv]
    congr 1 <;> simp
  rw [e, M.inv_mul (by rw [M.det_mul, lt_det, lt_det]; rfl)]
theorem stp_det (a b : Int) : (stp a b).det = 1 := by
  unfold stp
  rw [M.det_mul]
  simp [M.det]
theorem rot_cc (a b : Int) (r : List Int) : rot (a :: b :: r) 2 = r ++ [a, b] := by
  unfold rot
  simp
theorem turn_lead {a b : Int} {r : List Int} {x m : M} (he : r.length % 2 = 0) (h : m * x = cyc (a :: b :: r) * m) : stp a b * m * x = cyc (r ++ [a, b]) * (stp a b * m) := by
  have e1 : cyc [a, b] = lt 0 a * lt 1 b := by
    rw [cyc_cc]
    show lt 0 a * lt 1 b * M.one = _
    rw [M.mul_one]
  have hd : (lt 0 a * lt 1 b).det = 1 := by rw [M.det_mul, lt_det, lt_det]; rfl
  have e2 : lt 0 a * lt 1 b * stp a b = M.one := by
    have e : stp a b = (lt 0 a * lt 1 b).inv := by
      rw [M.inv_mul_rev]
      simp only [stp, lt, M.inv]
      congr 1 <;> simp
    rw [e, M.mul_inv hd]
  rw [M.mul_assoc, h, cyc_cc, cyc_app he, e1, ← M.mul_assoc, ← M.mul_assoc, stp_inv, M.one_mul, M.mul_assoc (cyc r), ← M.mul_assoc (lt 0 a * lt 1 b), e2, M.one_mul]
theorem rot_rot {l : List Int} {i : Nat} (h : 2 * i + 2 ≤ l.length) : rot (rot l (2 * i)) 2 = rot l (2 * (i + 1)) := by
  unfold rot
  rw [List.drop_append_of_le_length (by rw [List.length_drop]; omega), List.take_append_of_le_length (by rw [List.length_drop]; omega), List.drop_drop, List.append_assoc]
  congr 1
  rw [show 2 * (i + 1) = 2 * i + 2 by omega, List.take_add]
theorem rot_zero (l : List Int) : rot l 0 = l := by
  unfold rot
  simp
theorem stp_bd {a b : Int} (ha : Bd 14 a) (hb : Bd 14 b) : (stp a b).bd 31 := by
  have h1 : Bd 15 1 := by decide
  have h0 : Bd 15 0 := by decide
  have b1 : M.bd 15 ⟨1, 0, -b, 1⟩ := ⟨h1, h0, hb.neg.mono (by decide), h1⟩
  have b2 : M.bd 15 ⟨1, -a, 0, 1⟩ := ⟨h1, ha.neg.mono (by decide), h0, h1⟩
  exact b1.mul b2
theorem strOk_of (s : String) : PyData.strOk (Str.ofString s) = true := by
  unfold PyData.strOk
  rw [Str.ofString_eq_toList]
  simp only [List.all_toArray, List.all_map, List.all_eq_true]
  intro c hc
  have h2 : c.toNat < 1114112 := by
    have e : c.toNat = c.val.toNat := rfl
    rcases c.valid with h | h <;> omega
  simpa using h2
theorem text_len {i : Int} (h : Bd 300 i) : (Str.ofString (toString i)).length ≤ 302 := by
  rw [PySem.ofString_length]
  have := PySem.int_text_length_le (a := i) (k := 301) (by decide) (Nat.lt_succ_of_le h.log')
  omega
def asBo : Res → Option (List PyData)
  | .bo ds => some ds
  | _ => none
@[simp] theorem asBo_b {ds : List PyData} : asBo (.bo ds) = some ds := rfl
theorem sApp_run {ρ : Rh} {k : Nat} {e : Rh → Option Res} : sApp k e ρ = ((ρ[k]?).bind id).bind fun r => (asBo r).bind fun ds => (e ρ).bind fun x => x.shr.bind fun d => if ds.length < LIM then some (.nx (ρ.set k (some (.bo (ds ++ [d]))))) else none := by
  unfold sApp
  cases ρ[k]? with
  | none => rfl
  | some o =>
    cases o with
    | none => rfl
    | some r => cases r <;> rfl
structure Sd (w k : Nat) (d : PyData) : Prop where
  ok : okB d = true
  few : cn d ≤ w
  deep : d.depth ≤ k
theorem Sd.gd {w k : Nat} {d : PyData} (h : Sd w k d) (hw : w ≤ 500) (hk : k ≤ 20) : Gd d := ⟨h.ok, Nat.le_trans h.few hw, Nat.le_trans h.deep hk⟩
theorem Sd.mono {w k w' k' : Nat} {d : PyData} (h : Sd w k d) (hw : w ≤ w') (hk : k ≤ k') : Sd w' k' d := ⟨h.ok, Nat.le_trans h.few hw, Nat.le_trans h.deep hk⟩
theorem sd_int {n : Nat} {i : Int} (h : Bd n i) (hn : n ≤ IB) : Sd 1 0 (.int i) := ⟨by rw [okB_i]; exact decide_eq_true (h.mono hn), by simp, by simp⟩
theorem sd_M {n : Nat} {m : M} (h : m.bd n) (hn : n ≤ IB) : Sd 5 1 m.D := by
  obtain ⟨h1, h2, h3, h4⟩ := h
  refine ⟨?_, by simp [M.D], by simp [M.D]⟩
  simp [M.D, h1.mono hn, h2.mono hn, h3.mono hn, h4.mono hn]
def Al (p : PyData → Prop) (ds : List PyData) : Prop := ∀ d ∈ ds, p d
theorem Al.nil {p : PyData → Prop} : Al p [] := nofun
theorem Al.cons {p : PyData → Prop} {d : PyData} {ds : List PyData} (h : p d) (hs : Al p ds) : Al p (d :: ds) := fun e he => by
  rcases List.mem_cons.mp he with rfl | he
  · exact h
  · exact hs e he
theorem Al.app {p : PyData → Prop} {ds es : List PyData} (h : Al p ds) (hs : Al p es) : Al p (ds ++ es) := fun e he => by
  rcases List.mem_append.mp he with he | he
  · exact h e he
  · exact hs e he
theorem sd_s {x : Str} {w : Nat} (h : PyData.strOk x = true) (hl : x.length ≤ 600) (hw : 1 + x.length ≤ w) (k : Nat) : Sd w k (.str x) := ⟨by rw [okB_s, h, Bool.and_true]; exact decide_eq_true hl, by rw [cn_s]; exact hw, by simp⟩
theorem sd_none (w k : Nat) (h : 1 ≤ w) : Sd w k .none := ⟨by simp, by simpa using h, by simp⟩
theorem sd_bool (b : Bool) (w k : Nat) (h : 1 ≤ w) : Sd w k (.bool b) := ⟨by simp, by simpa using h, by simp⟩
structure Ro (w k : Nat) (ds : List PyData) : Prop where
  ok : okL ds = true
  few : cnL ds ≤ w
  deep : PyData.depthAll ds ≤ k
theorem Ro.nil {w k : Nat} : Ro w k [] := ⟨by simp, by simp, by simp⟩
theorem Ro.cons {w v k : Nat} {d : PyData} {ds : List PyData} (h : Sd w k d) (hs : Ro v k ds) : Ro (w + v) k (d :: ds) := by
  obtain ⟨h1, h2, h3⟩ := h
  obtain ⟨g1, g2, g3⟩ := hs
  exact ⟨by rw [okL_c, h1, g1]; rfl, by rw [cnL_c]; omega, by rw [dpA_c]; omega⟩
theorem Ro.tup {w k : Nat} {ds : List PyData} (h : Ro w k ds) : Sd (w + 1) (k + 1) (.tuple ds) := ⟨by rw [okB_t]; exact h.ok, by rw [cn_t]; have := h.few; omega, by rw [dp_t]; have := h.deep; omega⟩
theorem Ro.lst {w k : Nat} {ds : List PyData} (h : Ro w k ds) : Sd (w + 1) (k + 1) (.list ds) := ⟨by rw [okB_l]; exact h.ok, by rw [cn_l]; have := h.few; omega, by rw [dp_l]; have := h.deep; omega⟩
theorem Ro.app {w v k : Nat} {ds es : List PyData} (h : Ro w k ds) (g : Ro v k es) : Ro (w + v) k (ds ++ es) := by
  obtain ⟨h1, h2, h3⟩ := h
  obtain ⟨g1, g2, g3⟩ := g
  exact ⟨by rw [okL_app, h1, g1]; rfl, by rw [cnL_app]; omega, by rw [dpA_app]; omega⟩
theorem Ro.take {w k : Nat} {ds : List PyData} (n : Nat) (h : Ro w k ds) : Ro w k (ds.take n) :=
  ⟨okL_iff.mpr fun d hd => okL_iff.mp h.ok d (List.mem_of_mem_take hd), Nat.le_trans (cnL_take n ds) h.few, dpA_le fun d hd => Nat.le_trans (dpA_mem (List.mem_of_mem_take hd)) h.deep⟩
theorem Ro.drop {w k : Nat} {ds : List PyData} (n : Nat) (h : Ro w k ds) : Ro w k (ds.drop n) :=
  ⟨okL_iff.mpr fun d hd => okL_iff.mp h.ok d (List.mem_of_mem_drop hd), Nat.le_trans (cnL_drop n ds) h.few, dpA_le fun d hd => Nat.le_trans (dpA_mem (List.mem_of_mem_drop hd)) h.deep⟩
theorem Ro.mono {w k w' k' : Nat} {ds : List PyData} (h : Ro w k ds) (hw : w ≤ w') (hk : k ≤ k') : Ro w' k' ds := ⟨h.ok, Nat.le_trans h.few hw, Nat.le_trans h.deep hk⟩
theorem ro_cy {l : List Int} (h : ∀ i ∈ l, Bd 14 i) : Ro l.length 0 (l.map .int) := by
  refine ⟨?_, by rw [cnL_ints]; exact Nat.le_refl _, by rw [dpA_ints]; exact Nat.le_refl _⟩
  rw [okL_ints, List.all_eq_true]
  exact fun i hi => decide_eq_true ((h i hi).mono (by decide))
theorem Sd.row {w k : Nat} {ds : List PyData} (h : Sd w (k + 1) (.tuple ds)) : Ro w k ds := by
  obtain ⟨h1, h2, h3⟩ := h
  rw [okB_t] at h1
  rw [cn_t] at h2
  rw [dp_t] at h3
  exact ⟨h1, by omega, by omega⟩
@[simp] theorem c_to0 {ds : List PyData} : cutD ds none (some 0) = ds.take 0 := cut_to ds 0
@[simp] theorem c_to1 {ds : List PyData} : cutD ds none (some 1) = ds.take 1 := cut_to ds 1
@[simp] theorem c_to2 {ds : List PyData} : cutD ds none (some 2) = ds.take 2 := cut_to ds 2
@[simp] theorem c_to3 {ds : List PyData} : cutD ds none (some 3) = ds.take 3 := cut_to ds 3
@[simp] theorem c_fr1 {ds : List PyData} : cutD ds (some 1) none = ds.drop 1 := cut_from ds 1
@[simp] theorem c_fr2 {ds : List PyData} : cutD ds (some 2) none = ds.drop 2 := cut_from ds 2
@[simp] theorem c_fr3 {ds : List PyData} : cutD ds (some 3) none = ds.drop 3 := cut_from ds 3
@[simp] theorem c_fr4 {ds : List PyData} : cutD ds (some 4) none = ds.drop 4 := cut_from ds 4
@[simp] theorem c_tom {ds : List PyData} : cutD ds none (some (-1)) = ds.take (ds.length - 1) := cut_front ds
theorem hs_at (m : M) {n : Nat} (hb : m.bd n) {k : Nat} (hk : k < 4) : ∃ x : Int, Bd n x ∧ atI [PyData.int m.a, .int m.b, .int m.c, .int m.d] (k : Int) = some (.int x) := by
  obtain ⟨h1, h2, h3, h4⟩ := hb
  rw [atI_nat']
  match k, hk with
  | 0, _ => exact ⟨_, h1, rfl⟩
  | 1, _ => exact ⟨_, h2, rfl⟩
  | 2, _ => exact ⟨_, h3, rfl⟩
  | 3, _ => exact ⟨_, h4, rfl⟩
theorem ro_M {n : Nat} {m : M} (h : m.bd n) (hn : n ≤ IB) : Ro 4 0 [.int m.a, .int m.b, .int m.c, .int m.d] := by
  obtain ⟨h1, h2, h3, h4⟩ := h
  refine ⟨?_, by simp, by simp⟩
  simp [h1.mono hn, h2.mono hn, h3.mono hn, h4.mono hn]
theorem one_loop {hs : List PyData} (q0 q2 q3 : Option Res) {k : Nat} (hq2 : q2 = some (.sh (.int k))) (hh : Ro 4 0 hs) (hl : hs.length = 4) (items : List PyData) (hi : Al (Sd 303 1) items) (hn : items.length ≤ 20) (ps : List PyData) (hp : Al Gd ps) (hpl : ps.length ≤ 50) :
    ∃ ps', forD (gNm 5) (sFo [5] (sApp 4 (eTup (aCons (eC (.str "one")) (aCons (eBin addR (eBin addR (eSl (eVar 1) oNo (oIs (eVar 2))) (eTup (aCons (eVar 5) aNil))) (eSl (eVar 1) (oIs (eBin addR (eVar 2) (eC (.int 1)))) oNo)) aNil))))) items
      [q0, some (.sh (.tuple hs)), q2, q3, some (.bo ps), none, none, none, none, none, none] = some (.nx [q0, some (.sh (.tuple hs)), q2, q3, some (.bo ps'), none, none, none, none, none, none]) ∧ Al Gd ps' ∧ ps'.length = ps.length + items.length := by
  subst hq2
  have hto : cutD hs none (some (k : Int)) = hs.take k := cut_to _ k
  have hfr : cutD hs (some ((k : Int) + 1)) none = hs.drop (k + 1) := cut_from _ (k + 1)
  obtain ⟨ρ', e, ps', rfl, h1, h2⟩ := for_inv (g := gNm 5) (b := (sFo [5] (sApp 4 (eTup (aCons (eC (.str "one")) (aCons (eBin addR (eBin addR (eSl (eVar 1) oNo (oIs (eVar 2))) (eTup (aCons (eVar 5) aNil))) (eSl (eVar 1) (oIs (eBin addR (eVar 2) (eC (.int 1)))) oNo)) aNil)))))) (fun j ρ => ∃ ps', ρ = [q0, some (.sh (.tuple hs)), some (.sh (.int k)), q3, some (.bo ps'), none, none, none, none, none, none] ∧ Al Gd ps' ∧ ps'.length = ps.length + j) items 0 [q0, some (.sh (.tuple hs)), some (.sh (.int k)), q3, some (.bo ps), none, none, none, none, none, none]
    (fun j d ρ hj hI => by
      obtain ⟨ps', rfl, i1, i2⟩ := hI
      have hd := hi d (List.mem_of_getElem? hj)
      have hjl := (List.getElem?_eq_some_iff.mp hj).1
      have c1 : ps'.length < 1000000 := by omega
      have c2 : (hs.take k).length + 1 ≤ 1000000 := by rw [List.length_take]; omega
      have c3 : (hs.take k).length + 1 + (hs.drop (k + 1)).length ≤ 1000000 := by rw [List.length_take, List.length_drop]; omega
      have g : Gd (.tuple [.str "one", .tuple (hs.take k ++ [d] ++ hs.drop (k + 1))]) := by
        have r1 : Ro (4 + (303 + 0) + 4) 1 (hs.take k ++ [d] ++ hs.drop (k + 1)) := Ro.app (Ro.app ((hh.take k).mono (Nat.le_refl _) (by decide)) (Ro.cons hd Ro.nil)) ((hh.drop (k + 1)).mono (Nat.le_refl _) (by decide))
        exact (Ro.cons (sd_s (x := "one") (w := 10) (strOk_of _) (by rw [show ("one" : Str).length = 3 from rfl]; decide) (by rw [show ("one" : Str).length = 3 from rfl]; decide) 2) (Ro.cons r1.tup Ro.nil (v := 0))).tup.gd (by decide) (by decide)
      refine ⟨_, ?_, ps' ++ [.tuple [.str "one", .tuple (hs.take k ++ [d] ++ hs.drop (k + 1))]], rfl, i1.app (Al.cons g Al.nil), by rw [List.length_append]; simp; omega⟩
      rw [List.length_take] at c2
      rw [List.length_take, List.length_drop] at c3
      simp [sApp_run, hto, hfr, c1, c2, c3]) ⟨ps, rfl, hp, rfl⟩
  exact ⟨ps', e, h1, by omega⟩
theorem inv_by {g x : M} (hd : g.det = 1) : g.inv * M.by_ g x = x * g.inv := by
  unfold M.by_
  rw [← M.mul_assoc, ← M.mul_assoc, M.inv_mul hd, M.one_mul]
theorem mt_some {a b : List Int} {j : Nat} (h : mt a b = some j) : j < (a.length + 1) / 2 ∧ rot a (2 * j) = b := by
  unfold mt at h
  have h1 := List.find?_some h
  have h2 := List.mem_of_find?_eq_some h
  exact ⟨List.mem_range.mp h2, of_decide_eq_true h1⟩
def KPok (X Y : M) : Prop := ∃ p, f_kind_paper [X.D, Y.D] = some (.sh p) ∧ Gd p
theorem while_inv {k : Rh → Option Bool} {b : Rh → Option Out} (I : Nat → Rh → Prop) (Q : Rh → Prop) (h : ∀ n ρ, I n ρ → (k ρ = some false ∧ Q ρ) ∨ (k ρ = some true ∧ ∃ ρ', b ρ = some (.nx ρ') ∧ ∃ m, m < n ∧ I m ρ')) (n : Nat) (ρ : Rh) (hI : I n ρ) : ∃ ρ', sWhile k b ρ = some (.nx ρ') ∧ Q ρ' := by
  have : ∀ n, ∀ ρ, I n ρ → ∃ ρ' f, whileN k b f ρ = some (.nx ρ') ∧ Q ρ' := by
    intro n
    induction n using Nat.strongRecOn with
    | _ n ih =>
      intro ρ hI
      rcases h n ρ hI with ⟨h1, h2⟩ | ⟨h1, ρ', h2, m, hm, h3⟩
      · exact ⟨ρ, 1, by rw [whileN, h1]; rfl, h2⟩
      · obtain ⟨ρ'', f, e, q⟩ := ih m hm ρ' h3
        refine ⟨ρ'', f + 1, ?_, q⟩
        rw [whileN, h1, Option.bind_some, if_pos rfl, h2]
        exact e
  obtain ⟨ρ', f, e, q⟩ := this n ρ hI
  exact ⟨ρ', sWhile_of e, q⟩
theorem near_pos {f s : Int} (h : 0 < s) : 2 * (f - (2 * f + s) / (2 * s) * s).natAbs ≤ s.natAbs := by
  have h1 := Int.mul_ediv_add_emod (2 * f + s) (2 * s)
  have h2 := Int.emod_nonneg (2 * f + s) (show 2 * s ≠ 0 by omega)
  have h3 := Int.emod_lt_of_pos (2 * f + s) (show 0 < 2 * s by omega)
  generalize (2 * f + s) / (2 * s) = k at *
  generalize (2 * f + s) % (2 * s) = r at *
  have h4 : 2 * s * k = 2 * (k * s) := by rw [Int.mul_assoc, Int.mul_comm s k]
  rw [h4] at h1
  generalize k * s = p at *
  omega
theorem e_nearest {f s : Int} (h : s ≠ 0) (bf : Bd 100 f) (bs : Bd 100 s) : ∃ k : Int, f_nearest [.int f, .int s] = some (.sh (.int k)) ∧ 2 * (f - k * s).natAbs ≤ s.natAbs := by
  by_cases h0 : s < 0
  · have m1 : mulOk 2 (-f) := mulOk_of (show Bd 3 2 by decide) bf.neg (by decide)
    have m2 : mulOk 2 (-s) := mulOk_of (show Bd 3 2 by decide) bs.neg (by decide)
    have hd : divOk (2 * (-s)) := divOk_of (by omega) ((show Bd 3 2 by decide).mul bs.neg) (by decide)
    have hn := near_pos (f := -f) (s := -s) (by omega)
    refine ⟨(2 * (-f) + (-s)) / (2 * (-s)), ?_, ?_⟩
    · clear hn
      obtain ⟨f', hf'⟩ : ∃ f', -f = f' := ⟨_, rfl⟩
      obtain ⟨s', hs'⟩ : ∃ s', -s = s' := ⟨_, rfl⟩
      rw [hf'] at m1 ⊢
      rw [hs'] at m2 hd ⊢
      simp [f_nearest, b_nearest, h0, hf', hs', m1, m2, hd]
    · generalize (2 * (-f) + (-s)) / (2 * (-s)) = k at *
      rw [Int.mul_neg] at hn
      generalize k * s = p at *
      omega
  · have m1 : mulOk 2 f := mulOk_of (show Bd 3 2 by decide) bf (by decide)
    have m2 : mulOk 2 s := mulOk_of (show Bd 3 2 by decide) bs (by decide)
    have hd : divOk (2 * s) := divOk_of (by omega) ((show Bd 3 2 by decide).mul bs) (by decide)
    refine ⟨(2 * f + s) / (2 * s), ?_, near_pos (by omega)⟩
    simp [f_nearest, b_nearest, h0, m1, m2, hd]
theorem off_ne {m : M} (hd : m.det = 1) (ht : 3 ≤ m.tr) : m.b ≠ 0 ∧ m.c ≠ 0 := by
  unfold M.det at hd
  unfold M.tr at ht
  have key : m.a * m.d = 1 → False := fun h => by
    have h1 : m.a.natAbs * m.d.natAbs = 1 := by rw [← Int.natAbs_mul, h]; rfl
    have h2 := Nat.eq_one_of_mul_eq_one_right h1
    have h3 := Nat.eq_one_of_mul_eq_one_left h1
    omega
  constructor
  · intro h
    rw [h, Int.zero_mul, Int.sub_zero] at hd
    exact key hd
  · intro h
    rw [h, Int.mul_zero, Int.sub_zero] at hd
    exact key hd
theorem sq_abs (x : Int) : x * x = ((x.natAbs * x.natAbs : Nat) : Int) := (Int.natAbs_mul_self' x ▸ by simp)
theorem shrink {m : M} (hd : m.det = 1) (ht : 3 ≤ m.tr) (h : (m.a - m.d).natAbs ≤ m.c.natAbs) (hn : m.b * m.c < 0) : 4 * m.b.natAbs < m.c.natAbs := by
  unfold M.det at hd
  unfold M.tr at ht
  have e1 : (m.a - m.d) * (m.a - m.d) = (m.a + m.d) * (m.a + m.d) - 4 * (m.a * m.d) := by
    simp only [Int.sub_mul, Int.mul_sub, Int.add_mul, Int.mul_add, Int.mul_comm m.d m.a]
    omega
  have e2 : 9 ≤ (m.a + m.d) * (m.a + m.d) := Int.mul_le_mul ht ht (by decide) (by omega)
  have e3 := sq_abs (m.a - m.d)
  have e4 : (m.a - m.d).natAbs * (m.a - m.d).natAbs ≤ m.c.natAbs * m.c.natAbs := Nat.mul_le_mul h h
  have e5 : m.b * m.c = -((m.b.natAbs * m.c.natAbs : Nat) : Int) := by
    have := Int.natAbs_mul m.b m.c
    omega
  apply Nat.lt_of_not_le
  intro hc
  have e6 : m.c.natAbs * m.c.natAbs ≤ 4 * m.b.natAbs * m.c.natAbs := Nat.mul_le_mul_right _ hc
  rw [Nat.mul_assoc] at e6
  omega
def qt : M := ⟨0, -1, 1, 0⟩
theorem by_mul (x y m : M) : M.by_ (x * y) m = M.by_ x (M.by_ y m) := by
  unfold M.by_
  rw [M.inv_mul_rev]
  simp only [M.mul_assoc]
theorem by_qt (m : M) : M.by_ qt m = ⟨m.d, -m.c, -m.b, m.a⟩ := by
  unfold M.by_ qt
  simp only [M.mul_def, M.inv]
  ext <;> simp only [] <;> omega
def cen (k : Int) : M := ⟨1, -k, 0, 1⟩
theorem by_cen (k : Int) (m : M) : (M.by_ (cen k) m).c = m.c ∧ (M.by_ (cen k) m).a - (M.by_ (cen k) m).d = m.a - m.d - k * (2 * m.c) := by
  unfold M.by_ cen
  simp only [M.mul_def, M.inv]
  have h1 : -k * m.c = -(k * m.c) := Int.neg_mul k m.c
  have h2 : m.c * k = k * m.c := Int.mul_comm _ _
  have h3 : k * (2 * m.c) = 2 * (k * m.c) := by rw [← Int.mul_assoc, Int.mul_comm k 2, Int.mul_assoc]
  simp only [Int.zero_mul, Int.one_mul, Int.zero_add, Int.neg_neg, Int.mul_one, Int.mul_zero, Int.add_zero, Int.neg_zero]
  exact ⟨by first | trivial | omega, by omega⟩
theorem cen_det (k : Int) : (cen k).det = 1 := by
  unfold cen M.det
  simp
theorem qt_det : qt.det = 1 := by decide
theorem e_centring {m : M} (hc : m.c ≠ 0) (b1 : Bd 66 (m.a - m.d)) (b2 : Bd 66 m.c) : ∃ k : Int, f_centring [m.D] = some (.sh (cen k).D) ∧ 2 * (m.a - m.d - k * (2 * m.c)).natAbs ≤ (2 * m.c).natAbs := by
  have m2 : mulOk 2 m.c := mulOk_of (show Bd 3 2 by decide) b2 (by decide)
  obtain ⟨k, e, hk⟩ := e_nearest (f := m.a - m.d) (s := 2 * m.c) (by omega) (b1.mono (by decide)) (((show Bd 3 2 by decide).mul b2).mono (by decide))
  refine ⟨k, ?_, hk⟩
  simp [f_centring, b_centring, M.D, m2, e, cen]
theorem abs_le_mul {x y : Int} (hy : y ≠ 0) : x.natAbs ≤ (x * y).natAbs := by
  rw [Int.natAbs_mul]
  exact Nat.le_mul_of_pos_right _ (by omega)
theorem mid_facts {t : Int} (t3 : 3 ≤ t) (tb : t < 2147483648) {m : M} (hd : m.det = 1) (ht : m.tr = t) (hc : m.c.natAbs < 2147483648) (had : (m.a - m.d).natAbs < 4294967296) {k : Int} (hk : 2 * (m.a - m.d - k * (2 * m.c)).natAbs ≤ (2 * m.c).natAbs) :
    (cen k).bd 34 ∧ (M.by_ (cen k) m).det = 1 ∧ (M.by_ (cen k) m).tr = t ∧ (M.by_ (cen k) m).c = m.c ∧ ((M.by_ (cen k) m).a - (M.by_ (cen k) m).d).natAbs ≤ m.c.natAbs ∧ (M.by_ (cen k) m).bd 70 ∧ (M.by_ (cen k) m).b ≠ 0 ∧ m.c ≠ 0 := by
  obtain ⟨_, c0⟩ := off_ne hd (by omega)
  obtain ⟨e1, e2⟩ := by_cen k m
  have d1 : (M.by_ (cen k) m).det = 1 := by rw [M.by_det (cen_det k), hd]
  have t1 : (M.by_ (cen k) m).tr = t := by rw [M.by_tr (cen_det k), ht]
  have b0 := (off_ne d1 (by omega)).1
  have hkk := abs_le_mul (x := k) (y := 2 * m.c) (by omega)
  generalize M.by_ (cen k) m = m1 at *
  have ha : (m1.a - m1.d).natAbs ≤ m.c.natAbs := by
    rw [e2]
    generalize k * (2 * m.c) = p at *
    omega
  have kb : k.natAbs < 2 ^ 33 := by
    generalize k * (2 * m.c) = p at *
    omega
  have hcen : (cen k).bd 34 := ⟨(show Bd 34 1 by decide), (show Bd 33 (-k) by unfold Bd; omega).mono (by decide), (show Bd 34 0 by decide), (show Bd 34 1 by decide)⟩
  unfold M.tr at t1
  have a1 : m1.a.natAbs < 2 ^ 31 := by omega
  have a2 : m1.d.natAbs < 2 ^ 31 := by omega
  have hb : m1.b.natAbs < 2 ^ 63 := by
    have h1 := abs_le_mul (x := m1.b) (y := m1.c) (by rw [e1]; exact c0)
    have h2 : m1.b * m1.c = m1.a * m1.d - 1 := by unfold M.det at d1; omega
    have h3 : (m1.a * m1.d).natAbs ≤ 2 ^ 31 * 2 ^ 31 := by
      rw [Int.natAbs_mul]
      exact Nat.mul_le_mul (by omega) (by omega)
    rw [h2] at h1
    omega
  have B : m1.bd 70 := ⟨(show Bd 31 m1.a from a1).mono (by decide), (show Bd 63 m1.b from hb).mono (by decide), (show Bd 31 m1.c by rw [e1]; exact hc).mono (by decide), (show Bd 31 m1.d from a2).mono (by decide)⟩
  exact ⟨hcen, d1, t1, e1, ha, B, b0, c0⟩
theorem qt_bd : qt.bd 1 := by unfold qt; exact ⟨by decide, by decide, by decide, by decide⟩
theorem div_facts {x u : Int} (hu : 0 < u) (h : u ≤ x) : 1 ≤ x / u ∧ 0 ≤ x - x / u * u ∧ x - x / u * u < u ∧ x / u ≤ x := by
  have h1 := Int.mul_ediv_add_emod x u
  have h2 := Int.emod_nonneg x (show u ≠ 0 by omega)
  have h3 := Int.emod_lt_of_pos x hu
  have h4 : 1 ≤ x / u := (Int.le_ediv_iff_mul_le hu).mpr (by omega)
  have h5 : x / u ≤ x := Int.ediv_le_self _ (by omega)
  rw [Int.mul_comm] at h1
  exact ⟨h4, by omega, by omega, h5⟩
theorem bd_nn {n : Nat} {x y : Int} (h : Bd n y) (h0 : 0 ≤ x) (h1 : x ≤ y) : Bd n x := by
  unfold Bd at *
  omega
theorem e_fitting {x u y v : Int} (hu : 0 ≤ u) (hv : 0 ≤ v) (hx : u ≤ x) (hy : v ≤ y) (h0 : 0 < u ∨ 0 < v) (bx : Bd 70 x) (by_ : Bd 70 y) :
    ∃ t : Int, f_fitting [.int x, .int u, .int y, .int v] = some (.sh (.int t)) ∧ 1 ≤ t ∧ 0 ≤ x - t * u ∧ 0 ≤ y - t * v ∧ (x - t * u < u ∨ y - t * v < v) ∧ Bd 70 t := by
  have bu := bd_nn bx hu hx
  have bv := bd_nn by_ hv hy
  by_cases h1 : u = 0
  · have hv' : 0 < v := by omega
    obtain ⟨d1, d2, d3, d4⟩ := div_facts hv' hy
    have dv : divOk v := divOk_of hv' bv (by decide)
    refine ⟨y / v, ?_, d1, ?_, d2, Or.inr d3, bd_nn by_ (by omega) d4⟩
    · simp [f_fitting, b_fitting, h1, dv]
    · rw [h1, Int.mul_zero]
      omega
  · have hu' : 0 < u := by omega
    obtain ⟨d1, d2, d3, d4⟩ := div_facts hu' hx
    have du : divOk u := divOk_of hu' bu (by decide)
    by_cases h2 : v = 0
    · refine ⟨x / u, ?_, d1, d2, ?_, Or.inl d3, bd_nn bx (by omega) d4⟩
      · simp [f_fitting, b_fitting, h1, h2, du]
      · rw [h2, Int.mul_zero]
        omega
    · have hv' : 0 < v := by omega
      obtain ⟨g1, g2, g3, g4⟩ := div_facts hv' hy
      have dv : divOk v := divOk_of hv' bv (by decide)
      have ev : f_fitting [.int x, .int u, .int y, .int v] = some (.sh (.int (min (x / u) (y / v)))) := by
        simp [f_fitting, b_fitting, h1, h2, du, dv, mmR, minL]
      by_cases hm : x / u ≤ y / v
      · rw [Int.min_eq_left hm] at ev
        have := Int.mul_le_mul_of_nonneg_right hm hv
        exact ⟨_, ev, d1, d2, by omega, Or.inl d3, bd_nn bx (by omega) d4⟩
      · rw [Int.min_eq_right (by omega)] at ev
        have := Int.mul_le_mul_of_nonneg_right (show y / v ≤ x / u by omega) hu
        exact ⟨_, ev, g1, by omega, g2, Or.inr g3, bd_nn by_ (by omega) g4⟩
structure Nn (m : M) : Prop where
  a : 0 ≤ m.a
  b : 0 ≤ m.b
  c : 0 ≤ m.c
  d : 0 ≤ m.d
  det : m.det = 1
theorem Nn.ad {m : M} (h : Nn m) : 0 < m.a ∧ 0 < m.d := by
  obtain ⟨h1, h2, h3, h4, h5⟩ := h
  unfold M.det at h5
  have h6 := Int.mul_nonneg h2 h3
  constructor
  · by_cases h : m.a = 0
    · rw [h, Int.zero_mul] at h5
      omega
    · omega
  · by_cases h : m.d = 0
    · rw [h, Int.mul_zero] at h5
      omega
    · omega
theorem Nn.comp {m : M} (h : Nn m) (hn : ¬ (m.c ≤ m.a ∧ m.d ≤ m.b)) : m = M.one ∨ (m.a ≤ m.c ∧ m.b ≤ m.d) := by
  obtain ⟨h1, h2, h3, h4, h5⟩ := h
  unfold M.det at h5
  by_cases hq : m.a ≤ m.c ∧ m.b ≤ m.d
  · exact Or.inr hq
  · left
    by_cases g : m.a < m.c
    · have g2 : m.d < m.b := by omega
      have g3 : m.a * m.d ≤ (m.c - 1) * (m.b - 1) := Int.mul_le_mul (by omega) (by omega) h4 (by omega)
      have g4 : (m.c - 1) * (m.b - 1) = m.b * m.c - m.b - m.c + 1 := by
        simp only [Int.sub_mul, Int.mul_sub, Int.mul_comm m.c m.b]
        omega
      omega
    · have g1 : m.b < m.d := by omega
      have g2 : m.c < m.a := by omega
      have g3 : (m.c + 1) * (m.b + 1) ≤ m.a * m.d := Int.mul_le_mul (by omega) (by omega) (by omega) (by omega)
      have g4 : (m.c + 1) * (m.b + 1) = m.b * m.c + m.b + m.c + 1 := by
        simp only [Int.add_mul, Int.mul_add, Int.mul_comm m.c m.b]
        omega
      have hb : m.b = 0 := by omega
      have hc : m.c = 0 := by omega
      have hd : m.a * m.d = 1 := by rw [hb, Int.zero_mul] at h5; omega
      have k1 : m.a.natAbs * m.d.natAbs = 1 := by rw [← Int.natAbs_mul, hd]; rfl
      have k2 := Nat.eq_one_of_mul_eq_one_right k1
      have k3 := Nat.eq_one_of_mul_eq_one_left k1
      exact M.ext' (by show m.a = 1; omega) hb hc (by show m.d = 1; omega)
def nrm (m : M) : Int := (m.a + m.b) * (m.c + m.d)
theorem Nn.nrm_pos {m : M} (h : Nn m) : 1 ≤ nrm m := by
  obtain ⟨h1, h2⟩ := h.ad
  have h3 := h.b
  have h4 := h.c
  exact Int.mul_le_mul (a := 1) (b := 1) (by omega) (by omega) (by decide) (by omega)
theorem step_a {m : M} (h : Nn m) {t : Int} (ht : 1 ≤ t) (h1 : 0 ≤ m.a - t * m.c) (h2 : 0 ≤ m.b - t * m.d) (h3 : m.a - t * m.c < m.c ∨ m.b - t * m.d < m.d) :
    Nn ⟨m.a - t * m.c, m.b - t * m.d, m.c, m.d⟩ ∧ nrm ⟨m.a - t * m.c, m.b - t * m.d, m.c, m.d⟩ * (1 + t) ≤ nrm m := by
  have hN : Nn ⟨m.a - t * m.c, m.b - t * m.d, m.c, m.d⟩ := by
    refine ⟨h1, h2, h.c, h.d, ?_⟩
    have := h.det
    unfold M.det at this ⊢
    simp only [Int.sub_mul]
    have e : t * m.c * m.d = t * m.d * m.c := by ac_rfl
    omega
  refine ⟨hN, ?_⟩
  have hle : m.a - t * m.c + (m.b - t * m.d) ≤ m.c + m.d := by
    rcases hN.comp (by simp only []; omega) with e | ⟨e1, e2⟩
    · have e1 := congrArg M.a e
      have e2 := congrArg M.b e
      have e3 := congrArg M.c e
      have e4 := congrArg M.d e
      simp only [M.one] at e1 e2 e3 e4
      omega
    · simp only [] at e1 e2
      omega
  unfold nrm
  simp only []
  have hcd : 0 ≤ m.c + m.d := by have := h.c; have := h.d; omega
  generalize hr : m.a - t * m.c + (m.b - t * m.d) = r at *
  have e1 : m.a + m.b = r + t * (m.c + m.d) := by rw [Int.mul_add]; omega
  rw [e1]
  have e2 : r * (m.c + m.d) * (1 + t) = (r + t * r) * (m.c + m.d) := by
    rw [Int.mul_add, Int.mul_one, Int.add_mul]
    congr 1
    ac_rfl
  rw [e2]
  apply Int.mul_le_mul_of_nonneg_right _ hcd
  have := Int.mul_le_mul_of_nonneg_left hle (show 0 ≤ t by omega)
  omega
theorem step_c {m : M} (h : Nn m) {t : Int} (ht : 1 ≤ t) (h1 : 0 ≤ m.c - t * m.a) (h2 : 0 ≤ m.d - t * m.b) (h3 : m.c - t * m.a < m.a ∨ m.d - t * m.b < m.b) :
    Nn ⟨m.a, m.b, m.c - t * m.a, m.d - t * m.b⟩ ∧ nrm ⟨m.a, m.b, m.c - t * m.a, m.d - t * m.b⟩ * (1 + t) ≤ nrm m := by
  have hN : Nn ⟨m.a, m.b, m.c - t * m.a, m.d - t * m.b⟩ := by
    refine ⟨h.a, h.b, h1, h2, ?_⟩
    have := h.det
    unfold M.det at this ⊢
    simp only [Int.mul_sub]
    have e : m.a * (t * m.b) = m.b * (t * m.a) := by ac_rfl
    omega
  refine ⟨hN, ?_⟩
  have hle : m.c - t * m.a + (m.d - t * m.b) ≤ m.a + m.b := by
    by_cases hq : m.c - t * m.a ≤ m.a ∧ m.d - t * m.b ≤ m.b
    · omega
    · rcases hN.comp (by simp only []; exact hq) with e | ⟨e1, e2⟩
      · have e1 := congrArg M.a e
        have e2 := congrArg M.b e
        have e3 := congrArg M.c e
        have e4 := congrArg M.d e
        simp only [M.one] at e1 e2 e3 e4
        omega
      · simp only [] at e1 e2
        omega
  unfold nrm
  simp only []
  have hcd : 0 ≤ m.a + m.b := by have := h.a; have := h.b; omega
  generalize hr : m.c - t * m.a + (m.d - t * m.b) = r at *
  have e1 : m.c + m.d = r + t * (m.a + m.b) := by rw [Int.mul_add]; omega
  rw [e1]
  have e2 : (m.a + m.b) * r * (1 + t) = (m.a + m.b) * (r + t * r) := by
    rw [Int.mul_assoc]
    congr 1
    rw [Int.mul_add, Int.mul_one, Int.mul_comm r t]
  rw [e2]
  apply Int.mul_le_mul_of_nonneg_left _ hcd
  have := Int.mul_le_mul_of_nonneg_left hle (show 0 ≤ t by omega)
  omega
def wt : List Int → Int
  | [] => 1
  | t :: ts => (1 + t) * wt ts
theorem wt_app : ∀ xs ys : List Int, wt (xs ++ ys) = wt xs * wt ys
  | [], ys => by simp [wt]
  | x :: xs, ys => by
    show (1 + x) * wt (xs ++ ys) = (1 + x) * wt xs * wt ys
    rw [wt_app xs ys, Int.mul_assoc]
def Pos1 (ts : List Int) : Prop := ∀ t ∈ ts, 1 ≤ t
theorem wt_pow : ∀ {ts : List Int}, Pos1 ts → (2 : Int) ^ ts.length ≤ wt ts
  | [], _ => by decide
  | t :: ts, h => by
    have h1 := h t List.mem_cons_self
    have h2 := wt_pow (ts := ts) fun s hs => h s (List.mem_cons_of_mem _ hs)
    show (2 : Int) ^ (ts.length + 1) ≤ (1 + t) * wt ts
    rw [Int.pow_succ, Int.mul_comm]
    exact Int.mul_le_mul (by omega) h2 (Int.le_of_lt (Int.pow_pos (by decide))) (by omega)
theorem wt_pos {ts : List Int} (h : Pos1 ts) : 1 ≤ wt ts := by
  have h1 := wt_pow h
  have h2 : (0 : Int) < 2 ^ ts.length := Int.pow_pos (by decide)
  omega
theorem wt_mem : ∀ {ts : List Int}, Pos1 ts → ∀ t ∈ ts, 1 + t ≤ wt ts
  | s :: ts, h, t, ht => by
    have h1 := h s List.mem_cons_self
    have h2 : Pos1 ts := fun s hs => h s (List.mem_cons_of_mem _ hs)
    have h3 := wt_pos h2
    show 1 + t ≤ (1 + s) * wt ts
    rcases List.mem_cons.mp ht with rfl | ht
    · have := Int.mul_le_mul_of_nonneg_left h3 (show 0 ≤ 1 + t by omega)
      omega
    · have h4 := wt_mem h2 t ht
      have := Int.mul_le_mul_of_nonneg_right (show 1 ≤ 1 + s by omega) (show 0 ≤ wt ts by omega)
      omega
abbrev WB : Nat := 142
theorem len_le {ts : List Int} (h : Pos1 ts) (hw : wt ts < 2 ^ WB) : ts.length < WB := by
  have h1 := wt_pow h
  apply Nat.lt_of_not_le
  intro hc
  have h2 : (2 : Int) ^ WB ≤ 2 ^ ts.length := by
    have := Nat.pow_le_pow_right (show 0 < 2 by decide) hc
    have e : ∀ k : Nat, ((2 ^ k : Nat) : Int) = (2 : Int) ^ k := fun k => by simp
    rw [← e, ← e]
    exact Int.ofNat_le.mpr this
  omega
theorem mem_bd {ts : List Int} (h : Pos1 ts) (hw : wt ts < 2 ^ WB) : ∀ t ∈ ts, Bd WB t := fun t ht => by
  have h1 := wt_mem h t ht
  have h2 := h t ht
  exact bd_of (by have : (0 : Int) < 2 ^ WB := Int.pow_pos (by decide); omega) (by omega)
def rd (p : Int × Int) : PyData := .tuple [.int p.1, .int p.2]
def tms (rs : List (Int × Int)) : List Int := rs.map (·.2)
theorem nrm_bd {m : M} (h : Nn m) (hb : m.bd 70) : nrm m < 2 ^ WB := by
  obtain ⟨b1, b2, b3, b4⟩ := hb
  have h1 := (b1.add b2).mul (b3.add b4)
  have h2 := h1.lt
  exact h2
theorem sApp_rd {ρ : Rh} {k : Nat} {e : Rh → Option Res} {rs : List (Int × Int)} {p : Int × Int} (h : ρ[k]? = some (some (.bo (rs.map rd)))) (he : e ρ = some (.sh (rd p))) (hl : rs.length < 1000000) : sApp k e ρ = some (.nx (ρ.set k (some (.bo ((rs ++ [p]).map rd))))) := by
  rw [sApp_eq h, he]
  have : (rs.map rd).length < LIM := by rw [List.length_map]; exact hl
  simp only [Option.bind_some, shr_s, this, if_true, List.map_append, List.map_cons, List.map_nil]
theorem wt_step {ts : List Int} {t n n' N : Int} (hw : 0 ≤ wt ts) (h : wt ts * n ≤ N) (hn : n' * (1 + t) ≤ n) : wt (ts ++ [t]) * n' ≤ N := by
  rw [wt_app]
  have e : wt ts * wt [t] * n' = wt ts * (n' * (1 + t)) := by
    simp only [wt, Int.mul_one]
    ac_rfl
  rw [e]
  exact Int.le_trans (Int.mul_le_mul_of_nonneg_left hn hw) h
theorem tms_app (rs ss : List (Int × Int)) : tms (rs ++ ss) = tms rs ++ tms ss := by unfold tms; rw [List.map_append]
theorem wt_one (t : Int) : wt [t] = 1 + t := by simp [wt]
theorem pos_app {xs ys : List Int} : Pos1 (xs ++ ys) ↔ Pos1 xs ∧ Pos1 ys := by
  constructor
  · intro h
    exact ⟨fun t ht => h t (List.mem_append_left _ ht), fun t ht => h t (List.mem_append_right _ ht)⟩
  · intro h t ht
    rcases List.mem_append.mp ht with ht | ht
    · exact h.1 t ht
    · exact h.2 t ht
theorem pos_one {t : Int} : Pos1 [t] ↔ 1 ≤ t := by
  constructor
  · intro h
    exact h t List.mem_cons_self
  · intro h s hs
    rcases List.mem_singleton.mp hs with rfl
    exact h
theorem last_at {α : Type} (xs : List α) (q : α) : (xs ++ [q])[(xs ++ [q]).length - 1]? = some q := by
  rw [List.length_append, List.length_singleton, Nat.add_sub_cancel, List.getElem?_append_right (Nat.le_refl _), Nat.sub_self]
  rfl
theorem set_last {α : Type} (xs : List α) (q r : α) : (xs ++ [q]).set xs.length r = xs ++ [r] := by
  rw [List.set_append_right _ _ (Nat.le_refl _), Nat.sub_self]
  rfl
theorem lc_pairs {ρ : Rh} (h : ρ.length = 6) : ∀ rs : List (Int × Int), lcD (gTp (gsC (gNm 4) (gsC (gNm 5) gsN))) tYesD (eVar 5) ρ (rs.map rd) = some ((tms rs).map .int)
  | [] => rfl
  | p :: rs => by
    have ih := lc_pairs h rs
    obtain ⟨a, b, c, d, e, f, rfl⟩ : ∃ a b c d e f, ρ = [a, b, c, d, e, f] := by
      match ρ, h with
      | [a, b, c, d, e, f], _ => exact ⟨a, b, c, d, e, f, rfl⟩
    rw [List.map_cons, lcD]
    change ((gTp (gsC (gNm 4) (gsC (gNm 5) gsN)) (.tuple [.int p.1, .int p.2]) _).bind _) = _
    simp [ih, tms]
theorem wt_swap (xs ys : List Int) : wt (xs ++ ys) = wt (ys ++ xs) := by
  rw [wt_app, wt_app, Int.mul_comm]
theorem cyc_len {ts : List Int} (hp : Pos1 ts) (hw : wt ts < 2 ^ WB) : ts.length ≤ 142 := Nat.le_of_lt (len_le hp hw)
theorem tms_len (rs : List (Int × Int)) : (tms rs).length = rs.length := List.length_map _
theorem rows {zs : List Int} (hp : Pos1 zs) : ∀ k, k ≤ zs.length → 0 ≤ (cyP zs k).a ∧ 0 ≤ (cyP zs k).b ∧ 0 ≤ (cyP zs k).c ∧ 0 ≤ (cyP zs k).d ∧ (cyP zs k).a + (cyP zs k).b ≤ wt (zs.take k) ∧ (cyP zs k).c + (cyP zs k).d ≤ wt (zs.take k)
  | 0, _ => by
    rw [show cyP zs 0 = M.one from rfl, List.take_zero]
    decide
  | k + 1, h => by
    obtain ⟨h1, h2, h3, h4, h5, h6⟩ := rows hp k (by omega)
    have hk : k < zs.length := by omega
    have ht : 1 ≤ a0 zs k := by
      unfold a0
      rw [List.getElem?_eq_getElem hk]
      exact hp _ (List.getElem_mem hk)
    have hw : wt (zs.take (k + 1)) = wt (zs.take k) * (1 + a0 zs k) := by
      rw [List.take_add_one, wt_app]
      unfold a0
      rw [List.getElem?_eq_getElem hk]
      show _ * wt [zs[k]] = _
      rw [wt_one]
      rfl
    rw [hw]
    have hU := cyP_U zs k
    have hL := cyP_L zs k
    generalize a0 zs k = t at *
    have e1 := Int.mul_le_mul_of_nonneg_right h5 (show 0 ≤ 1 + t by omega)
    have e2 := Int.mul_le_mul_of_nonneg_right h6 (show 0 ≤ 1 + t by omega)
    have n1 := Int.mul_nonneg h1 (show 0 ≤ t by omega)
    have n2 := Int.mul_nonneg h2 (show 0 ≤ t by omega)
    have n3 := Int.mul_nonneg h3 (show 0 ≤ t by omega)
    have n4 := Int.mul_nonneg h4 (show 0 ≤ t by omega)
    have s1 : ((cyP zs k).a + (cyP zs k).b) * (1 + t) = (cyP zs k).a + (cyP zs k).b + (cyP zs k).a * t + (cyP zs k).b * t := by
      simp only [Int.mul_add, Int.mul_one, Int.add_mul]
      omega
    have s2 : ((cyP zs k).c + (cyP zs k).d) * (1 + t) = (cyP zs k).c + (cyP zs k).d + (cyP zs k).c * t + (cyP zs k).d * t := by
      simp only [Int.mul_add, Int.mul_one, Int.add_mul]
      omega
    by_cases hk2 : k % 2 = 0
    · rw [hU hk2]
      simp only []
      refine ⟨by omega, by omega, by omega, by omega, by omega, by omega⟩
    · rw [hL hk2]
      simp only []
      refine ⟨by omega, by omega, by omega, by omega, by omega, by omega⟩
theorem cyc_wt {zs : List Int} (hp : Pos1 zs) (hw : wt zs < 2 ^ WB) : (cyc zs).bd WB := by
  obtain ⟨h1, h2, h3, h4, h5, h6⟩ := rows hp zs.length (Nat.le_refl _)
  rw [List.take_length] at h5 h6
  have z : (0 : Int) < 2 ^ WB := Int.pow_pos (by decide)
  unfold cyc
  exact ⟨bd_of (by omega) (by omega), bd_of (by omega) (by omega), bd_of (by omega) (by omega), bd_of (by omega) (by omega)⟩
theorem tr_cyc {c : List Int} (C : Cy c) : 3 ≤ (cyc c).tr := by
  obtain ⟨x, y, r, hc⟩ : ∃ x y r, c = x :: y :: r := by
    match c, C.lo with
    | x :: y :: r, _ => exact ⟨x, y, r, rfl⟩
  have hx := (C.all x (by rw [hc]; simp)).1
  have hy := (C.all y (by rw [hc]; simp)).1
  have hr : Pos1 r := fun t ht => (C.all t (by rw [hc]; simp [ht])).1
  obtain ⟨h1, h2, h3, h4, _, _⟩ := rows hr r.length (Nat.le_refl _)
  have hn : Nn (cyc r) := ⟨h1, h2, h3, h4, cyc_det r⟩
  obtain ⟨pa, pd⟩ := hn.ad
  have e : lt 0 x * lt 1 y = ⟨1 + x * y, x, y, 1⟩ := by
    simp only [lt, M.mul_def]
    ext <;> simp
  rw [hc, cyc_cc, e]
  have nb := hn.b
  have nc := hn.c
  generalize cyc r = R at *
  simp only [M.mul_def, M.tr]
  have k1 : 1 ≤ x * y := Int.mul_le_mul (a := 1) (b := 1) hx hy (by decide) (by omega)
  have k2 := Int.mul_le_mul_of_nonneg_right (show 2 ≤ 1 + x * y by omega) (show 0 ≤ R.a by omega)
  have k3 := Int.mul_nonneg (show 0 ≤ x by omega) nc
  have k4 := Int.mul_nonneg (show 0 ≤ y by omega) nb
  omega
end Lk75
set_option maxRecDepth 100000
set_option maxHeartbeats 1000000
namespace Lk75
open PySem L2 F3
theorem by_one (x : M) : M.by_ M.one x = x := by
  unfold M.by_
  rw [M.one_mul, show M.one.inv = M.one from rfl, M.mul_one]
structure Pst (x : M) (t : Int) (n : Nat) (m h : M) : Prop where
  det : m.det = 1
  tr : m.tr = t
  hb : h.bd (1 + 38 * (15 - n))
  n15 : n ≤ 15
  mb : m.bd 70
  st : (0 < m.b ∧ 0 < m.c) ∨ (m.c.natAbs < 4 ^ n ∧ m.c.natAbs < 2147483648 ∧ (m.a - m.d).natAbs < 4294967296)
  hdet : h.det = 1
  rel : m = M.by_ h x
theorem e_positive_form {x : M} (hd : x.det = 1) (t3 : 3 ≤ x.tr) (hs : small x) : ∃ m h : M, f_positive_form [x.D] = some (.sh (.tuple [m.D, h.D])) ∧ m.det = 1 ∧ m.tr = x.tr ∧ 0 < m.b ∧ 0 < m.c ∧ m.bd 70 ∧ h.bd 571 ∧ h.det = 1 ∧ m = M.by_ h x := by
  have tb : x.tr < 2147483648 := by
    obtain ⟨h1, h2, h3, h4, h5, h6, h7, h8⟩ := hs
    unfold M.tr
    omega
  obtain ⟨t, ht⟩ : ∃ t, t = x.tr := ⟨_, rfl⟩
  rw [← ht] at tb t3 ⊢
  have start : Pst x t 15 x M.one := by
    have hb := hs.bd.mono (show 30 ≤ 70 by decide)
    obtain ⟨h1, h2, h3, h4, h5, h6, h7, h8⟩ := hs
    exact ⟨hd, ht.symm, one_bd, by decide, hb, Or.inr ⟨by omega, by omega, by omega⟩, by decide, (by_one x).symm⟩
  obtain ⟨ρ', e, m, h, q1, q2, q3, q4, q5, q6, q7, q8, rfl⟩ := while_inv (k := (tOrD (tOf (eBin ltR (eBin ixR (eVar 1) (eC (.int 1))) (eC (.int 0)))) (tOf (eBin ltR (eBin ixR (eVar 1) (eC (.int 2))) (eC (.int 0))))))
    (b := (sFo [3] (sSeq (sSet 3 (eFn f_centring (aCons (eVar 1) aNil)))
 (sSeq (sIf (tOrD (tOf (eBin ltR (eBin ixR (eFn f_turned_by (aCons (eVar 1) (aCons (eVar 3) aNil))) (eC (.int 1))) (eC (.int 0)))) (tOf (eBin ltR (eBin ixR (eVar 1) (eC (.int 2))) (eC (.int 0)))))
  (sSet 3 (eFn f_turn_product (aCons (eC c_QUARTER) (aCons (eVar 3) aNil))))
  sPass)
 (sSeq (sSet 1 (eFn f_turned_by (aCons (eVar 1) (aCons (eVar 3) aNil))))
 (sSet 2 (eFn f_turn_product (aCons (eVar 3) (aCons (eVar 2) aNil))))))))) (fun n ρ => ∃ m h : M, ρ = [some (.sh x.D), some (.sh m.D), some (.sh h.D), none] ∧ Pst x t n m h)
    (fun ρ => ∃ m h : M, m.det = 1 ∧ m.tr = t ∧ 0 < m.b ∧ 0 < m.c ∧ m.bd 70 ∧ h.bd 571 ∧ h.det = 1 ∧ m = M.by_ h x ∧ ρ = [some (.sh x.D), some (.sh m.D), some (.sh h.D), none])
    (fun n ρ hI => by
      obtain ⟨m, h, rfl, P⟩ := hI
      obtain ⟨p1, p2, p3, p4, p5, p6, p7, p8⟩ := P
      by_cases hg : 0 < m.b ∧ 0 < m.c
      · refine Or.inl ⟨?_, m, h, p1, p2, hg.1, hg.2, p5, p3.mono (by omega), p7, p8, rfl⟩
        have g1 : ¬ m.b < 0 := by omega
        have g2 : ¬ m.c < 0 := by omega
        simp [M.D, g1, g2]
      · obtain ⟨b0, c0⟩ := off_ne p1 (by omega)
        obtain ⟨c1, c2, c3⟩ := p6.resolve_left hg
        have hn : 1 ≤ n := by
          apply Nat.pos_of_ne_zero
          intro h0
          rw [h0] at c1
          simp at c1
          exact c0 c1
        refine Or.inr ⟨?_, ?_⟩
        · by_cases g1 : m.b < 0
          · simp [M.D, g1]
          · have g2 : m.c < 0 := by omega
            simp [M.D, g1, g2]
        · obtain ⟨k, ek, hk⟩ := e_centring c0 (show Bd 66 (m.a - m.d) from Nat.lt_of_lt_of_le c3 (by decide)) (show Bd 66 m.c from Nat.lt_of_lt_of_le c2 (by decide))
          obtain ⟨f1, f2, f3, f4, f5, f6, f7, f8⟩ := mid_facts t3 tb p1 p2 c2 c3 hk
          have et1 := e_turned_by p5 f1 (by decide)
          have eh1 := e_turn_product f1 p3 (by omega)
          have bh1 := f1.mul p3
          have eq := e_turn_product qt_bd f1 (by decide)
          have bq := qt_bd.mul f1
          have et2 := e_turned_by p5 bq (by decide)
          have eh2 := e_turn_product bq p3 (by omega)
          have bh2 := bq.mul p3
          have hq : M.by_ (qt * cen k) m = M.by_ qt (M.by_ (cen k) m) := by_mul _ _ _
          rw [hq, by_qt] at et2
          have cq : c_QUARTER = qt.D := rfl
          have r1 : M.by_ (cen k) m = M.by_ (cen k * h) x := by
            rw [by_mul, ← p8]
          have r2 : (⟨(M.by_ (cen k) m).d, -(M.by_ (cen k) m).c, -(M.by_ (cen k) m).b, (M.by_ (cen k) m).a⟩ : M) = M.by_ (qt * cen k * h) x := by
            rw [by_mul, by_mul, ← p8, by_qt]
          have dU : (cen k * h).det = 1 := by rw [M.det_mul, cen_det, p7]; rfl
          have dV : (qt * cen k * h).det = 1 := by rw [M.det_mul, M.det_mul, cen_det, qt_det, p7]; rfl
          clear p8
          generalize M.by_ (cen k) m = m1 at *
          generalize cen k = U at *
          generalize qt * U = V at *
          by_cases hneg : m1.b < 0 ∨ m.c < 0
          · refine ⟨[some (.sh x.D), some (.sh (M.mk m1.d (-m1.c) (-m1.b) m1.a).D), some (.sh (V * h).D), none], ?_, n - 1, by omega, ⟨m1.d, -m1.c, -m1.b, m1.a⟩, V * h, rfl, ?_⟩
            · rw [cq]
              simp only [M.D] at *
              by_cases g1 : m1.b < 0
              · simp [ek, et1, g1, eq, et2, eh2]
              · have g2 : m.c < 0 := by omega
                simp [ek, et1, g1, g2, eq, et2, eh2]
            · refine ⟨?_, ?_, bh2.mono (by omega), by omega, ⟨f6.2.2.2, f6.2.2.1.neg, f6.2.1.neg, f6.1⟩, ?_, ?_, ?_⟩
              · unfold M.det at f2 ⊢
                simp only [Int.neg_mul, Int.mul_neg, Int.neg_neg]
                rw [Int.mul_comm m1.d m1.a, Int.mul_comm m1.c m1.b]
                exact f2
              · unfold M.tr at f3 ⊢
                simp only []
                omega
              · by_cases hboth : m1.b < 0 ∧ m1.c < 0
                · left
                  simp only []
                  omega
                · right
                  have hmul : m1.b * m1.c < 0 := by
                    rcases hneg with g | g
                    · exact Int.mul_neg_of_neg_of_pos g (by omega)
                    · exact Int.mul_neg_of_pos_of_neg (by omega) (by omega)
                  have sh := shrink f2 (by omega) (by rw [f4]; exact f5) hmul
                  rw [f4] at sh
                  simp only []
                  have e4 : 4 ^ n = 4 * 4 ^ (n - 1) := by
                    rw [← Nat.pow_succ']
                    congr 1
                    omega
                  refine ⟨by omega, by omega, by omega⟩
              · exact dV
              · exact r2
          · refine ⟨[some (.sh x.D), some (.sh m1.D), some (.sh (U * h).D), none], ?_, n - 1, by omega, m1, U * h, rfl, ?_⟩
            · have g1 : ¬ m1.b < 0 := by omega
              have g2 : ¬ m.c < 0 := by omega
              simp only [M.D] at *
              simp [ek, et1, g1, g2, eh1]
            · exact ⟨f2, f3, bh1.mono (by omega), by omega, f6, Or.inl ⟨by omega, by omega⟩, dU, r1⟩) 15 [some (.sh x.D), some (.sh x.D), some (.sh M.one.D), none] ⟨x, M.one, rfl, start⟩
  refine ⟨m, h, ?_, q1, q2, q3, q4, q5, q6, q7, q8⟩
  have cs : c_STILL = M.one.D := rfl
  simp only [f_positive_form, b_positive_form, cs, fnD_1]
  simp [e]
end Lk75
set_option maxRecDepth 100000
set_option maxHeartbeats 1000000
namespace Lk75
open PySem L2 F3
/-! ### runs, what they are worth -/
def rm (p : Int × Int) : M := if p.1 = 0 then ⟨1, p.2, 0, 1⟩ else ⟨1, 0, p.2, 1⟩
def rp : List (Int × Int) → M
  | [] => M.one
  | p :: rs => rm p * rp rs
theorem rp_app : ∀ rs ss : List (Int × Int), rp (rs ++ ss) = rp rs * rp ss
  | [], ss => by
    show rp ss = M.one * rp ss
    rw [M.one_mul]
  | p :: rs, ss => by
    show rm p * rp (rs ++ ss) = rm p * rp rs * rp ss
    rw [rp_app rs ss, M.mul_assoc]
theorem rp_one (p : Int × Int) : rp [p] = rm p := by
  show rm p * M.one = rm p
  rw [M.mul_one]
/-- letters 0 and 1, never one twice in a row -/
inductive Alt : List (Int × Int) → Prop
  | nil : Alt []
  | one {p : Int × Int} (h : p.1 = 0 ∨ p.1 = 1) : Alt [p]
  | cons {p q : Int × Int} {rs : List (Int × Int)} (h : p.1 = 0 ∨ p.1 = 1) (hn : p.1 ≠ q.1) (hs : Alt (q :: rs)) : Alt (p :: q :: rs)
theorem Alt.let {rs : List (Int × Int)} (h : Alt rs) : ∀ p ∈ rs, p.1 = 0 ∨ p.1 = 1 := by
  induction h with
  | nil => nofun
  | one h => intro p hp; rcases List.mem_singleton.mp hp with rfl; exact h
  | cons h _ _ ih =>
    intro p hp
    rcases List.mem_cons.mp hp with rfl | hp
    · exact h
    · exact ih p hp
theorem Alt.snoc : ∀ {rs : List (Int × Int)} {p : Int × Int}, Alt rs → (p.1 = 0 ∨ p.1 = 1) → (∀ q, rs.getLast? = some q → q.1 ≠ p.1) → Alt (rs ++ [p])
  | [], p, _, hp, _ => .one hp
  | [q], p, h, hp, hl => by
    cases h with
    | one h => exact .cons h (hl q rfl) (.one hp)
  | q :: r :: rs, p, h, hp, hl => by
    cases h with
    | cons h hn hs =>
      exact .cons h hn (Alt.snoc (rs := r :: rs) hs hp fun s hs => hl s (by rw [List.getLast?_cons_cons]; exact hs))
theorem last_snoc (rs : List (Int × Int)) (p : Int × Int) : (rs ++ [p]).getLast? = some p := by simp
theorem e_runs {x : M} (hx : Nn x) (hb : x.bd 70) (h1 : x ≠ M.one) : ∃ rs : List (Int × Int), f_runs_of [x.D] = some (.fr (rs.map rd)) ∧ rs ≠ [] ∧ Pos1 (tms rs) ∧ wt (tms rs) < 2 ^ WB ∧ Alt rs ∧ x = rp rs := by
  have hN := nrm_bd hx hb
  obtain ⟨ρ', e, rs, q1, q2, q3, q4, q5, rfl⟩ := while_inv (k := (tOf (eBin neR (eTup (aCons (eVar 1) (aCons (eVar 2) (aCons (eVar 3) (aCons (eVar 4) aNil))))) (eC c_STILL))))
    (b := (sFo [6] (sFo [6] (sIf (tAndD (tOf (eBin geR (eVar 1) (eVar 3))) (tOf (eBin geR (eVar 2) (eVar 4))))
  (sSeq (sSet 6 (eFn f_fitting (aCons (eVar 1) (aCons (eVar 3) (aCons (eVar 2) (aCons (eVar 4) aNil))))))
 (sSeq (sSet 1 (eBin subR (eVar 1) (eBin mulI (eVar 6) (eVar 3))))
 (sSeq (sSet 2 (eBin subR (eVar 2) (eBin mulI (eVar 6) (eVar 4))))
 (sApp 5 (eTup (aCons (eC (.int 0)) (aCons (eVar 6) aNil)))))))
  (sSeq (sSet 6 (eFn f_fitting (aCons (eVar 3) (aCons (eVar 1) (aCons (eVar 4) (aCons (eVar 2) aNil))))))
 (sSeq (sSet 3 (eBin subR (eVar 3) (eBin mulI (eVar 6) (eVar 1))))
 (sSeq (sSet 4 (eBin subR (eVar 4) (eBin mulI (eVar 6) (eVar 2))))
 (sApp 5 (eTup (aCons (eC (.int 1)) (aCons (eVar 6) aNil))))))))))) (fun n ρ => ∃ (m : M) (rs : List (Int × Int)), ρ = [some (.sh x.D), some (.sh (.int m.a)), some (.sh (.int m.b)), some (.sh (.int m.c)), some (.sh (.int m.d)), some (.bo (rs.map rd)), none] ∧ Nn m ∧ m.bd 70 ∧ Pos1 (tms rs) ∧ wt (tms rs) * nrm m ≤ nrm x ∧ nrm m ≤ (n : Int) ∧ (rs = [] → m = x) ∧ Alt rs ∧ x = rp rs * m ∧ (∀ q, rs.getLast? = some q → (q.1 = 0 → ¬ (m.c ≤ m.a ∧ m.d ≤ m.b)) ∧ (q.1 = 1 → ¬ (m.a ≤ m.c ∧ m.b ≤ m.d))))
    (fun ρ => ∃ (rs : List (Int × Int)), rs ≠ [] ∧ Pos1 (tms rs) ∧ wt (tms rs) < 2 ^ WB ∧ Alt rs ∧ x = rp rs ∧ ρ = [some (.sh x.D), some (.sh (.int 1)), some (.sh (.int 0)), some (.sh (.int 0)), some (.sh (.int 1)), some (.bo (rs.map rd)), none])
    (fun n ρ hI => by
      obtain ⟨m, rs, rfl, i1, i2, i3, i4, i5, i6, i7, i8, i9⟩ := hI
      have hp := i1.nrm_pos
      have hw := wt_pos i3
      have hw2 : wt (tms rs) < 2 ^ WB := by
        have := Int.mul_le_mul_of_nonneg_left hp (show 0 ≤ wt (tms rs) by omega)
        omega
      have hlen : rs.length < WB := by
        have := len_le i3 hw2
        unfold tms at this
        rwa [List.length_map] at this
      have ec : eqD (.tuple [.int m.a, .int m.b, .int m.c, .int m.d]) c_STILL = some (decide (m = M.one)) := eqD_M m M.one
      by_cases hone : m = M.one
      · refine Or.inl ⟨?_, rs, fun h => h1 ((i6 h) ▸ hone), i3, hw2, i7, by rw [hone, M.mul_one] at i8; exact i8, ?_⟩
        · rw [decide_eq_true hone] at ec
          simp [ec, Res.dat]
        · rw [hone]
          rfl
      · refine Or.inr ⟨by simp [ec, hone, Res.dat], ?_⟩
        obtain ⟨pa, pd⟩ := i1.ad
        have na := i1.a
        have nb := i1.b
        have nc := i1.c
        have nd := i1.d
        obtain ⟨b1, b2, b3, b4⟩ := i2
        by_cases hge : m.c ≤ m.a ∧ m.d ≤ m.b
        · obtain ⟨t, ef, t1, t2, t3, t4, bt⟩ := e_fitting nc nd hge.1 hge.2 (Or.inr pd) b1 b2
          obtain ⟨s1, s2⟩ := step_a i1 t1 t2 t3 t4
          have m1 := mulOk_of bt b3 (by decide)
          have m2 := mulOk_of bt b4 (by decide)
          have hp2 := s1.nrm_pos
          have hk0 : 0 ≤ t * m.c := Int.mul_nonneg (by omega) nc
          have hk1 : 0 ≤ t * m.d := Int.mul_nonneg (by omega) nd
          have ha := sApp_rd (ρ := [some (.sh x.D), some (.sh (.int (m.a - t * m.c))), some (.sh (.int (m.b - t * m.d))), some (.sh (.int m.c)), some (.sh (.int m.d)), some (.bo (rs.map rd)), some (.sh (.int t))]) (k := 5) (e := eTup (aCons (eC (.int 0)) (aCons (eVar 6) aNil))) (rs := rs) (p := (0, t)) rfl (by simp [rd]) (by unfold WB at hlen; omega)
          refine ⟨_, ?_, (nrm ⟨m.a - t * m.c, m.b - t * m.d, m.c, m.d⟩).toNat, ?_, ⟨m.a - t * m.c, m.b - t * m.d, m.c, m.d⟩, rs ++ [(0, t)], rfl, s1, ⟨bd_nn b1 t2 (by show m.a - t * m.c ≤ m.a; omega), bd_nn b2 t3 (by show m.b - t * m.d ≤ m.b; omega), b3, b4⟩, ?_, ?_, by omega, by simp, ?_, ?_, ?_⟩
          · simp [hge, ef, m1, m2, ha]
          · have := Int.mul_le_mul_of_nonneg_left (show 2 ≤ 1 + t by omega) (show 0 ≤ nrm ⟨m.a - t * m.c, m.b - t * m.d, m.c, m.d⟩ by omega)
            omega
          · intro s hs
            unfold tms at hs
            rw [List.map_append] at hs
            rcases List.mem_append.mp hs with hs | hs
            · exact i3 s hs
            · rcases List.mem_singleton.mp hs with rfl
              exact t1
          · have e : tms (rs ++ [(0, t)]) = tms rs ++ [t] := by unfold tms; rw [List.map_append]; rfl
            rw [e]
            exact wt_step (by omega) i4 s2
          · exact i7.snoc (Or.inl rfl) fun q hq h0 => (i9 q hq).1 h0 hge
          · rw [rp_app, rp_one, M.mul_assoc]
            have : rm (0, t) * ⟨m.a - t * m.c, m.b - t * m.d, m.c, m.d⟩ = m := by
              show (⟨1, t, 0, 1⟩ : M) * _ = m
              rw [M.mul_def]
              ext <;> simp
            rw [this]
            exact i8
          · intro q hq
            rw [last_snoc] at hq
            cases hq
            exact ⟨fun _ h => by simp only [] at h; omega, fun h => absurd h (by simp)⟩
        · obtain ⟨g1, g2⟩ := (i1.comp hge).resolve_left hone
          obtain ⟨t, ef, t1, t2, t3, t4, bt⟩ := e_fitting na nb g1 g2 (Or.inl pa) b3 b4
          obtain ⟨s1, s2⟩ := step_c i1 t1 t2 t3 t4
          have m1 := mulOk_of bt b1 (by decide)
          have m2 := mulOk_of bt b2 (by decide)
          have hp2 := s1.nrm_pos
          have hk0 : 0 ≤ t * m.a := Int.mul_nonneg (by omega) na
          have hk1 : 0 ≤ t * m.b := Int.mul_nonneg (by omega) nb
          have ha := sApp_rd (ρ := [some (.sh x.D), some (.sh (.int m.a)), some (.sh (.int m.b)), some (.sh (.int (m.c - t * m.a))), some (.sh (.int (m.d - t * m.b))), some (.bo (rs.map rd)), some (.sh (.int t))]) (k := 5) (e := eTup (aCons (eC (.int 1)) (aCons (eVar 6) aNil))) (rs := rs) (p := (1, t)) rfl (by simp [rd]) (by unfold WB at hlen; omega)
          refine ⟨_, ?_, (nrm ⟨m.a, m.b, m.c - t * m.a, m.d - t * m.b⟩).toNat, ?_, ⟨m.a, m.b, m.c - t * m.a, m.d - t * m.b⟩, rs ++ [(1, t)], rfl, s1, ⟨b1, b2, bd_nn b3 t2 (by show m.c - t * m.a ≤ m.c; omega), bd_nn b4 t3 (by show m.d - t * m.b ≤ m.d; omega)⟩, ?_, ?_, by omega, by simp, ?_, ?_, ?_⟩
          · by_cases q : m.c ≤ m.a
            · have q2 : ¬ m.d ≤ m.b := fun h => hge ⟨q, h⟩
              simp [q, q2, ef, m1, m2, ha]
            · simp [q, ef, m1, m2, ha]
          · have := Int.mul_le_mul_of_nonneg_left (show 2 ≤ 1 + t by omega) (show 0 ≤ nrm ⟨m.a, m.b, m.c - t * m.a, m.d - t * m.b⟩ by omega)
            omega
          · intro s hs
            unfold tms at hs
            rw [List.map_append] at hs
            rcases List.mem_append.mp hs with hs | hs
            · exact i3 s hs
            · rcases List.mem_singleton.mp hs with rfl
              exact t1
          · have e : tms (rs ++ [(1, t)]) = tms rs ++ [t] := by unfold tms; rw [List.map_append]; rfl
            rw [e]
            exact wt_step (by omega) i4 s2
          · exact i7.snoc (Or.inr rfl) fun q hq h0 => (i9 q hq).2 h0 ⟨g1, g2⟩
          · rw [rp_app, rp_one, M.mul_assoc]
            have : rm (1, t) * ⟨m.a, m.b, m.c - t * m.a, m.d - t * m.b⟩ = m := by
              show (⟨1, 0, t, 1⟩ : M) * _ = m
              rw [M.mul_def]
              ext <;> simp <;> omega
            rw [this]
            exact i8
          · intro q hq
            rw [last_snoc] at hq
            cases hq
            exact ⟨fun h => absurd h (by simp), fun _ h => by simp only [] at h; omega⟩) (nrm x).toNat [some (.sh x.D), some (.sh (.int x.a)), some (.sh (.int x.b)), some (.sh (.int x.c)), some (.sh (.int x.d)), some (.bo ([].map rd)), none] ⟨x, [], rfl, hx, hb, nofun, by simp [tms, wt], by have := hx.nrm_pos; omega, fun _ => rfl, .nil, by show x = M.one * x; rw [M.one_mul], nofun⟩
  refine ⟨rs, ?_, q1, q2, q3, q4, q5⟩
  simp only [List.map_nil] at e
  simp only [M.D] at e ⊢
  simp [f_runs_of, b_runs_of, e]
end Lk75
set_option maxRecDepth 100000
set_option maxHeartbeats 1000000
namespace Lk75
open PySem L2 F3
theorem rm_add {p q : Int × Int} (h : q.1 = p.1) : rm q * rm p = rm (p.1, q.2 + p.2) := by
  unfold rm
  rw [h]
  by_cases h0 : p.1 = 0
  · simp only [h0, if_true, M.mul_def]
    ext <;> simp <;> omega
  · simp only [h0, if_false, M.mul_def]
    ext <;> simp <;> omega
theorem Alt.swap : ∀ {sp : List (Int × Int)} {q r : Int × Int}, Alt (sp ++ [q]) → r.1 = q.1 → Alt (sp ++ [r])
  | [], q, r, h, e => by
    cases h with
    | one h => exact .one (by rw [e]; exact h)
  | [s], q, r, h, e => by
    cases h with
    | cons h hn hs => exact .cons h (by rw [e]; exact hn) (Alt.swap (sp := []) hs e)
  | s :: u :: sp, q, r, h, e => by
    cases h with
    | cons h hn hs => exact .cons h hn (Alt.swap (sp := u :: sp) hs e)
/-- the letter at the head, at the end -/
def hdL (rs : List (Int × Int)) : Option Int := rs.head?.map (·.1)
def lsL (rs : List (Int × Int)) : Option Int := rs.getLast?.map (·.1)
theorem lsL_snoc (rs : List (Int × Int)) (p : Int × Int) : lsL (rs ++ [p]) = some p.1 := by simp [lsL]
theorem hdL_app {rs ss us : List (Int × Int)} (h : hdL rs = hdL ss) (p q : Int × Int) (e : p.1 = q.1) : hdL (rs ++ [p]) = hdL (ss ++ [q]) := by
  unfold hdL at *
  cases rs <;> cases ss <;> simp_all
theorem e_joined {rs : List (Int × Int)} (hlet : ∀ p ∈ rs, p.1 = 0 ∨ p.1 = 1) (hp : Pos1 (tms rs)) (hl : rs.length ≤ 1000) : ∃ ss : List (Int × Int), f_joined [.list (rs.map rd)] = some (.fr (ss.map rd)) ∧ Pos1 (tms ss) ∧ wt (tms ss) ≤ wt (tms rs) ∧ Alt ss ∧ rp ss = rp rs ∧ hdL ss = hdL rs ∧ lsL ss = lsL rs := by
  obtain ⟨ρ', e, ss, rfl, h1, h2, h3, h4, h5, h6, h7⟩ := for_inv (g := gTp (gsC (gNm 2) (gsC (gNm 3) gsN))) (b := (sFo [2, 3] (sIf (tAndD (tOf (eBin gtR (eCall (on1 lenR) (aCons (eVar 1) aNil)) (eC (.int 0)))) (tOf (eBin eqR (eBin ixR (eBin ixR (eVar 1) (eUn negR (eC (.int 1)))) (eC (.int 0))) (eVar 2))))
  (sPut 1 (eUn negR (eC (.int 1))) (eTup (aCons (eVar 2) (aCons (eBin addR (eBin ixR (eBin ixR (eVar 1) (eUn negR (eC (.int 1)))) (eC (.int 1))) (eVar 3)) aNil))))
  (sApp 1 (eTup (aCons (eVar 2) (aCons (eVar 3) aNil))))))) (fun k ρ => ∃ ss : List (Int × Int), ρ = [some (.sh (.list (rs.map rd))), some (.bo (ss.map rd)), none, none] ∧ Pos1 (tms ss) ∧ wt (tms ss) ≤ wt (tms (rs.take k)) ∧ ss.length ≤ k ∧ Alt ss ∧ rp ss = rp (rs.take k) ∧ hdL ss = hdL (rs.take k) ∧ lsL ss = lsL (rs.take k)) (rs.map rd) 0 [some (.sh (.list (rs.map rd))), some (.bo ([].map rd)), none, none]
    (fun k d ρ hk hI => by
      obtain ⟨ss, rfl, i1, i2, i3, i4, i5, i6, i7⟩ := hI
      rw [Nat.zero_add] at i2 i3 i5 i6 i7 ⊢
      rw [List.getElem?_map] at hk
      obtain ⟨p, hkp, rfl⟩ := Option.map_eq_some_iff.mp hk
      obtain ⟨hkl, hkp'⟩ := List.getElem?_eq_some_iff.mp hkp
      have p1 : 1 ≤ p.2 := hp p.2 (List.mem_map_of_mem (List.mem_of_getElem? hkp))
      have htk : rs.take (k + 1) = rs.take k ++ [p] := by rw [List.take_add_one, hkp]; rfl
      have hwk : wt (tms (rs.take (k + 1))) = wt (tms (rs.take k)) * (1 + p.2) := by
        rw [htk, tms_app, wt_app]
        show _ * wt [p.2] = _
        rw [wt_one]
      have hss := wt_pos i1
      have plet := hlet p (List.mem_of_getElem? hkp)
      -- appended
      have app : ∃ ρ', sApp 1 (eTup (aCons (eVar 2) (aCons (eVar 3) aNil))) [some (.sh (.list (rs.map rd))), some (.bo (ss.map rd)), some (.sh (.int p.1)), some (.sh (.int p.2))] = some (.nx ρ') ∧ ρ' = [some (.sh (.list (rs.map rd))), some (.bo ((ss ++ [p]).map rd)), some (.sh (.int p.1)), some (.sh (.int p.2))] :=
        ⟨_, sApp_rd (rs := ss) (p := p) rfl (by simp [rd]) (by omega), rfl⟩
      obtain ⟨_, app, rfl⟩ := app
      have fin : Pos1 (tms (ss ++ [p])) ∧ wt (tms (ss ++ [p])) ≤ wt (tms (rs.take (k + 1))) ∧ (ss ++ [p]).length ≤ k + 1 := by
        refine ⟨?_, ?_, by rw [List.length_append]; simp; omega⟩
        · rw [tms_app]
          exact pos_app.mpr ⟨i1, pos_one.mpr p1⟩
        · rw [tms_app, wt_app, hwk]
          show _ * wt [p.2] ≤ _
          rw [wt_one]
          exact Int.mul_le_mul_of_nonneg_right i2 (by omega)
      have fin2 : rp (ss ++ [p]) = rp (rs.take (k + 1)) ∧ hdL (ss ++ [p]) = hdL (rs.take (k + 1)) ∧ lsL (ss ++ [p]) = lsL (rs.take (k + 1)) := by
        rw [htk]
        exact ⟨by rw [rp_app, rp_app, i5], hdL_app (us := []) i6 _ _ rfl, by rw [lsL_snoc, lsL_snoc]⟩
      rcases List.eq_nil_or_concat ss with h0 | ⟨sp, q, hq⟩
      · refine ⟨_, ?_, ss ++ [p], rfl, fin.1, fin.2.1, fin.2.2, i4.snoc plet (by rw [h0]; exact nofun), fin2⟩
        subst h0
        simp only [List.map_nil, List.nil_append, List.map_cons] at app ⊢
        simp [rd] at app ⊢
        simp [app]
      · rw [List.concat_eq_append] at hq
        have e1 : (ss.map rd)[(ss.map rd).length - 1]? = some (rd q) := by
          rw [hq, List.map_append]
          exact last_at _ _
        have hpos : 0 < ss.length := by rw [hq, List.length_append]; simp
        rw [List.length_map] at e1
        by_cases hl : q.1 = p.1
        · have hset : (ss.map rd).set (ss.length - 1) (rd (p.1, q.2 + p.2)) = (sp ++ [(p.1, q.2 + p.2)]).map rd := by
            rw [hq, List.map_append, List.map_append, List.length_append, List.length_singleton, Nat.add_sub_cancel]
            have := set_last (sp.map rd) (rd q) (rd (p.1, q.2 + p.2))
            rw [List.length_map] at this
            exact this
          have hix : ixN (ss.map rd).length (-1) = some (ss.length - 1) := by
            unfold ixN
            rw [if_neg (by decide), List.length_map, if_pos (by omega)]
            congr 1
            omega
          rw [List.length_map] at hix
          have put := sPut_eq (ρ := [some (.sh (.list (rs.map rd))), some (.bo (ss.map rd)), some (.sh (.int p.1)), some (.sh (.int p.2))]) (k := 1) (ds := ss.map rd) (e := eTup (aCons (eVar 2) (aCons (eBin addR (eBin ixR (eBin ixR (eVar 1) (eUn negR (eC (.int 1)))) (eC (.int 1))) (eVar 3)) aNil))) (f := eUn negR (eC (.int 1))) rfl
          have q1 : 1 ≤ q.2 := by
            rw [hq, tms_app] at i1
            exact pos_one.mp (pos_app.mp i1).2
          refine ⟨[some (.sh (.list (rs.map rd))), some (.bo ((sp ++ [(p.1, q.2 + p.2)]).map rd)), none, none], ?_, sp ++ [(p.1, q.2 + p.2)], rfl, ?_, ?_, ?_, ?_, ?_, ?_, ?_⟩
          · rw [← hset]
            simp only [rd] at e1 ⊢
            simp [hpos, e1, hl, put, hix]
          · rw [hq, tms_app] at i1
            rw [tms_app]
            exact pos_app.mpr ⟨(pos_app.mp i1).1, pos_one.mpr (by show 1 ≤ q.2 + p.2; omega)⟩
          · rw [hq, tms_app] at i1
            have hsp := wt_pos (pos_app.mp i1).1
            rw [hq, tms_app, wt_app] at i2
            rw [tms_app, wt_app, hwk]
            show _ * wt [q.2 + p.2] ≤ _
            change _ * wt [q.2] ≤ _ at i2
            rw [wt_one] at i2 ⊢
            refine Int.le_trans ?_ (Int.mul_le_mul_of_nonneg_right i2 (show 0 ≤ 1 + p.2 by omega))
            rw [Int.mul_assoc]
            apply Int.mul_le_mul_of_nonneg_left _ (by omega)
            have : 0 ≤ q.2 * p.2 := Int.mul_nonneg (by omega) (by omega)
            simp only [Int.add_mul, Int.mul_add, Int.one_mul, Int.mul_one]
            omega
          · rw [List.length_append, List.length_singleton]
            rw [hq, List.length_append, List.length_singleton] at i3
            omega
          · rw [hq] at i4
            exact i4.swap hl.symm
          · rw [htk, rp_app (rs.take k), ← i5, hq, rp_app, rp_app, rp_one, rp_one, rp_one, M.mul_assoc, rm_add hl]
          · rw [htk, ← hdL_app (us := []) i6 p p rfl, hq]
            unfold hdL
            cases sp with
            | nil => simp [hl]
            | cons _ _ => simp
          · rw [htk, lsL_snoc, lsL_snoc]
        · refine ⟨_, ?_, ss ++ [p], rfl, fin.1, fin.2.1, fin.2.2, i4.snoc plet (by rw [hq, last_snoc]; intro s hs; cases hs; exact hl), fin2⟩
          simp only [rd] at e1
          change (gTp (gsC (gNm 2) (gsC (gNm 3) gsN)) (.tuple [.int p.1, .int p.2]) _).bind _ = _
          simp [hpos, e1, hl, app]) ⟨[], rfl, nofun, by simp [tms, wt], Nat.le_refl _, .nil, rfl, rfl, rfl⟩
  rw [List.length_map, Nat.zero_add, List.take_length] at h2 h5 h6 h7
  refine ⟨ss, ?_, h1, h2, h4, h5, h6, h7⟩
  simp only [List.map_nil] at e
  simp [f_joined, b_joined, e]
end Lk75
set_option maxRecDepth 100000
set_option maxHeartbeats 1000000
namespace Lk75
open PySem L2 F3
/-- runs that begin with 0 and end with 1 are a cycle -/
theorem alt_cyc : ∀ (n : Nat) (ss : List (Int × Int)), ss.length ≤ n → Alt ss → hdL ss = some 0 → lsL ss = some 1 → cyc (tms ss) = rp ss ∧ 2 ≤ (tms ss).length ∧ (tms ss).length % 2 = 0
  | n, [], _, _, h, _ => by cases h
  | n, [p], _, _, h, h2 => by
    simp [hdL] at h
    simp [lsL] at h2
    omega
  | n, p :: q :: r, hn, ha, h, h2 => by
    have hp : p.1 = 0 := by simpa [hdL] using h
    cases ha with
    | cons hl hne hs =>
      have hq : q.1 = 1 := by
        rcases hs.let q List.mem_cons_self with g | g
        · omega
        · exact g
      have e : rm p * rm q = lt 0 p.2 * lt 1 q.2 := by
        unfold rm lt
        simp [hp, hq]
      have e2 : rp (p :: q :: r) = lt 0 p.2 * lt 1 q.2 * rp r := by
        show rm p * (rm q * rp r) = _
        rw [← M.mul_assoc, e]
      have e3 : cyc (tms (p :: q :: r)) = lt 0 p.2 * lt 1 q.2 * cyc (tms r) := cyc_cc _ _ _
      cases r with
      | nil => exact ⟨by rw [e2, e3]; rfl, by simp [tms], by simp [tms]⟩
      | cons s r =>
        match n, hn with
        | 0, hn => simp at hn
        | n + 1, hn =>
          cases hs with
          | cons hl2 hne2 hs2 =>
            have hs0 : s.1 = 0 := by
              rcases hs2.let s List.mem_cons_self with g | g
              · exact g
              · omega
            obtain ⟨k1, k2, k3⟩ := alt_cyc n (s :: r) (by simp at hn ⊢; omega) hs2 (by simp [hdL, hs0]) (by simpa [lsL] using h2)
            refine ⟨by rw [e2, e3, k1], ?_, ?_⟩
            · unfold tms at *
              simp only [List.length_map, List.length_cons] at *
              omega
            · unfold tms at *
              simp only [List.length_map, List.length_cons] at *
              omega
theorem Alt.front : ∀ {l : List (Int × Int)} {q : Int × Int}, Alt (l ++ [q]) → ∀ s, l.getLast? = some s → s.1 ≠ q.1
  | [], q, _, s, h => by cases h
  | [p], q, ha, s, h => by
    cases ha with
    | cons h1 h2 h3 => cases h; exact h2
  | p :: r :: l, q, ha, s, h => by
    cases ha with
    | cons h1 h2 h3 => exact Alt.front (l := r :: l) h3 s (by rw [List.getLast?_cons_cons] at h; exact h)
theorem rm_det (p : Int × Int) : (rm p).det = 1 := by
  unfold rm M.det
  split <;> simp
theorem e_cycle_of {x : M} (hd : x.det = 1) (t3 : 3 ≤ x.tr) (hs : small x) : ∃ (ts : List Int) (h : M), f_cycle_of [x.D] = some (.sh (.tuple [.list (ts.map .int), h.D])) ∧ Pos1 ts ∧ wt ts < 2 ^ WB ∧ h.bd 715 ∧ 2 ≤ ts.length ∧ ts.length % 2 = 0 ∧ h.det = 1 ∧ h * x = cyc ts * h := by
  obtain ⟨m, h, e1, m1, m2, m3, m4, m5, hb, hdh, hrel⟩ := e_positive_form hd t3 hs
  have hN : Nn m := by
    have hbc : 0 < m.b * m.c := Int.mul_pos m3 m4
    have had : 0 < m.a * m.d := by unfold M.det at m1; omega
    have : 0 < m.a ∧ 0 < m.d := by
      unfold M.tr at m2 t3
      by_cases ha : 0 < m.a
      · refine ⟨ha, ?_⟩
        by_cases hd' : 0 < m.d
        · exact hd'
        · exfalso
          have := Int.mul_nonneg (show 0 ≤ m.a by omega) (show 0 ≤ -m.d by omega)
          rw [Int.mul_neg] at this
          omega
      · exfalso
        have ha' : m.a ≤ 0 := by omega
        have hd' : 0 < m.d := by omega
        have := Int.mul_nonneg (show 0 ≤ -m.a by omega) (show 0 ≤ m.d by omega)
        rw [Int.neg_mul] at this
        omega
    exact ⟨by omega, by omega, by omega, by omega, m1⟩
  have hne : m ≠ M.one := fun h => by rw [h] at m3; exact absurd m3 (by decide)
  obtain ⟨rs, e2, r1, r2, r3, ralt, rprod⟩ := e_runs hN m5 hne
  have rl := cyc_len r2 r3
  rw [tms_len] at rl
  have hmb := mem_bd r2 r3
  have hD : ∀ ss : List (Int × Int), lcD (gTp (gsC (gNm 4) (gsC (gNm 5) gsN))) tYesD (eVar 5) [some (.sh x.D), some (.sh m.D), some (.sh h.D), some (.sh (.list (ss.map rd))), none, none] (ss.map rd) = some ((tms ss).map .int) := fun ss => lc_pairs rfl ss
  obtain ⟨p, rs', hrs⟩ : ∃ p rs', rs = p :: rs' := by
    match rs, r1 with
    | p :: rs', _ => exact ⟨p, rs', rfl⟩
  by_cases hp1 : p.1 = 1
  · have hpm : Bd WB p.2 := hmb _ (by rw [hrs]; exact List.mem_cons_self)
    have bU : M.bd 143 ⟨1, 0, -p.2, 1⟩ := ⟨(show Bd 3 1 by decide).mono (by decide), (show Bd 3 0 by decide).mono (by decide), hpm.neg.mono (by decide), (show Bd 3 1 by decide).mono (by decide)⟩
    have e3 := e_turn_product bU hb (by decide)
    have b3 := bU.mul hb
    have hperm : wt (tms (rs' ++ [p])) = wt (tms rs) := by rw [hrs, tms_app, wt_swap]; rfl
    have hpos : Pos1 (tms (rs' ++ [p])) := by
      rw [hrs] at r2
      rw [tms_app]
      exact pos_app.mpr ⟨fun t ht => r2 t (List.mem_cons_of_mem _ ht), fun t ht => r2 t (by rcases List.mem_singleton.mp ht with rfl; exact List.mem_cons_self)⟩
    obtain ⟨ss, e4, s1, s2, salt, sprod, shd, sls⟩ := e_joined (fun r hr => ralt.let r (by rw [hrs]; rcases List.mem_append.mp hr with g | g; exact List.mem_cons_of_mem _ g; rcases List.mem_singleton.mp g with rfl; exact List.mem_cons_self)) hpos (by rw [hrs] at rl; simp at rl ⊢; omega)
    have hrm : rm p = ⟨1, 0, p.2, 1⟩ := by unfold rm; rw [hp1]; rfl
    have hinv : (rm p).inv = ⟨1, 0, -p.2, 1⟩ := by rw [hrm]; simp [M.inv]
    have hW : M.by_ (⟨1, 0, -p.2, 1⟩ * h) x = rp ss := by
      rw [by_mul, ← hrel, rprod, hrs, sprod, rp_app, rp_one, ← hinv]
      unfold M.by_
      show (rm p).inv * (rm p * rp rs') * (rm p).inv.inv = _
      rw [← M.mul_assoc, M.inv_mul (rm_det p), M.one_mul, M.inv_inv]
    have hWd : (⟨1, 0, -p.2, 1⟩ * h : M).det = 1 := by rw [← hinv, M.det_mul, M.det_inv, rm_det, hdh]; rfl
    have hhd : hdL ss = some 0 := by
      rw [shd]
      cases rs' with
      | nil =>
        exfalso
        rw [rprod, hrs] at m3
        simp [rp, hrm, M.mul_def, M.one] at m3
      | cons r rs'' =>
        rw [hrs] at ralt
        cases ralt with
        | cons g1 g2 g3 =>
          rcases g3.let r List.mem_cons_self with g | g
          · simp [hdL, g]
          · omega
    have hls : lsL ss = some 1 := by rw [sls, lsL_snoc, hp1]
    obtain ⟨c1, c2, c3⟩ := alt_cyc ss.length ss (Nat.le_refl _) salt hhd hls
    rw [← c1] at hW
    have hlead := M.by_lead (x := x) hWd
    rw [hW] at hlead
    have sw : wt (tms ss) < 2 ^ WB := by rw [hperm] at s2; omega
    have sl := cyc_len s1 sw
    rw [tms_len] at sl
    generalize (M.mk 1 0 (-p.2) 1) * h = W at *
    have e5 := lc_pairs (ρ := [some (.sh x.D), some (.sh m.D), some (.sh W.D), some (.sh (.list (ss.map rd))), none, none]) rfl ss
    refine ⟨tms ss, W, ?_, s1, sw, b3, c2, c3, hWd, hlead⟩
    clear rprod ralt hW hrm hinv
    rw [hrs] at e2 rl
    rw [List.map_append, List.map_cons, List.map_nil] at e4
    rw [List.map_cons] at e2
    have hl1 : rs'.length + 1 ≤ 1000000 := by simp at rl; omega
    have hl2 : ss.length ≤ 1000000 := by omega
    change f_turn_product [.tuple [.int 1, .int 0, .int (-p.2), .int 1], h.D] = _ at e3
    have hrd : rd p = .tuple [.int p.1, .int p.2] := rfl
    rw [hrd, hp1] at e2 e4
    generalize x.D = XD at *
    generalize m.D = MD at *
    generalize h.D = HD at *
    generalize W.D = WD at *
    simp [f_cycle_of, b_cycle_of, e1, e2, e3, e4, frz1, hl1, hl2, wipeD, e5]
  · obtain ⟨l, q, hq⟩ : ∃ l q, rs = l ++ [q] := by
      rcases List.eq_nil_or_concat rs with h0 | ⟨l, q, hq⟩
      · exact absurd h0 r1
      · exact ⟨l, q, by rw [hq, List.concat_eq_append]⟩
    have hlast : (rs.map rd)[rs.length - 1]? = some (.tuple [.int q.1, .int q.2]) := by
      rw [hq, List.map_append]
      have := last_at (l.map rd) (rd q)
      rw [List.length_append, List.length_map, List.length_singleton] at this
      rw [List.length_append, List.length_singleton]
      exact this
    have hfirst : (rs.map rd)[0]? = some (.tuple [.int p.1, .int p.2]) := by rw [hrs]; rfl
    have hl2 : rs.length ≤ 1000000 := by omega
    by_cases hq0 : q.1 = 0
    · have hqm : Bd WB q.2 := hmb _ (by rw [hq, tms_app]; exact List.mem_append_right _ List.mem_cons_self)
      have bU : M.bd 143 ⟨1, q.2, 0, 1⟩ := ⟨(show Bd 3 1 by decide).mono (by decide), hqm.mono (by decide), (show Bd 3 0 by decide).mono (by decide), (show Bd 3 1 by decide).mono (by decide)⟩
      have e3 := e_turn_product bU hb (by decide)
      have b3 := bU.mul hb
      have hperm : wt (tms (q :: l)) = wt (tms rs) := by rw [hq, tms_app, wt_swap]; rfl
      have hpos : Pos1 (tms (q :: l)) := by
        rw [hq, tms_app] at r2
        intro t ht
        rcases List.mem_cons.mp ht with rfl | ht
        · exact pos_one.mp (pos_app.mp r2).2
        · exact (pos_app.mp r2).1 t ht
      obtain ⟨ss, e4, s1, s2, salt, sprod, shd, sls⟩ := e_joined (fun r hr => ralt.let r (by rw [hq]; rcases List.mem_cons.mp hr with rfl | g; exact List.mem_append_right _ List.mem_cons_self; exact List.mem_append_left _ g)) hpos (by rw [hq] at rl; simp at rl ⊢; omega)
      have hrm : rm q = ⟨1, q.2, 0, 1⟩ := by unfold rm; rw [hq0]; rfl
      have hW : M.by_ (⟨1, q.2, 0, 1⟩ * h) x = rp ss := by
        rw [by_mul, ← hrel, rprod, hq, sprod, rp_app, rp_one, ← hrm]
        unfold M.by_
        show rm q * (rp l * rm q) * (rm q).inv = rm q * rp l
        rw [M.mul_assoc, M.mul_assoc, M.mul_inv (rm_det q), M.mul_one]
      have hWd : (⟨1, q.2, 0, 1⟩ * h : M).det = 1 := by rw [← hrm, M.det_mul, rm_det, hdh]; rfl
      have hhd : hdL ss = some 0 := by rw [shd]; simp [hdL, hq0]
      have hls : lsL ss = some 1 := by
        rw [sls]
        rcases List.eq_nil_or_concat l with g0 | ⟨l', s, hs'⟩
        · exfalso
          rw [rprod, hq, g0] at m4
          simp [rp, hrm, M.mul_def, M.one] at m4
        · rw [List.concat_eq_append] at hs'
          have g1 : s.1 ≠ q.1 := by
            rw [hq] at ralt
            exact ralt.front s (by rw [hs', last_snoc])
          have g2 := ralt.let s (by rw [hq, hs']; simp)
          have g3 : s.1 = 1 := by omega
          rw [hs', show q :: (l' ++ [s]) = (q :: l') ++ [s] from rfl, lsL_snoc, g3]
      obtain ⟨c1, c2, c3⟩ := alt_cyc ss.length ss (Nat.le_refl _) salt hhd hls
      rw [← c1] at hW
      have hlead := M.by_lead (x := x) hWd
      rw [hW] at hlead
      have sw : wt (tms ss) < 2 ^ WB := by rw [hperm] at s2; omega
      have sl := cyc_len s1 sw
      rw [tms_len] at sl
      generalize (M.mk 1 q.2 0 1) * h = W at *
      have e5 := lc_pairs (ρ := [some (.sh x.D), some (.sh m.D), some (.sh W.D), some (.sh (.list (ss.map rd))), none, none]) rfl ss
      refine ⟨tms ss, W, ?_, s1, sw, b3, c2, c3, hWd, hlead⟩
      clear rprod ralt hW hrm
      have hl3 : ss.length ≤ 1000000 := by omega
      change f_turn_product [.tuple [.int 1, .int q.2, .int 0, .int 1], h.D] = _ at e3
      have hrd : rd q = .tuple [.int q.1, .int q.2] := rfl
      rw [List.map_cons, hrd, hq0] at e4
      rw [hq0] at hlast
      have hcl : cutD (rs.map rd) (some (-1)) none = [.tuple [.int 0, .int q.2]] := by
        rw [cut_last, hq, List.map_append, List.length_append, List.length_map]
        simp [rd, hq0]
      have hcf : (rs.map rd).take (rs.length - 1) = l.map rd := by
        rw [hq, List.map_append, List.length_append, List.length_singleton, Nat.add_sub_cancel]
        rw [List.take_append_of_le_length (by rw [List.length_map]; exact Nat.le_refl _), List.take_of_length_le (by rw [List.length_map]; exact Nat.le_refl _)]
      have hl1 : 1 + l.length ≤ 1000000 := by rw [hq] at rl; simp at rl; omega
      have hlen : (rs.map rd).length = rs.length := List.length_map _
      generalize rs.map rd = DS at *
      generalize x.D = XD at *
      generalize m.D = MD at *
      generalize h.D = HD at *
      generalize W.D = WD at *
      simp [f_cycle_of, b_cycle_of, e1, e2, hfirst, hp1, hlen, hlast, e3, hcl, hcf, e4, frz1, hl1, hl3, wipeD, e5]
    · have e5 := lc_pairs (ρ := [some (.sh x.D), some (.sh m.D), some (.sh h.D), some (.sh (.list (rs.map rd))), none, none]) rfl rs
      have hhd : hdL rs = some 0 := by
        rw [hrs]
        rcases ralt.let p (by rw [hrs]; exact List.mem_cons_self) with g | g
        · simp [hdL, g]
        · exact absurd g hp1
      have hls : lsL rs = some 1 := by
        rcases ralt.let q (by rw [hq]; simp) with g | g
        · exact absurd g hq0
        · rw [hq, lsL_snoc, g]
      obtain ⟨c1, c2, c3⟩ := alt_cyc rs.length rs (Nat.le_refl _) ralt hhd hls
      have hlead := M.by_lead (x := x) hdh
      rw [← hrel, rprod, ← c1] at hlead
      refine ⟨tms rs, h, ?_, r2, r3, hb.mono (by decide), c2, c3, hdh, hlead⟩
      have hlen : (rs.map rd).length = rs.length := List.length_map _
      generalize rs.map rd = DS at *
      generalize x.D = XD at *
      generalize m.D = MD at *
      generalize h.D = HD at *
      simp [f_cycle_of, b_cycle_of, e1, e2, hfirst, hp1, hlen, hlast, hq0, frz1, hl2, wipeD, e5]
end Lk75
set_option maxRecDepth 100000
set_option maxHeartbeats 1000000
namespace Lk75
open PySem L2 F3
/-- ts is the cycle that cycle_of finds for x -/
structure Cof (x : M) (ts : List Int) (h : M) : Prop where
  e : f_cycle_of [x.D] = some (.sh (.tuple [.list (ts.map .int), h.D]))
  pos : Pos1 ts
  wt : wt ts < 2 ^ WB
  bd : h.bd 715
  two : 2 ≤ ts.length
  ev : ts.length % 2 = 0
  det : h.det = 1
  lead : h * x = cyc ts * h
theorem cof_of {x : M} (hd : x.det = 1) (t3 : 3 ≤ x.tr) (hs : small x) : ∃ ts h, Cof x ts h := by
  obtain ⟨ts, h, e, h1, h2, h3, h4, h5, h6, h7⟩ := e_cycle_of hd t3 hs
  exact ⟨ts, h, e, h1, h2, h3, h4, h5, h6, h7⟩
theorem e_way {x y : M} {ts us : List Int} {h g : M} (C : Cof x ts h) (D : Cof y us g) (j : Nat) (hj : 2 * j ≤ ts.length) (hr : rot ts (2 * j) = us) :
    ∃ W : M, f_way_between [.tuple [.list (ts.map .int), h.D], .tuple [.list (us.map .int), g.D], .int ((2 * j : Nat) : Int)] = some (.sh W.D) ∧ W.bd 1650 ∧ W.det = 1 ∧ W * x = y * W := by
  obtain ⟨_, hp, hw, bh, _, ev, dh, lh⟩ := C
  obtain ⟨_, _, _, bg, _, _, dg, lg⟩ := D
  obtain ⟨k, hk⟩ : ∃ k, k = 2 * j := ⟨_, rfl⟩
  rw [← hk] at hr hj ⊢
  have hpt : Pos1 (ts.take k) := fun t ht => hp t (List.mem_of_mem_take ht)
  have hwt : wt (ts.take k) < 2 ^ WB := by
    have e : wt ts = wt (ts.take k) * wt (ts.drop k) := by rw [← wt_app, List.take_append_drop]
    have h1 := wt_pos hpt
    have h2 : 1 ≤ wt (ts.drop k) := wt_pos fun t ht => hp t (List.mem_of_mem_drop ht)
    have := Int.mul_le_mul_of_nonneg_left h2 (show 0 ≤ wt (ts.take k) by omega)
    omega
  have hl := cyc_len hpt hwt
  have hb := mem_bd hpt hwt
  have hl2 : (ts.take k).length * (WB + 2) ≤ 142 * (WB + 2) := Nat.mul_le_mul_right _ hl
  have e1 := e_cycle_turn hb (by unfold WB at *; omega) (by omega)
  have b1 := (cyc_wt hpt hwt).inv
  have e2 := e_turn_back (cyc (ts.take k))
  have hC := cyc_det (ts.take k)
  have ct : cyc ts = cyc (ts.take k) * cyc (ts.drop k) := by
    rw [← cyc_app (by rw [List.length_take]; omega), List.take_append_drop]
  have cu : cyc us = cyc (ts.drop k) * cyc (ts.take k) := by
    rw [← hr]
    unfold rot
    rw [cyc_app (by rw [List.length_drop]; omega)]
  generalize cyc (ts.take k) = C at *
  generalize cyc (ts.drop k) = C2 at *
  have e3 := e_turn_product b1 bh (by decide)
  have b3 := b1.mul bh
  have e4 := e_turn_back g
  have e5 := e_turn_product bg.inv b3 (by decide)
  have b5 := bg.inv.mul b3
  have hcut : cutD (ts.map PyData.int) none (some (k : Int)) = (ts.map PyData.int).take k := cut_to _ k
  rw [List.map_take] at e1
  refine ⟨g.inv * (C.inv * h), ?_, b5.mono (by decide), ?_, ?_⟩
  · simp [f_way_between, b_way_between, hcut, e1, e2, e3, e4, e5]
  · rw [M.det_mul, M.det_mul, M.det_inv, M.det_inv, dg, hC, dh]
    rfl
  · have k1 : g.inv * cyc us = y * g.inv := by
      have h1 : g.inv * (g * y) * g.inv = g.inv * (cyc us * g) * g.inv := by rw [lg]
      rw [← M.mul_assoc, M.inv_mul dg, M.one_mul, ← M.mul_assoc, M.mul_assoc (g.inv * cyc us), M.mul_inv dg, M.mul_one] at h1
      exact h1.symm
    have k2 : C.inv * cyc ts = cyc us * C.inv := by
      rw [ct, cu, ← M.mul_assoc, M.inv_mul hC, M.one_mul, M.mul_assoc, M.mul_inv hC, M.mul_one]
    rw [M.mul_assoc, M.mul_assoc, lh, ← M.mul_assoc C.inv, k2, M.mul_assoc (cyc us), ← M.mul_assoc g.inv, k1, M.mul_assoc]
theorem law_side_at {x m : M} {ns : List Int} (hx : x.bd 1000) (g : Gd (.list (ns.map .int))) (hm : m.bd IB) (hc : isCyc (.list (ns.map .int)) = true) (hd : m.det = 1) (gm : Gd m.D) :
    f__law_right_side [x.D, .tuple [.list (ns.map .int), m.D]] = some (.sh (.bool (decide (m * x = cyc ns * m)))) := by
  obtain ⟨h1, h2⟩ := cyc_gd g
  have hb := cyc_bd h1
  have hl : ns.length * (IB + 2) ≤ 500 * (IB + 2) := Nat.mul_le_mul_right _ h2
  have c2 := e_law_cycle_turn h1 (by unfold IB at *; omega) (by omega)
  have l2 := e_law_leads hx hb hm (by decide) (by unfold IB at *; omega)
  have i2 := e_law_is_cycle _ g
  have t2 := e_law_is_turn gm
  rw [hc] at i2
  rw [isTurn_M, hd] at t2
  generalize hcm : PyData.list (ns.map .int) = C at *
  simp [f__law_right_side, b__law_right_side, i2, t2, c2, l2]
theorem ro_pos {zs : List Int} (hp : Pos1 zs) (hw : wt zs < 2 ^ WB) : Ro 142 0 (zs.map .int) := by
  refine ⟨?_, by rw [cnL_ints]; exact cyc_len hp hw, by rw [dpA_ints]; exact Nat.le_refl _⟩
  rw [okL_ints, List.all_eq_true]
  exact fun i hi => decide_eq_true ((mem_bd hp hw i hi).mono (by decide))
theorem e_is_one {x y : M} (hx : x.bd 1000) (hy : y.bd 1000) {ts us : List Int} {h g : M} (C : Cof x ts h) (D : Cof y us g) : f__law_is_one [x.D, y.D] = some (.sh (.bool (mt ts us).isSome)) := by
  have l1 := cyc_len C.pos C.wt
  have l2 := cyc_len D.pos D.wt
  have m := e_meeting ts us (by omega)
  have ml := e_law_meet ts us (by omega)
  have e1 := C.e
  have e2 := D.e
  cases hm : mt ts us with
  | none =>
    rw [hm] at m ml
    have kp : f_kind_paper [x.D, y.D] = some (.sh (.tuple [.str "two", .tuple [.list (ts.map .int), h.D], .tuple [.list (us.map .int), g.D]])) := by
      generalize x.D = XD at *
      generalize y.D = YD at *
      generalize h.D = HD at *
      generalize g.D = GD at *
      simp [f_kind_paper, b_kind_paper, e1, e2, m]
    have iT : isCyc (.list (ts.map .int)) = true := by
      rw [isCyc_ints]
      simp only [Bool.and_eq_true, decide_eq_true_eq, List.all_eq_true]
      exact ⟨C.two, C.ev, fun i hi => by have := C.pos i hi; omega⟩
    have iU : isCyc (.list (us.map .int)) = true := by
      rw [isCyc_ints]
      simp only [Bool.and_eq_true, decide_eq_true_eq, List.all_eq_true]
      exact ⟨D.two, D.ev, fun i hi => by have := D.pos i hi; omega⟩
    have s1 := law_side_at hx ((ro_pos C.pos C.wt).lst.gd (by decide) (by decide)) (C.bd.mono (by decide)) iT C.det ((sd_M C.bd (by decide)).gd (by decide) (by decide))
    have s2 := law_side_at hy ((ro_pos D.pos D.wt).lst.gd (by decide) (by decide)) (D.bd.mono (by decide)) iU D.det ((sd_M D.bd (by decide)).gd (by decide) (by decide))
    rw [decide_eq_true C.lead] at s1
    rw [decide_eq_true D.lead] at s2
    have g2 : f__law_same 24 [.str "two", .str "two"] = _ := e_same_str 23 (.str "two") "two"
    have g3 : f__law_same 24 [.str "two", .str "one"] = _ := e_same_str 23 (.str "two") "one"
    have hne : isS "one" (.str "two") = false := by decide
    rw [hne] at g3
    generalize x.D = XD at *
    generalize y.D = YD at *
    generalize h.D = HD at *
    generalize g.D = GD at *
    simp [f__law_is_one, b__law_is_one, kp, f__law_right_one, b__law_right_one, f__law_right_two, b__law_right_two, g2, g3, isS, s1, s2, ml]
  | some j =>
    rw [hm] at m
    obtain ⟨hj, hr⟩ := mt_some hm
    obtain ⟨W, ew, bw, dw, lw⟩ := e_way C D j (by omega) hr
    have kp : f_kind_paper [x.D, y.D] = some (.sh (.tuple [.str "one", W.D])) := by
      obtain ⟨i, hi⟩ : ∃ i : Int, i = ((2 * j : Nat) : Int) := ⟨_, rfl⟩
      rw [← hi] at ew
      simp only [← hi] at m
      generalize x.D = XD at *
      generalize y.D = YD at *
      generalize h.D = HD at *
      generalize g.D = GD at *
      generalize W.D = WD at *
      simp [f_kind_paper, b_kind_paper, e1, e2, m, ew]
    obtain ⟨_, o2⟩ := one_at hx hy (bw.mono (by decide)) ((sd_M bw (by decide)).gd (by decide) (by decide)) dw
    rw [decide_eq_true lw] at o2
    simp [f__law_is_one, b__law_is_one, kp, o2]
end Lk75
set_option maxRecDepth 100000
set_option maxHeartbeats 1000000
namespace Lk75
open PySem L2 F3
/-! ### cycles as words -/
/-- the letters of a cycle -/
def ex : List Int → List Bool
  | a :: b :: r => List.replicate a.toNat true ++ (List.replicate b.toNat false ++ ex r)
  | _ => []
theorem wm_up : ∀ n : Nat, M.wm (List.replicate n true) = ⟨1, n, 0, 1⟩
  | 0 => rfl
  | n + 1 => by
    rw [List.replicate_succ]
    show M.lm true * M.wm (List.replicate n true) = _
    rw [wm_up n, M.up_eq]
    ext <;> simp <;> omega
theorem wm_lo : ∀ n : Nat, M.wm (List.replicate n false) = ⟨1, 0, n, 1⟩
  | 0 => rfl
  | n + 1 => by
    rw [List.replicate_succ]
    show M.lm false * M.wm (List.replicate n false) = _
    rw [wm_lo n, M.lo_eq]
    ext <;> simp <;> omega
/-- even lists of numbers from 1 on -/
structure Ev (l : List Int) : Prop where
  pos : Pos1 l
  ev : l.length % 2 = 0
theorem Ev.tail {a b : Int} {r : List Int} (h : Ev (a :: b :: r)) : 1 ≤ a ∧ 1 ≤ b ∧ Ev r := by
  refine ⟨h.pos a (by simp), h.pos b (by simp), fun t ht => h.pos t (by simp [ht]), ?_⟩
  have := h.ev
  simp at this
  omega
theorem wm_ex : ∀ (n : Nat) (l : List Int), l.length ≤ n → Ev l → M.wm (ex l) = cyc l
  | _, [], _, _ => rfl
  | _, [a], _, h => by have := h.ev; simp at this
  | 0, a :: b :: r, hn, _ => by simp at hn
  | n + 1, a :: b :: r, hn, h => by
    obtain ⟨h1, h2, h3⟩ := h.tail
    have ih := wm_ex n r (by simp at hn; omega) h3
    show M.wm (List.replicate a.toNat true ++ (List.replicate b.toNat false ++ ex r)) = _
    rw [M.wm_app, M.wm_app, ih, cyc_cc, wm_up, wm_lo, ← M.mul_assoc]
    have e1 : ((a.toNat : Nat) : Int) = a := by omega
    have e2 : ((b.toNat : Nat) : Int) = b := by omega
    rw [e1, e2]
    rfl
theorem ex_app : ∀ (n : Nat) (l s : List Int), l.length ≤ n → l.length % 2 = 0 → ex (l ++ s) = ex l ++ ex s
  | _, [], s, _, _ => rfl
  | _, [a], s, _, h => by simp at h
  | 0, a :: b :: r, s, hn, _ => by simp at hn
  | n + 1, a :: b :: r, s, hn, h => by
    have ih := ex_app n r s (by simp at hn; omega) (by simp at h; omega)
    show List.replicate a.toNat true ++ (List.replicate b.toNat false ++ ex (r ++ s)) = (List.replicate a.toNat true ++ (List.replicate b.toNat false ++ ex r)) ++ ex s
    rw [ih, List.append_assoc, List.append_assoc]
/-- a cut between a lower and an upper letter is a cut between pairs -/
theorem ex_cut : ∀ (n : Nat) (l : List Int) (x y : List Bool), l.length ≤ n → Ev l → ex l = (x ++ [false]) ++ (true :: y) → ∃ i, 2 * i ≤ l.length ∧ x ++ [false] = ex (l.take (2 * i)) ∧ true :: y = ex (l.drop (2 * i))
  | _, [], x, y, _, _, h => by
    have := congrArg List.length h
    simp [ex] at this
  | _, [a], x, y, _, h, _ => by have := h.ev; simp at this
  | 0, a :: b :: r, x, y, hn, _, _ => by simp at hn
  | n + 1, a :: b :: r, x, y, hn, hE, h => by
    obtain ⟨h1, h2, h3⟩ := hE.tail
    have h : (List.replicate a.toNat true ++ List.replicate b.toNat false) ++ ex r = (x ++ [false]) ++ (true :: y) := by
      rw [← h, List.append_assoc]
      rfl
    have two : ex [a, b] = List.replicate a.toNat true ++ List.replicate b.toNat false := by
      show List.replicate a.toNat true ++ (List.replicate b.toNat false ++ []) = _
      rw [List.append_nil]
    have one : ∀ z : List Bool, x ++ [false] = (List.replicate a.toNat true ++ List.replicate b.toNat false) ++ z → ex r = z ++ true :: y → ∃ i, 2 * i ≤ (a :: b :: r).length ∧ x ++ [false] = ex ((a :: b :: r).take (2 * i)) ∧ true :: y = ex ((a :: b :: r).drop (2 * i)) := by
      intro z hz hr
      rcases List.eq_nil_or_concat z with h0 | ⟨z', c, hc⟩
      · subst h0
        rw [List.append_nil] at hz
        exact ⟨1, by simp, by rw [hz]; exact two.symm, hr.symm⟩
      · rw [List.concat_eq_append] at hc
        have hcf : c = false := by
          rw [hc, ← List.append_assoc] at hz
          have := List.append_inj_right' hz rfl
          simpa using this.symm
        rw [hc, hcf] at hr hz
        obtain ⟨i, k1, k2, k3⟩ := ex_cut n r z' y (by simp at hn; omega) h3 hr
        refine ⟨i + 1, by simp; omega, ?_, ?_⟩
        · rw [hz, k2, show 2 * (i + 1) = 2 * i + 1 + 1 by omega, List.take_succ_cons, List.take_succ_cons, List.append_assoc]
          rfl
        · rw [k3, show 2 * (i + 1) = 2 * i + 1 + 1 by omega, List.drop_succ_cons, List.drop_succ_cons]
    rcases List.append_eq_append_iff.mp h with ⟨z, hz, hr⟩ | ⟨z, hz, hr⟩
    · exact one z hz hr
    · cases z with
      | nil => exact one [] (by rw [List.append_nil]; rw [List.append_nil] at hz; exact hz.symm) (by rw [List.nil_append] at hr; exact hr.symm)
      | cons c z =>
        exfalso
        have hc : c = true := by simpa using (congrArg List.head? hr).symm
        subst hc
        rcases List.append_eq_append_iff.mp hz with ⟨w, hw, hs⟩ | ⟨w, hw, hs⟩
        · -- x ++ [false] goes beyond the upper letters
          have : true ∈ List.replicate b.toNat false := by rw [hs]; simp
          have := (List.mem_replicate.mp this).2
          cases this
        · have : false ∈ List.replicate a.toNat true := by rw [hw]; simp
          have := (List.mem_replicate.mp this).2
          cases this
end Lk75
set_option maxRecDepth 100000
set_option maxHeartbeats 1000000
namespace Lk75
open PySem L2 F3
theorem rep_inj {u : Bool} : ∀ {m n : Nat} {x y : List Bool}, x.head? ≠ some u → y.head? ≠ some u → List.replicate m u ++ x = List.replicate n u ++ y → m = n ∧ x = y
  | 0, 0, _, _, _, _, h => ⟨rfl, h⟩
  | 0, n + 1, x, y, hx, _, h => by
    rw [List.replicate_succ, List.replicate_zero, List.nil_append, List.cons_append] at h
    rw [h] at hx
    exact absurd rfl hx
  | m + 1, 0, x, y, _, hy, h => by
    rw [List.replicate_succ, List.replicate_zero, List.nil_append, List.cons_append] at h
    rw [← h] at hy
    exact absurd rfl hy
  | m + 1, n + 1, x, y, hx, hy, h => by
    rw [List.replicate_succ, List.replicate_succ, List.cons_append, List.cons_append] at h
    obtain ⟨h1, h2⟩ := rep_inj hx hy (List.cons.inj h).2
    exact ⟨by rw [h1], h2⟩
theorem ex_head {l : List Int} (h : Ev l) : (ex l).head? ≠ some false := by
  match l, h with
  | [], _ => nofun
  | [a], h => nofun
  | a :: b :: r, h =>
    obtain ⟨h1, _, _⟩ := h.tail
    obtain ⟨n, hn⟩ : ∃ n, a.toNat = n + 1 := ⟨a.toNat - 1, by omega⟩
    show (List.replicate a.toNat true ++ _).head? ≠ _
    rw [hn, List.replicate_succ, List.cons_append]
    simp
theorem low_head {b : Int} (h : 1 ≤ b) (x : List Bool) : (List.replicate b.toNat false ++ x).head? ≠ some true := by
  obtain ⟨n, hn⟩ : ∃ n, b.toNat = n + 1 := ⟨b.toNat - 1, by omega⟩
  rw [hn, List.replicate_succ, List.cons_append]
  simp
theorem ex_inj : ∀ (n : Nat) (l s : List Int), l.length ≤ n → Ev l → Ev s → ex l = ex s → l = s
  | _, [], [], _, _, _, _ => rfl
  | _, [], [a], _, _, h, _ => by have := h.ev; simp at this
  | _, [], a :: b :: r, _, _, h, e => by
    obtain ⟨h1, _, _⟩ := h.tail
    have := congrArg List.length e
    simp [ex] at this
    omega
  | _, [a], _, _, h, _, _ => by have := h.ev; simp at this
  | _, a :: b :: r, [], _, h, _, e => by
    obtain ⟨h1, _, _⟩ := h.tail
    have := congrArg List.length e
    simp [ex] at this
    omega
  | _, _ :: _ :: _, [a], _, _, h, _ => by have := h.ev; simp at this
  | 0, a :: b :: r, _, hn, _, _, _ => by simp at hn
  | n + 1, a :: b :: r, c :: d :: s, hn, h, g, e => by
    obtain ⟨h1, h2, h3⟩ := h.tail
    obtain ⟨g1, g2, g3⟩ := g.tail
    obtain ⟨e1, e2⟩ := rep_inj (low_head h2 _) (low_head g2 _) e
    obtain ⟨e3, e4⟩ := rep_inj (ex_head h3) (ex_head g3) e2
    rw [ex_inj n r s (by simp at hn; omega) h3 g3 e4, show a = c by omega, show b = d by omega]
theorem ex_last : ∀ (n : Nat) (l : List Int), l.length ≤ n → Ev l → l ≠ [] → ∃ z, ex l = z ++ [false]
  | _, [], _, _, h => absurd rfl h
  | _, [a], _, h, _ => by have := h.ev; simp at this
  | 0, a :: b :: r, hn, _, _ => by simp at hn
  | n + 1, a :: b :: r, hn, h, _ => by
    obtain ⟨h1, h2, h3⟩ := h.tail
    cases r with
    | nil =>
      obtain ⟨k, hk⟩ : ∃ k, b.toNat = k + 1 := ⟨b.toNat - 1, by omega⟩
      refine ⟨List.replicate a.toNat true ++ List.replicate k false, ?_⟩
      show List.replicate a.toNat true ++ (List.replicate b.toNat false ++ []) = _
      rw [List.append_nil, hk, List.replicate_succ', List.append_assoc]
    | cons c r =>
      obtain ⟨z, hz⟩ := ex_last n (c :: r) (by simp at hn ⊢; omega) h3 (by simp)
      refine ⟨List.replicate a.toNat true ++ (List.replicate b.toNat false ++ z), ?_⟩
      show List.replicate a.toNat true ++ (List.replicate b.toNat false ++ ex (c :: r)) = _
      rw [hz, List.append_assoc, List.append_assoc]
theorem ex_first {l : List Int} (h : Ev l) (hn : l ≠ []) : ∃ z, ex l = true :: z := by
  match l, h, hn with
  | [a], h, _ => have := h.ev; simp at this
  | a :: b :: r, h, _ =>
    obtain ⟨h1, _, _⟩ := h.tail
    obtain ⟨n, hn⟩ : ∃ n, a.toNat = n + 1 := ⟨a.toNat - 1, by omega⟩
    refine ⟨List.replicate n true ++ (List.replicate b.toNat false ++ ex r), ?_⟩
    show List.replicate a.toNat true ++ _ = _
    rw [hn, List.replicate_succ, List.cons_append]
theorem Ev.rot {l : List Int} (h : Ev l) (k : Nat) : Ev (rot l k) := by
  refine ⟨fun t ht => ?_, by rw [rot_len]; exact h.ev⟩
  unfold Lk75.rot at ht
  rcases List.mem_append.mp ht with ht | ht
  · exact h.pos t (List.mem_of_mem_drop ht)
  · exact h.pos t (List.mem_of_mem_take ht)
/-- one turned on is the other one turned on by pairs -/
theorem ex_turned {l s : List Int} (hl : Ev l) (hs : Ev s) (ln : l ≠ []) (sn : s ≠ []) {x y : List Bool} (h1 : ex l = x ++ y) (h2 : ex s = y ++ x) : ∃ i, 2 * i < l.length ∧ Lk75.rot l (2 * i) = s := by
  have hpos : 0 < l.length := List.length_pos_iff.mpr ln
  rcases List.eq_nil_or_concat x with hx | ⟨x', c, hx⟩
  · subst hx
    rw [List.nil_append] at h1
    rw [List.append_nil] at h2
    exact ⟨0, by omega, by rw [Nat.mul_zero, rot_zero]; exact ex_inj _ l s (Nat.le_refl _) hl hs (by rw [h1, h2])⟩
  · rw [List.concat_eq_append] at hx
    cases y with
    | nil =>
      rw [List.append_nil] at h1
      rw [List.nil_append] at h2
      exact ⟨0, by omega, by rw [Nat.mul_zero, rot_zero]; exact ex_inj _ l s (Nat.le_refl _) hl hs (by rw [h1, h2])⟩
    | cons d y =>
      obtain ⟨z, hz⟩ := ex_last _ s (Nat.le_refl _) hs sn
      obtain ⟨w, hw⟩ := ex_first hs sn
      have hc : c = false := by
        rw [h2, hx, ← List.append_assoc] at hz
        have := List.append_inj_right' hz rfl
        simpa using this
      have hd : d = true := by
        rw [h2, List.cons_append] at hw
        exact (List.cons.inj hw).1
      subst hc hd
      rw [hx] at h1 h2
      obtain ⟨i, k1, k2, k3⟩ := ex_cut _ l x' y (Nat.le_refl _) hl h1
      have hi : 2 * i < l.length := by
        apply Nat.lt_of_le_of_ne k1
        intro he
        rw [he, List.drop_length] at k3
        exact absurd k3 (by simp [ex])
      refine ⟨i, hi, ?_⟩
      apply ex_inj _ _ s (Nat.le_refl _) (hl.rot _) hs
      have hlev := hl.ev
      unfold Lk75.rot
      rw [ex_app _ _ _ (Nat.le_refl _) (by rw [List.length_drop]; omega), ← k2, ← k3, h2]
end Lk75
set_option maxRecDepth 100000
set_option maxHeartbeats 1000000
namespace Lk75
open PySem L2 F3
/-- of one kind -/
def Kd1 (x y : M) : Prop := ∃ g : M, g.det = 1 ∧ g * x = y * g
theorem Kd1.refl (x : M) : Kd1 x x := ⟨M.one, by decide, by rw [M.one_mul, M.mul_one]⟩
theorem Kd1.symm {x y : M} (h : Kd1 x y) : Kd1 y x := by
  obtain ⟨g, hd, h⟩ := h
  refine ⟨g.inv, by rw [M.det_inv, hd], ?_⟩
  have h1 : g.inv * (g * x) * g.inv = g.inv * (y * g) * g.inv := by rw [h]
  rw [← M.mul_assoc, M.inv_mul hd, M.one_mul, ← M.mul_assoc, M.mul_assoc (g.inv * y), M.mul_inv hd, M.mul_one] at h1
  exact h1.symm
theorem Kd1.trans {x y z : M} (h : Kd1 x y) (k : Kd1 y z) : Kd1 x z := by
  obtain ⟨g, hd, h⟩ := h
  obtain ⟨f, fd, k⟩ := k
  exact ⟨f * g, by rw [M.det_mul, hd, fd]; rfl, by rw [M.mul_assoc, h, ← M.mul_assoc, k, M.mul_assoc]⟩
theorem Kd1.tr {x y : M} (h : Kd1 x y) : x.tr = y.tr := by
  obtain ⟨g, hd, h⟩ := h
  have h1 : M.by_ g x = y := by
    unfold M.by_
    rw [h, M.mul_assoc, M.mul_inv hd, M.mul_one]
  rw [← h1, M.by_tr hd]
theorem Kd1.by_ {g : M} (hd : g.det = 1) (x : M) : Kd1 x (M.by_ g x) := ⟨g, hd, M.by_lead hd⟩
theorem cyc_ps {l : List Int} (h : Ev l) (hn : l ≠ []) : M.Ps (cyc l) := by
  match l, h, hn with
  | [a], h, _ => have := h.ev; simp at this
  | x :: y :: r, h, _ =>
    obtain ⟨hx, hy, hr⟩ := h.tail
    obtain ⟨h1, h2, h3, h4, _, _⟩ := rows hr.pos r.length (Nat.le_refl _)
    have hN : Nn (cyc r) := ⟨h1, h2, h3, h4, cyc_det r⟩
    obtain ⟨pa, pd⟩ := hN.ad
    have nb := hN.b
    have nc := hN.c
    have hdet := cyc_det (x :: y :: r)
    have e : lt 0 x * lt 1 y = ⟨1 + x * y, x, y, 1⟩ := by
      simp only [lt, M.mul_def]
      ext <;> simp
    rw [cyc_cc, e] at hdet ⊢
    generalize cyc r = R at *
    have k1 : 1 ≤ x * y := Int.mul_le_mul (a := 1) (b := 1) hx hy (by decide) (by omega)
    have g1 := Int.mul_le_mul_of_nonneg_right (show 1 ≤ 1 + x * y by omega) (show 0 ≤ R.a by omega)
    have g2 := Int.mul_nonneg (show 0 ≤ x by omega) nc
    have g3 := Int.mul_nonneg (show 0 ≤ 1 + x * y by omega) nb
    have g4 := Int.mul_le_mul_of_nonneg_right hx (show 0 ≤ R.d by omega)
    have g5 := Int.mul_le_mul_of_nonneg_right hy (show 0 ≤ R.a by omega)
    have g6 := Int.mul_nonneg (show 0 ≤ y by omega) nb
    refine ⟨?_, ?_, ?_, ?_, hdet⟩
    · show 1 ≤ (1 + x * y) * R.a + x * R.c
      omega
    · show 1 ≤ (1 + x * y) * R.b + x * R.d
      omega
    · show 1 ≤ y * R.a + 1 * R.c
      omega
    · show 1 ≤ y * R.b + 1 * R.d
      omega
theorem mt_iff {l s : List Int} (hl : Ev l) (hs : Ev s) (ln : l ≠ []) (sn : s ≠ []) : (mt l s).isSome = true ↔ Kd1 (cyc l) (cyc s) := by
  constructor
  · intro h
    obtain ⟨j, hj⟩ := Option.isSome_iff_exists.mp h
    obtain ⟨h1, h2⟩ := mt_some hj
    have hev := hl.ev
    have hle : 2 * j ≤ l.length := by omega
    have ct : cyc l = cyc (l.take (2 * j)) * cyc (l.drop (2 * j)) := by
      rw [← cyc_app (by rw [List.length_take]; omega), List.take_append_drop]
    have cu : cyc s = cyc (l.drop (2 * j)) * cyc (l.take (2 * j)) := by
      rw [← h2]
      unfold rot
      rw [cyc_app (by rw [List.length_drop]; omega)]
    exact ⟨cyc (l.drop (2 * j)), cyc_det _, by rw [ct, cu, M.mul_assoc]⟩
  · intro ⟨g, hd, h⟩
    have e1 := wm_ex _ l (Nat.le_refl _) hl
    have e2 := wm_ex _ s (Nat.le_refl _) hs
    rw [← e1, ← e2] at h
    obtain ⟨x, y, w1, w2⟩ := M.words_turn (by rw [e1]; exact cyc_ps hl ln) (by rw [e2]; exact cyc_ps hs sn) hd h
    obtain ⟨i, hi, hr⟩ := ex_turned hl hs ln sn w1 w2
    unfold mt
    rw [List.find?_isSome]
    exact ⟨i, List.mem_range.mpr (by omega), decide_eq_true hr⟩
open Classical in
theorem e_kind {x y : M} (hx : x.bd 1000) (hy : y.bd 1000) (dx : x.det = 1) (dy : y.det = 1) (tx : 3 ≤ x.tr) (ty : 3 ≤ y.tr) (sx : small x) (sy : small y) : f__law_is_one [x.D, y.D] = some (.sh (.bool (decide (Kd1 x y)))) := by
  obtain ⟨ts, h, C⟩ := cof_of dx tx sx
  obtain ⟨us, g, D⟩ := cof_of dy ty sy
  rw [e_is_one hx hy C D]
  have eT : Ev ts := ⟨C.pos, C.ev⟩
  have eU : Ev us := ⟨D.pos, D.ev⟩
  have nT : ts ≠ [] := fun h => by have := C.two; rw [h] at this; simp at this
  have nU : us ≠ [] := fun h => by have := D.two; rw [h] at this; simp at this
  have kx : Kd1 x (cyc ts) := ⟨h, C.det, C.lead⟩
  have ky : Kd1 y (cyc us) := ⟨g, D.det, D.lead⟩
  congr 3
  rw [Bool.eq_iff_iff, mt_iff eT eU nT nU, decide_eq_true_eq]
  constructor
  · intro k
    exact (kx.trans k).trans ky.symm
  · intro k
    exact (kx.symm.trans k).trans ky
end Lk75
set_option maxRecDepth 100000
set_option maxHeartbeats 1000000
namespace Lk75
open PySem L2 F3
theorem e_draws (ns : List Int) : ∃ ds : List Int, f__law_draws [.list (ns.map .int), .int 14] = some (.fr (ds.map .int)) ∧ ds.length = 14 ∧ Dr ds := by
  have hcut : cutD (ns.map PyData.int) none (some 63) = (ns.take 63).map PyData.int := by
    rw [show (some 63 : Option Int) = some ((63 : Nat) : Int) from rfl, cut_to, List.map_take]
  have hlen : (ns.take 63).length ≤ 63 := by rw [List.length_take]; omega
  obtain ⟨ρ', e, fs, rfl, f1, f2⟩ := for_inv (g := gNm 3) (b := (sFo [3, 4, 5, 6] (sSeq (sSet 4 (eCall (on1 absR) (aCons (eCall (on1 intR) (aCons (eVar 3) aNil)) aNil)))
 (sFo [4, 5, 6] (sIf (tOf (eBin geR (eVar 4) (eBin powR (eC (.int 10)) (eC (.int 18)))))
  (sFo [4, 5] (sPre [5] (sFor (itRng (aCons (eC (.int 60)) aNil)) (gNm 5)
  (sFo [5] (sIf (tOf (eBin gtR (eVar 4) (eC (.int 0))))
  (sSeq (sApp 2 (eBin modR (eVar 4) (eC (.int 1000003))))
 (sSet 4 (eBin fdivR (eVar 4) (eC (.int 1000003)))))
  sPass)))))
  (sSeq (sSet 6 (eBin modR (eBin addR (eBin addR (eBin mulI (eVar 4) (eC (.int 48271))) (eBin mulI (eC (.int 7)) (eCall (on1 lenR) (aCons (eVar 2) aNil)))) (eC (.int 11))) (eC (.int 2147483647))))
 (sFo [5, 6] (sPre [5] (sFor (itRng (aCons (eC (.int 4)) aNil)) (gNm 5)
  (sFo [5] (sSeq (sSet 6 (eBin modR (eBin addR (eBin addR (eBin addR (eBin mulI (eVar 6) (eC (.int 69621))) (eBin fdivR (eVar 6) (eC (.int 65536)))) (eBin mulI (eC (.int 13)) (eVar 5))) (eC (.int 5))) (eC (.int 2147483629))))
 (sApp 2 (eBin modR (eBin fdivR (eVar 6) (eC (.int 8))) (eC (.int 1000003))))))))))))))) (fun k ρ => ∃ (gs : List Int), ρ = [some (.sh (.list (ns.map .int))), some (.sh (.int 14)), some (.bo (gs.map .int)), none, none, none, none, none] ∧ Dr gs ∧ gs.length ≤ 60 * k) ((ns.take 63).map PyData.int) 0
     [some (.sh (.list (ns.map .int))), some (.sh (.int 14)), some (.bo []), none, none, none, none, none] (fun k d ρ hk hI => by
      obtain ⟨gs, rfl, i1, i2⟩ := hI
      have hk63 : k < 63 := by
        have := (List.getElem?_eq_some_iff.mp hk).1
        rw [List.length_map] at this
        omega
      obtain ⟨x, hx, rfl⟩ : ∃ x : Int, x ∈ ns.take 63 ∧ d = .int x := by
        rw [List.getElem?_map] at hk
        obtain ⟨x, hx, hd⟩ := Option.map_eq_some_iff.mp hk
        exact ⟨x, List.mem_of_getElem? hx, hd.symm⟩
      obtain ⟨v, hv⟩ : ∃ v : Int, v = if x < 0 then -x else x := ⟨_, rfl⟩
      have v0 : 0 ≤ v := by rw [hv]; split <;> omega
      have r60 : rOk 60 := rOk_nat (n := 60) (by decide)
      have r4 : rOk 4 := rOk_nat (n := 4) (by decide)
      by_cases hb : 1000000000000000000 ≤ v
      · obtain ⟨hs, u, e, h1, h2⟩ := draws_big (some (.sh (.list (ns.map .int)))) (some (.sh (.int 14))) (some (.sh (.int x))) v v0 gs i1 60 (by omega)
        refine ⟨_, ?_, hs, rfl, h1, by omega⟩
        simp [← hv, hb, r60, e]
      · obtain ⟨m, hm⟩ : ∃ m : Int, m = (v * 48271 + 7 * (gs.length : Int) + 11) % 2147483647 := ⟨_, rfl⟩
        obtain ⟨hs, u, e, h1, h2⟩ := draws_four (some (.sh (.list (ns.map .int)))) (some (.sh (.int 14))) (some (.sh (.int x))) (some (.sh (.int v))) m (by rw [hm]; exact Int.emod_nonneg _ (by decide)) (by rw [hm]; exact Int.emod_lt_of_pos _ (by decide)) gs i1 4 (by decide) (by omega)
        have m1 : mulOk v 48271 := mulOk_of (bd_of (n := 64) (by omega) (by omega)) (show Bd 32 48271 by decide) (by decide)
        have m2 : mulOk 7 (gs.length : Int) := mulOk_of (show Bd 32 7 by decide) (bd_of (n := 32) (by omega) (by omega)) (by decide)
        refine ⟨_, ?_, hs, rfl, h1, by omega⟩
        simp [← hv, hb, m1, m2, ← hm, r4, e]) ⟨[], rfl, nofun, Nat.zero_le _⟩
  rw [List.length_map] at f2
  obtain ⟨gs, e2, g1, g2, g3⟩ := draws_fill (some (.sh (.list (ns.map .int)))) none none none fs f1 14 (by decide) (by omega)
  have r14 : rOk 14 := rOk_nat (n := 14) (by decide)
  have hc2 : cutD (gs.map PyData.int) none (some 14) = (gs.take 14).map PyData.int := by
    rw [show (some 14 : Option Int) = some ((14 : Nat) : Int) from rfl, cut_to, List.map_take]
  refine ⟨gs.take 14, ?_, by rw [List.length_take]; omega, fun i hi => g1 i (List.mem_of_mem_take hi)⟩
  rw [show ((14 : Nat) : Int) = 14 from rfl] at e2
  rw [List.map_take] at e hcut hc2
  simp [f__law_draws, b__law_draws, hcut, e, r14, e2, hc2]
/-! ### the law's list of turns -/
/-- a turn with numbers from -3 to 3 -/
structure T3 (m : M) : Prop where
  det : m.det = 1
  a : m.a.natAbs ≤ 3
  b : m.b.natAbs ≤ 3
  c : m.c.natAbs ≤ 3
  d : m.d.natAbs ≤ 3
def T3s (ds : List PyData) : Prop := ∀ d ∈ ds, ∃ m : M, d = m.D ∧ T3 m
end Lk75
set_option maxRecDepth 100000
set_option maxHeartbeats 1000000
namespace Lk75
open PySem L2 F3
theorem r7_get {k : Nat} {d : PyData} (h : (rangeD (-3) 1 7)[k]? = some d) : k < 7 ∧ d = .int (-3 + (k : Int)) := by
  obtain ⟨h1, h2⟩ := rangeD_get h
  refine ⟨h1, ?_⟩
  rw [h2]
  congr 1
  omega
noncomputable def tb4 : Rh → Option Out := (sFo [4] (sIf (tOf (eBin eqR (eBin subR (eBin mulI (eVar 1) (eVar 2)) (eBin mulI (eVar 3) (eVar 4))) (eC (.int 1))))
  (sApp 0 (eTup (aCons (eVar 1) (aCons (eVar 3) (aCons (eVar 4) (aCons (eVar 2) aNil))))))
  sPass))
theorem tl4 {a d b : Int} (ha : a.natAbs ≤ 3) (hd : d.natAbs ≤ 3) (hb : b.natAbs ≤ 3) (ds : List PyData) (hT : T3s ds) (hl : ds.length ≤ 900000) :
    ∃ es, forD (gNm 4) tb4 (rangeD (-3) 1 7) [some (.bo ds), some (.sh (.int a)), some (.sh (.int d)), some (.sh (.int b)), none] = some (.nx [some (.bo es), some (.sh (.int a)), some (.sh (.int d)), some (.sh (.int b)), none]) ∧ T3s es ∧ es.length ≤ ds.length + 7 ∧ (ds ≠ [] → es ≠ []) ∧ (a = 1 → d = 1 → b = 0 → es ≠ []) := by
  have bd3 : ∀ i : Int, i.natAbs ≤ 3 → Bd 3 i := fun i h => by unfold Bd; omega
  obtain ⟨ρ', e, es, rfl, h1, h2, h3, h4⟩ := for_inv (g := gNm 4) (b := tb4) (fun k ρ => ∃ es, ρ = [some (.bo es), some (.sh (.int a)), some (.sh (.int d)), some (.sh (.int b)), none] ∧ T3s es ∧ es.length ≤ ds.length + k ∧ (ds ≠ [] → es ≠ []) ∧ (a = 1 → d = 1 → b = 0 → 4 ≤ k → es ≠ [])) (rangeD (-3) 1 7) 0 [some (.bo ds), some (.sh (.int a)), some (.sh (.int d)), some (.sh (.int b)), none]
    (fun k dd ρ hk hI => by
      obtain ⟨hk7, rfl⟩ := r7_get hk
      obtain ⟨es, rfl, i1, i2, i3, i4⟩ := hI
      obtain ⟨c, hc⟩ : ∃ c : Int, c = -3 + (k : Int) := ⟨_, rfl⟩
      rw [← hc]
      have hc3 : c.natAbs ≤ 3 := by omega
      have m1 : mulOk a d := mulOk_of (bd3 a ha) (bd3 d hd) (by decide)
      have m2 : mulOk b c := mulOk_of (bd3 b hb) (bd3 c hc3) (by decide)
      have hlen : es.length < 1000000 := by omega
      by_cases ht : a * d - b * c = 1
      · refine ⟨_, ?_, es ++ [.tuple [.int a, .int b, .int c, .int d]], rfl, ?_, by rw [List.length_append]; simp; omega, fun _ => by simp, fun _ _ _ _ => by simp⟩
        · simp [tb4, m1, m2, ht, sApp_run, hlen]
        · intro x hx
          rcases List.mem_append.mp hx with hx | hx
          · exact i1 x hx
          · rcases List.mem_singleton.mp hx with rfl
            exact ⟨⟨a, b, c, d⟩, rfl, ht, ha, hb, hc3, hd⟩
      · refine ⟨_, by simp [tb4, m1, m2, ht], es, rfl, i1, by omega, i3, fun x1 x2 x3 x4 => ?_⟩
        by_cases h4 : 4 ≤ 0 + k
        · exact i4 x1 x2 x3 h4
        · exfalso
          apply ht
          rw [x1, x2, x3, Int.zero_mul]
          decide) ⟨ds, rfl, hT, by omega, fun h => h, fun _ _ _ h => by omega⟩
  rw [rangeD_len] at h2 h4
  exact ⟨es, e, h1, by omega, h3, fun x1 x2 x3 => h4 x1 x2 x3 (by decide)⟩
noncomputable def tb3 : Rh → Option Out := (sFo [3, 4] (sFo [4] (sPre [4] (sFor (itRng (aCons (eUn negR (eC (.int 3))) (aCons (eC (.int 4)) aNil))) (gNm 4) tb4))))
theorem r7 : rngD [-3, 4] = some (rangeD (-3) 1 7) := by
  have h1 : rOk (-3) := by unfold rOk; omega
  have h2 : rOk 4 := by unfold rOk; omega
  rw [rngD_2 h1 h2]
  rfl
theorem tl3 {a d : Int} (ha : a.natAbs ≤ 3) (hd : d.natAbs ≤ 3) (ds : List PyData) (hT : T3s ds) (hl : ds.length ≤ 800000) :
    ∃ es, forD (gNm 3) tb3 (rangeD (-3) 1 7) [some (.bo ds), some (.sh (.int a)), some (.sh (.int d)), none, none] = some (.nx [some (.bo es), some (.sh (.int a)), some (.sh (.int d)), none, none]) ∧ T3s es ∧ es.length ≤ ds.length + 49 ∧ (ds ≠ [] → es ≠ []) ∧ (a = 1 → d = 1 → es ≠ []) := by
  obtain ⟨ρ', e, es, rfl, h1, h2, h3, h4⟩ := for_inv (g := gNm 3) (b := tb3) (fun k ρ => ∃ es, ρ = [some (.bo es), some (.sh (.int a)), some (.sh (.int d)), none, none] ∧ T3s es ∧ es.length ≤ ds.length + 7 * k ∧ (ds ≠ [] → es ≠ []) ∧ (a = 1 → d = 1 → 4 ≤ k → es ≠ [])) (rangeD (-3) 1 7) 0 [some (.bo ds), some (.sh (.int a)), some (.sh (.int d)), none, none]
    (fun k dd ρ hk hI => by
      obtain ⟨hk7, rfl⟩ := r7_get hk
      obtain ⟨es, rfl, i1, i2, i3, i4⟩ := hI
      obtain ⟨c, hc⟩ : ∃ c : Int, c = -3 + (k : Int) := ⟨_, rfl⟩
      rw [← hc]
      obtain ⟨fs, ef, f1, f2, f3, f4⟩ := tl4 ha hd (show c.natAbs ≤ 3 by omega) es i1 (by omega)
      refine ⟨_, ?_, fs, rfl, f1, by omega, fun h => f3 (i3 h), fun x1 x2 x4 => ?_⟩
      · simp [tb3, r7, ef]
      · by_cases h4 : 4 ≤ 0 + k
        · exact f3 (i4 x1 x2 h4)
        · exact f4 x1 x2 (by omega)) ⟨ds, rfl, hT, by omega, fun h => h, fun _ _ h => by omega⟩
  rw [rangeD_len] at h2 h4
  exact ⟨es, e, h1, by omega, h3, fun x1 x2 => h4 x1 x2 (by decide)⟩
noncomputable def tb2 : Rh → Option Out := (sFo [2, 3, 4] (sFo [3, 4] (sPre [3, 4] (sFor (itRng (aCons (eUn negR (eC (.int 3))) (aCons (eC (.int 4)) aNil))) (gNm 3) tb3))))
theorem tl2 {a : Int} (ha : a.natAbs ≤ 3) (ds : List PyData) (hT : T3s ds) (hl : ds.length ≤ 700000) :
    ∃ es, forD (gNm 2) tb2 (rangeD (-3) 1 7) [some (.bo ds), some (.sh (.int a)), none, none, none] = some (.nx [some (.bo es), some (.sh (.int a)), none, none, none]) ∧ T3s es ∧ es.length ≤ ds.length + 343 ∧ (ds ≠ [] → es ≠ []) ∧ (a = 1 → es ≠ []) := by
  obtain ⟨ρ', e, es, rfl, h1, h2, h3, h4⟩ := for_inv (g := gNm 2) (b := tb2) (fun k ρ => ∃ es, ρ = [some (.bo es), some (.sh (.int a)), none, none, none] ∧ T3s es ∧ es.length ≤ ds.length + 49 * k ∧ (ds ≠ [] → es ≠ []) ∧ (a = 1 → 5 ≤ k → es ≠ [])) (rangeD (-3) 1 7) 0 [some (.bo ds), some (.sh (.int a)), none, none, none]
    (fun k dd ρ hk hI => by
      obtain ⟨hk7, rfl⟩ := r7_get hk
      obtain ⟨es, rfl, i1, i2, i3, i4⟩ := hI
      obtain ⟨c, hc⟩ : ∃ c : Int, c = -3 + (k : Int) := ⟨_, rfl⟩
      rw [← hc]
      obtain ⟨fs, ef, f1, f2, f3, f4⟩ := tl3 ha (show c.natAbs ≤ 3 by omega) es i1 (by omega)
      refine ⟨_, ?_, fs, rfl, f1, by omega, fun h => f3 (i3 h), fun x1 x4 => ?_⟩
      · simp [tb2, r7, ef]
      · by_cases h4 : 5 ≤ 0 + k
        · exact f3 (i4 x1 h4)
        · exact f4 x1 (by omega)) ⟨ds, rfl, hT, by omega, fun h => h, fun _ h => by omega⟩
  rw [rangeD_len] at h2 h4
  exact ⟨es, e, h1, by omega, h3, fun x1 => h4 x1 (by decide)⟩
noncomputable def tb1 : Rh → Option Out := (sFo [1, 2, 3, 4] (sFo [2, 3, 4] (sPre [2, 3, 4] (sFor (itRng (aCons (eUn negR (eC (.int 3))) (aCons (eC (.int 4)) aNil))) (gNm 2) tb2))))
theorem tl1 : ∃ es, forD (gNm 1) tb1 (rangeD (-3) 1 7) [some (.bo []), none, none, none, none] = some (.nx [some (.bo es), none, none, none, none]) ∧ T3s es ∧ es.length ≤ 2401 ∧ es ≠ [] := by
  obtain ⟨ρ', e, es, rfl, h1, h2, h4⟩ := for_inv (g := gNm 1) (b := tb1) (fun k ρ => ∃ es, ρ = [some (.bo es), none, none, none, none] ∧ T3s es ∧ es.length ≤ 343 * k ∧ (5 ≤ k → es ≠ [])) (rangeD (-3) 1 7) 0 [some (.bo []), none, none, none, none]
    (fun k dd ρ hk hI => by
      obtain ⟨hk7, rfl⟩ := r7_get hk
      obtain ⟨es, rfl, i1, i2, i4⟩ := hI
      obtain ⟨c, hc⟩ : ∃ c : Int, c = -3 + (k : Int) := ⟨_, rfl⟩
      rw [← hc]
      obtain ⟨fs, ef, f1, f2, f3, f4⟩ := tl2 (show c.natAbs ≤ 3 by omega) es i1 (by omega)
      refine ⟨_, ?_, fs, rfl, f1, by omega, fun x4 => ?_⟩
      · simp [tb1, r7, ef]
      · by_cases h4 : 5 ≤ 0 + k
        · exact f3 (i4 h4)
        · exact f4 (by omega)) ⟨[], rfl, nofun, by simp, fun h => by omega⟩
  rw [rangeD_len] at h2 h4
  exact ⟨es, e, h1, by omega, h4 (by decide)⟩
theorem e_turns : ∃ ts, f__law_turns [] = some (.fr ts) ∧ T3s ts ∧ ts.length ≤ 2401 ∧ ts ≠ [] := by
  obtain ⟨es, e, h1, h2, h3⟩ := tl1
  refine ⟨es, ?_, h1, h2, h3⟩
  have hb : b__law_turns = (sSeq (sSet 0 (eLst aNil)) (sSeq (sFo [1, 2, 3, 4] (sPre [1, 2, 3, 4] (sFor (itRng (aCons (eUn negR (eC (.int 3))) (aCons (eC (.int 4)) aNil))) (gNm 1) tb1))) (sRet (eVar 0)))) := rfl
  simp [f__law_turns, hb, r7, e]
end Lk75
set_option maxRecDepth 100000
set_option maxHeartbeats 1000000
namespace Lk75
open PySem L2 F3
theorem for_findA {α : Type} {g : PyData → Rh → Option Rh} {b : Rh → Option Out} {p : α → Bool} {c : α → PyData} {r : α → Res} {ρ : Rh} : ∀ ks : List α, (∀ k ∈ ks, (g (c k) ρ).bind b = some (if p k = true then .rt (r k) else .nx ρ)) →
    forD g b (ks.map c) ρ = some (match ks.find? p with | some k => .rt (r k) | none => .nx ρ)
  | [], _ => by simp [forD]
  | k :: ks, h => by
    have hd := h k List.mem_cons_self
    obtain ⟨ρ1, e1, e2⟩ := bind_some hd
    have ih := for_findA ks fun j hj => h j (List.mem_cons_of_mem _ hj)
    rw [List.map_cons, forD, e1, Option.bind_some, e2, Option.bind_some, List.find?_cons]
    by_cases hp : p k = true
    · simp only [hp, if_true]
    · have hp' : p k = false := by simpa using hp
      simp only [hp', Bool.false_eq_true, if_false]
      exact ih
theorem T3s.ms : ∀ {ds : List PyData}, T3s ds → ∃ ms : List M, ds = ms.map M.D ∧ ∀ m ∈ ms, T3 m
  | [], _ => ⟨[], rfl, nofun⟩
  | d :: ds, h => by
    obtain ⟨m, hm, ht⟩ := h d List.mem_cons_self
    obtain ⟨ms, h1, h2⟩ := T3s.ms (ds := ds) fun e he => h e (List.mem_cons_of_mem _ he)
    refine ⟨m :: ms, by rw [hm, h1]; rfl, fun k hk => ?_⟩
    rcases List.mem_cons.mp hk with rfl | hk
    · exact ht
    · exact h2 k hk
theorem T3.bd {m : M} (h : T3 m) : m.bd 2 := by
  obtain ⟨_, h1, h2, h3, h4⟩ := h
  exact ⟨by unfold Bd; omega, by unfold Bd; omega, by unfold Bd; omega, by unfold Bd; omega⟩
def ldF (ms : List M) (x y : M) : Option M := ms.find? fun m => decide (m * x = y * m)
theorem e_leading {ms : List M} (hm : ∀ m ∈ ms, T3 m) {x y : M} (hx : x.bd 100) (hy : y.bd 100) : f__law_leading [.list (ms.map M.D), x.D, y.D] = some (match ldF ms x y with | some m => .sh m.D | none => .sh .none) := by
  have := for_findA (g := gTp (gsC (gNm 11) (gsC (gNm 12) (gsC (gNm 13) (gsC (gNm 14) gsN))))) (b := (sFo [11, 12, 13, 14] (sIf (tAndD (tOf (eBin eqR (eBin addR (eBin mulI (eVar 11) (eVar 3)) (eBin mulI (eVar 12) (eVar 5))) (eBin addR (eBin mulI (eVar 7) (eVar 11)) (eBin mulI (eVar 8) (eVar 13))))) (tOf (eBin eqR (eBin addR (eBin mulI (eVar 11) (eVar 4)) (eBin mulI (eVar 12) (eVar 6))) (eBin addR (eBin mulI (eVar 7) (eVar 12)) (eBin mulI (eVar 8) (eVar 14))))))
  (sIf (tAndD (tOf (eBin eqR (eBin addR (eBin mulI (eVar 13) (eVar 3)) (eBin mulI (eVar 14) (eVar 5))) (eBin addR (eBin mulI (eVar 9) (eVar 11)) (eBin mulI (eVar 10) (eVar 13))))) (tOf (eBin eqR (eBin addR (eBin mulI (eVar 13) (eVar 4)) (eBin mulI (eVar 14) (eVar 6))) (eBin addR (eBin mulI (eVar 9) (eVar 12)) (eBin mulI (eVar 10) (eVar 14))))))
  (sRet (eTup (aCons (eVar 11) (aCons (eVar 12) (aCons (eVar 13) (aCons (eVar 14) aNil))))))
  sPass)
  sPass))) (p := fun m => decide (m * x = y * m)) (c := M.D) (r := fun m => .sh m.D) (ρ := [some (.sh (.list (ms.map M.D))), some (.sh x.D), some (.sh y.D), some (.sh (.int x.a)), some (.sh (.int x.b)), some (.sh (.int x.c)), some (.sh (.int x.d)), some (.sh (.int y.a)), some (.sh (.int y.b)), some (.sh (.int y.c)), some (.sh (.int y.d)), none, none, none, none]) ms (fun m hmm => by
    obtain ⟨p1, p2, p3, p4, p5, p6, p7, p8⟩ := mulOks (hm m hmm).bd hx (by decide)
    obtain ⟨q1, q2, q3, q4, q5, q6, q7, q8⟩ := mulOks hy (hm m hmm).bd (by decide)
    have key : (m * x = y * m) ↔ (m.a * x.a + m.b * x.c = y.a * m.a + y.b * m.c ∧ m.a * x.b + m.b * x.d = y.a * m.b + y.b * m.d) ∧ (m.c * x.a + m.d * x.c = y.c * m.a + y.d * m.c ∧ m.c * x.b + m.d * x.d = y.c * m.b + y.d * m.d) := by
      rw [M.mul_def, M.mul_def]
      constructor
      · intro h
        have e1 := congrArg M.a h
        have e2 := congrArg M.b h
        have e3 := congrArg M.c h
        have e4 := congrArg M.d h
        exact ⟨⟨e1, e2⟩, e3, e4⟩
      · intro ⟨⟨e1, e2⟩, e3, e4⟩
        exact M.ext' e1 e2 e3 e4
    generalize ms.map M.D = TS
    simp only [M.D]
    by_cases h1 : m.a * x.a + m.b * x.c = y.a * m.a + y.b * m.c
    · by_cases h2 : m.a * x.b + m.b * x.d = y.a * m.b + y.b * m.d
      · by_cases h3 : m.c * x.a + m.d * x.c = y.c * m.a + y.d * m.c
        · by_cases h4 : m.c * x.b + m.d * x.d = y.c * m.b + y.d * m.d
          · simp [key, p1, p2, p3, p4, p5, p6, p7, p8, q1, q2, q3, q4, q5, q6, q7, q8, h1, h2, h3, h4]
          · simp [key, p1, p2, p3, p4, p5, p6, p7, p8, q1, q2, q3, q4, q5, q6, q7, q8, h1, h2, h3, h4]
        · simp [key, p1, p2, p3, p4, p5, p6, p7, p8, q1, q2, q3, q4, q5, q6, q7, q8, h1, h2, h3]
      · simp [key, p1, p2, p3, p4, p5, p6, p7, p8, q1, q2, q3, q4, q5, q6, q7, q8, h1, h2]
    · simp [key, p1, p2, p3, p4, p5, p6, p7, p8, q1, q2, q3, q4, q5, q6, q7, q8, h1])
  unfold ldF
  generalize ms.map M.D = TS at *
  cases hf : ms.find? (fun m => decide (m * x = y * m)) with
  | none =>
    rw [hf] at this
    simp only [M.D] at this ⊢
    simp [f__law_leading, b__law_leading, this]
  | some m =>
    rw [hf] at this
    simp only [M.D] at this ⊢
    simp [f__law_leading, b__law_leading, this]
theorem ldF_some {ms : List M} {x y m : M} (h : ldF ms x y = some m) : m ∈ ms ∧ m * x = y * m := by
  unfold ldF at h
  have h1 := List.find?_some h
  exact ⟨List.mem_of_find?_eq_some h, of_decide_eq_true h1⟩
theorem ldF_ne {ms : List M} {x y m : M} (hm : m ∈ ms) (h : m * x = y * m) : ∃ k, ldF ms x y = some k := by
  have : (ldF ms x y).isSome = true := by
    unfold ldF
    rw [List.find?_isSome]
    exact ⟨m, hm, decide_eq_true h⟩
  exact Option.isSome_iff_exists.mp this
end Lk75
set_option maxRecDepth 100000
set_option maxHeartbeats 1000000
namespace Lk75
open PySem L2 F3
/-- cycles as this law draws them -/
structure C3 (l : List Int) : Prop where
  lo : 2 ≤ l.length
  hi : l.length ≤ 4
  ev : l.length % 2 = 0
  all : ∀ i ∈ l, 1 ≤ i ∧ i ≤ 3
theorem a0_in' {ds : List Int} {k : Nat} (hd : Dr ds) (hk : k < ds.length) : 0 ≤ a0 ds k ∧ a0 ds k < 1000003 := by
  unfold a0
  rw [List.getElem?_eq_getElem hk]
  exact hd _ (List.getElem_mem hk)
theorem c3_rot {l : List Int} (h : C3 l) (k : Nat) : C3 (rot l k) := by
  refine ⟨by rw [rot_len]; exact h.lo, by rw [rot_len]; exact h.hi, by rw [rot_len]; exact h.ev, fun i hi => ?_⟩
  unfold rot at hi
  rcases List.mem_append.mp hi with hi | hi
  · exact h.all i (List.mem_of_mem_drop hi)
  · exact h.all i (List.mem_of_mem_take hi)
theorem e_two_cycles {ds : List Int} (hd : Dr ds) (hl : ds.length = 14) : ∃ a b : List Int, f__law_two_cycles [.list (ds.map .int)] = some (.sh (.tuple [.list (a.map .int), .list (b.map .int)])) ∧ C3 a ∧ C3 b := by
  obtain ⟨n, hn, hn2, hn4, hev⟩ : ∃ n : Nat, 2 + 2 * (a0 ds 0 % 2) = (n : Int) ∧ 2 ≤ n ∧ n ≤ 4 ∧ n % 2 = 0 := ⟨(2 + 2 * (a0 ds 0 % 2)).toNat, by omega, by omega, by omega, by omega⟩
  have r : rOk (n : Int) := rOk_nat (by omega)
  obtain ⟨c, hc⟩ : ∃ c : List Int, c = (List.range n).map fun k => 1 + a0 ds (1 + k) % 3 := ⟨_, rfl⟩
  obtain ⟨c', hc'⟩ : ∃ c : List Int, c = (List.range n).map fun k => 1 + a0 ds (5 + k) % 3 := ⟨_, rfl⟩
  have hcl : c.length = n := by rw [hc, List.length_map, List.length_range]
  have hcl' : c'.length = n := by rw [hc', List.length_map, List.length_range]
  have C : C3 c := ⟨by omega, by omega, by omega, fun i hi => by
    rw [hc] at hi
    obtain ⟨k, _, rfl⟩ := List.mem_map.mp hi
    omega⟩
  have C' : C3 c' := ⟨by omega, by omega, by omega, fun i hi => by
    rw [hc'] at hi
    obtain ⟨k, _, rfl⟩ := List.mem_map.mp hi
    omega⟩
  have at_ : ∀ k : Nat, k < 14 → atI (ds.map PyData.int) (k : Int) = some (.int (a0 ds k)) := fun k hk => by rw [atI_nat', ints_at ds (by omega)]
  have e0 : (ds.map PyData.int)[0]? = some (.int (a0 ds 0)) := ints_at ds (by omega)
  have e9 : atI (ds.map PyData.int) 9 = some (.int (a0 ds 9)) := at_ 9 (by decide)
  have l1 : ∀ (y z : Option Res), lcD (gNm 4) tYesD (eBin addR (eC (.int 1)) (eBin modR (eBin ixR (eVar 0) (eBin addR (eC (.int 1)) (eVar 4))) (eC (.int 3)))) [some (.sh (.list (ds.map .int))), some (.sh (.int (n : Int))), y, z, none] (rangeD 0 1 n) = some (c.map .int) := fun y z => by
    rw [hc]
    refine lc_rng _ n fun k hk => ?_
    have e2 : atI (ds.map PyData.int) (1 + (k : Int)) = some (.int (a0 ds (1 + k))) := by
      rw [show (1 + (k : Int)) = ((1 + k : Nat) : Int) by omega]
      exact at_ _ (by omega)
    simp [e2]
  have l2 : ∀ (y z : Option Res), lcD (gNm 4) tYesD (eBin addR (eC (.int 1)) (eBin modR (eBin ixR (eVar 0) (eBin addR (eC (.int 5)) (eVar 4))) (eC (.int 3)))) [some (.sh (.list (ds.map .int))), some (.sh (.int (n : Int))), y, z, none] (rangeD 0 1 n) = some (c'.map .int) := fun y z => by
    rw [hc']
    refine lc_rng _ n fun k hk => ?_
    have e2 : atI (ds.map PyData.int) (5 + (k : Int)) = some (.int (a0 ds (5 + k))) := by
      rw [show (5 + (k : Int)) = ((5 + k : Nat) : Int) by omega]
      exact at_ _ (by omega)
    simp [e2]
  have hlen : (rangeD 0 1 n).length ≤ 1000000 := by rw [rangeD_len]; omega
  have m1 : mulOk 2 (a0 ds 0 % 2) := mulOk_of (show Bd 3 2 by decide) (show Bd 3 _ from bd_of (by omega) (by omega)) (by decide)
  have q1 : c.length - 2 + min 2 c.length ≤ 1000000 := by omega
  have rev := pick_map c none none (some (-1))
  have r2 := rot_map c 2
  by_cases k0 : a0 ds 9 % 4 = 0
  · refine ⟨c, rot c 2, ?_, C, c3_rot C 2⟩
    rw [← r2]
    simp [f__law_two_cycles, b__law_two_cycles, e0, m1, hn, r, hlen, wipeD, l1, l2, e9, k0, q1, frz1]
  · by_cases k1 : a0 ds 9 % 4 = 1
    · have P : C3 (pickD c none none (some (-1))) := ⟨by rw [rev_len c (by omega)]; omega, by rw [rev_len c (by omega)]; omega, by rw [rev_len c (by omega)]; omega, fun i hi => C.all i (pick_mem hi)⟩
      refine ⟨c, _, ?_, C, P⟩
      simp [f__law_two_cycles, b__law_two_cycles, e0, m1, hn, r, hlen, wipeD, l1, l2, e9, k1, q1, frz1, rev]
    · refine ⟨c, c', ?_, C, C'⟩
      simp [f__law_two_cycles, b__law_two_cycles, e0, m1, hn, r, hlen, wipeD, l1, l2, e9, k0, k1, q1, frz1]
end Lk75
set_option maxRecDepth 100000
set_option maxHeartbeats 1000000
namespace Lk75
open PySem L2 F3
theorem lc_map {α : Type} {elt : Rh → Option Res} {i : Nat} {ρ : Rh} {c e : α → PyData} {r : α → Res} (hr : ∀ a, (r a).shr = some (e a)) : ∀ xs : List α, (∀ a ∈ xs, elt (ρ.set i (some (.sh (c a)))) = some (r a)) → lcD (gNm i) tYesD elt ρ (xs.map c) = some (xs.map e)
  | [], _ => by simp [lcD]
  | a :: xs, h => by
    have h1 := h a List.mem_cons_self
    have h2 := lc_map hr xs fun b hb => h b (List.mem_cons_of_mem _ hb)
    simp [lcD, h1, h2, hr]
def tab (T : Nat → Nat → Bool) (i : Nat) : PyData := .list ((List.range 4).map fun k => .bool (T i k))
def tabs (T : Nat → Nat → Bool) : List PyData := (List.range 4).map (tab T)
def fours (F : Nat → M) : List PyData := (List.range 4).map fun i => (F i).D
theorem at4 {f : Nat → PyData} {i : Nat} (h : i < 4) : atI ((List.range 4).map f) (i : Int) = some (f i) := by
  rw [atI_nat', List.getElem?_map, List.getElem?_range h]
  rfl
theorem r4_get {d : PyData} (h : d ∈ rangeD 0 1 4) : ∃ k : Nat, k < 4 ∧ d = .int (k : Int) := by
  obtain ⟨k, hk⟩ := List.getElem?_of_mem h
  obtain ⟨h1, h2⟩ := rng_get hk
  exact ⟨k, h1, h2⟩
noncomputable def lB3 : Rh → Option Out := (sFo [12] (sIf (tAndD (tOf (eBin ixR (eBin ixR (eVar 9) (eVar 10)) (eVar 12))) (tAndD (tOf (eBin ixR (eBin ixR (eVar 9) (eVar 12)) (eVar 11))) (tNotD (tOf (eBin ixR (eBin ixR (eVar 9) (eVar 10)) (eVar 11))))))
  (sRet (eC (.bool false)))
  sPass))
noncomputable def lB2 : Rh → Option Out := (sFo [11, 12] (sSeq (sIf (tOrD (tOf (eBin (isR false) (eBin ixR (eBin ixR (eVar 9) (eVar 10)) (eVar 11)) (eC .none))) (tOrD (tOf (eBin neR (eBin ixR (eBin ixR (eVar 9) (eVar 10)) (eVar 11)) (eBin ixR (eBin ixR (eVar 9) (eVar 11)) (eVar 10)))) (tAndD (tOf (eBin eqR (eBin fdivR (eVar 10) (eC (.int 2))) (eBin fdivR (eVar 11) (eC (.int 2))))) (tNotD (tOf (eBin ixR (eBin ixR (eVar 9) (eVar 10)) (eVar 11)))))))
  (sRet (eC (.bool false)))
  sPass)
 (sSeq (sIf (tAndD (tOf (eBin ixR (eBin ixR (eVar 9) (eVar 10)) (eVar 11))) (tOf (eBin neR (eBin addR (eBin ixR (eBin ixR (eVar 8) (eVar 10)) (eC (.int 0))) (eBin ixR (eBin ixR (eVar 8) (eVar 10)) (eC (.int 3)))) (eBin addR (eBin ixR (eBin ixR (eVar 8) (eVar 11)) (eC (.int 0))) (eBin ixR (eBin ixR (eVar 8) (eVar 11)) (eC (.int 3)))))))
  (sRet (eC (.bool false)))
  sPass)
 (sFo [12] (sPre [12] (sFor (itRng (aCons (eC (.int 4)) aNil)) (gNm 12) lB3))))))
noncomputable def lB1 : Rh → Option Out := (sFo [10, 11, 12] (sFo [11, 12] (sPre [11, 12] (sFor (itRng (aCons (eC (.int 4)) aNil)) (gNm 11) lB2))))
theorem r4 : rngD [4] = some (rangeD 0 1 4) := by
  have h : rOk 4 := rOk_nat (n := 4) (by decide)
  rw [rngD_1 h]
  rfl
/-- what the table must be -/
structure Tb (F : Nat → M) (T : Nat → Nat → Bool) : Prop where
  sym : ∀ i k, T i k = T k i
  own : ∀ i k, i / 2 = k / 2 → i < 4 → k < 4 → T i k = true
  tr : ∀ i k, T i k = true → (F i).a + (F i).d = (F k).a + (F k).d
  trans : ∀ i j k, T i j = true → T j k = true → T i k = true
section
variable {F : Nat → M} {T : Nat → Nat → Bool} (s0 s1 s2 s3 s4 s5 s6 s7 : Option Res)
theorem lp3 (hT : Tb F T) {i k : Nat} (hi : i < 4) (hk : k < 4) : forD (gNm 12) lB3 (rangeD 0 1 4) [s0, s1, s2, s3, s4, s5, s6, s7, some (.sh (.list (fours F))), some (.bo (tabs T)), some (.sh (.int i)), some (.sh (.int k)), none, none, none, none] = some (.nx [s0, s1, s2, s3, s4, s5, s6, s7, some (.sh (.list (fours F))), some (.bo (tabs T)), some (.sh (.int i)), some (.sh (.int k)), none, none, none, none]) := by
  refine for_still _ fun d hd => ?_
  obtain ⟨j, hj, rfl⟩ := r4_get hd
  have a1 : atI (tabs T) (i : Int) = some (tab T i) := at4 hi
  have a2 : atI (tabs T) (j : Int) = some (tab T j) := at4 hj
  have b1 : ∀ x k : Nat, k < 4 → atI ((List.range 4).map fun k => PyData.bool (T x k)) (k : Int) = some (.bool (T x k)) := fun x k hk => at4 hk
  have c1 := b1 i k hk
  have c2 := b1 i j hj
  have c3 := b1 j k hk
  unfold tab at a1 a2
  have tr := hT.trans i j k
  generalize tabs T = TS at *
  generalize (List.range 4).map (fun k => PyData.bool (T i k)) = R1 at *
  generalize (List.range 4).map (fun k => PyData.bool (T j k)) = R2 at *
  generalize fours F = FS at *
  cases h1 : T i j with
  | false => simp [lB3, a1, c2, h1]
  | true =>
    cases h2 : T j k with
    | false => simp [lB3, a1, a2, c2, c3, h1, h2]
    | true =>
      have h3 := tr h1 h2
      simp [lB3, a1, a2, c1, c2, c3, h1, h2, h3]
theorem lp2 (hT : Tb F T) {i : Nat} (hi : i < 4) : forD (gNm 11) lB2 (rangeD 0 1 4) [s0, s1, s2, s3, s4, s5, s6, s7, some (.sh (.list (fours F))), some (.bo (tabs T)), some (.sh (.int i)), none, none, none, none, none] = some (.nx [s0, s1, s2, s3, s4, s5, s6, s7, some (.sh (.list (fours F))), some (.bo (tabs T)), some (.sh (.int i)), none, none, none, none, none]) := by
  refine for_still _ fun d hd => ?_
  obtain ⟨k, hk, rfl⟩ := r4_get hd
  have l3 := lp3 s0 s1 s2 s3 s4 s5 s6 s7 hT hi hk
  have a1 : atI (tabs T) (i : Int) = some (tab T i) := at4 hi
  have a2 : atI (tabs T) (k : Int) = some (tab T k) := at4 hk
  have f1 : atI (fours F) (i : Int) = some (F i).D := at4 hi
  have f2 : atI (fours F) (k : Int) = some (F k).D := at4 hk
  have b1 : ∀ x k : Nat, k < 4 → atI ((List.range 4).map fun k => PyData.bool (T x k)) (k : Int) = some (.bool (T x k)) := fun x k hk => at4 hk
  have c1 := b1 i k hk
  have c2 := b1 k i hi
  rw [hT.sym k i] at c2
  have d2 : divOk 2 := divOk_of (n := 20) (by decide) (by decide) (by decide)
  have ow := hT.own i k
  have tr := hT.tr i k
  unfold tab at a1 a2
  unfold M.D at f1 f2
  generalize tabs T = TS at *
  generalize (List.range 4).map (fun k => PyData.bool (T i k)) = R1 at *
  generalize (List.range 4).map (fun j => PyData.bool (T k j)) = R2 at *
  generalize fours F = FS at *
  cases h1 : T i k with
  | false =>
    have : ¬ ((i : Int) / 2 = (k : Int) / 2) := fun z => by
      have := ow (by omega) hi hk
      rw [h1] at this
      cases this
    simp [lB2, a1, a2, c1, c2, h1, d2, this, r4, l3, eqD, PyData.eqv]
  | true =>
    have := tr h1
    simp [lB2, a1, a2, c1, c2, h1, d2, f1, f2, this, r4, l3, eqD, PyData.eqv]
theorem lp1 (hT : Tb F T) : forD (gNm 10) lB1 (rangeD 0 1 4) [s0, s1, s2, s3, s4, s5, s6, s7, some (.sh (.list (fours F))), some (.bo (tabs T)), none, none, none, none, none, none] = some (.nx [s0, s1, s2, s3, s4, s5, s6, s7, some (.sh (.list (fours F))), some (.bo (tabs T)), none, none, none, none, none, none]) := by
  refine for_still _ fun d hd => ?_
  obtain ⟨i, hi, rfl⟩ := r4_get hd
  have l2 := lp2 s0 s1 s2 s3 s4 s5 s6 s7 hT hi
  generalize tabs T = TS at *
  generalize fours F = FS at *
  simp [lB1, r4, l2]
end
end Lk75
set_option maxRecDepth 100000
set_option maxHeartbeats 1000000
namespace Lk75
open PySem L2 F3
noncomputable def lC : Rh → Option Out := (sFo [10, 11, 13] (sSeq (sFrz [4] (sSet 13 (eFn f__law_leading (aCons (eVar 4) (aCons (eBin ixR (eVar 8) (eVar 10)) (aCons (eBin ixR (eVar 8) (eVar 11)) aNil))))))
 (sIf (tAndD (tOf (eBin (isR true) (eVar 13) (eC .none))) (tOrD (tNotD (tOf (eBin ixR (eBin ixR (eVar 9) (eVar 10)) (eVar 11)))) (tOf (eBin (isR true) (eFn f_shows_one (aCons (eBin ixR (eVar 8) (eVar 10)) (aCons (eBin ixR (eVar 8) (eVar 11)) (aCons (eTup (aCons (eC (.str "one")) (aCons (eVar 13) aNil))) aNil)))) (eC (.bool true))))))
  (sRet (eC (.bool false)))
  sPass)))
noncomputable def lG : PyData → Rh → Option Rh := (gTp (gsC (gNm 10) (gsC (gNm 11) gsN)))
/-- the law's four turns -/
structure Four (ms : List M) (F : Nat → M) (T : Nat → Nat → Bool) : Prop where
  ms : ∀ m ∈ ms, T3 m
  bd : ∀ i, (F i).bd 100
  kd : ∀ i k, T i k = true ↔ Kd1 (F i) (F k)
theorem T3.gd {m : M} (h : T3 m) : Gd m.D := (sd_M h.bd (by decide)).gd (by decide) (by decide)
section
variable {ms : List M} {F : Nat → M} {T : Nat → Nat → Bool} (s0 s1 s2 s3 s5 s6 s7 : Option Res)
theorem lC_ok (h : Four ms F T) {i k : Nat} (hi : i < 4) (hk : k < 4) (X : Res) (hX : X = .bo (ms.map M.D) ∨ X = .sh (.list (ms.map M.D))) :
    (lG (.tuple [.int i, .int k]) [s0, s1, s2, s3, some X, s5, s6, s7, some (.sh (.list (fours F))), some (.bo (tabs T)), none, none, none, none, none, none]).bind lC = some (.nx [s0, s1, s2, s3, some (.sh (.list (ms.map M.D))), s5, s6, s7, some (.sh (.list (fours F))), some (.bo (tabs T)), none, none, none, none, none, none]) := by
  have a1 : atI (tabs T) (i : Int) = some (tab T i) := at4 hi
  have f1 : atI (fours F) (i : Int) = some (F i).D := at4 hi
  have f2 : atI (fours F) (k : Int) = some (F k).D := at4 hk
  have c1 : atI ((List.range 4).map fun k => PyData.bool (T i k)) (k : Int) = some (.bool (T i k)) := at4 hk
  have e := e_leading h.ms (h.bd i) (h.bd k)
  have kd := h.kd i k
  unfold tab at a1
  have hs : frz1 [s0, s1, s2, s3, some X, s5, s6, s7, some (.sh (.list (fours F))), some (.bo (tabs T)), some (.sh (.int i)), some (.sh (.int k)), none, none, none, none] 4 = [s0, s1, s2, s3, some (.sh (.list (ms.map M.D))), s5, s6, s7, some (.sh (.list (fours F))), some (.bo (tabs T)), some (.sh (.int i)), some (.sh (.int k)), none, none, none, none] := by
    rcases hX with rfl | rfl <;> rfl
  cases hl : ldF ms (F i) (F k) with
  | none =>
    rw [hl] at e
    generalize tabs T = TS at *
    generalize fours F = FS at *
    generalize (F i).D = FI at *
    generalize (F k).D = FK at *
    generalize ms.map M.D = MS at *
    simp [lC, lG, hs, f1, f2, e]
  | some m =>
    rw [hl] at e
    change _ = some (Res.sh m.D) at e
    obtain ⟨hm, lead⟩ := ldF_some hl
    have hm3 := h.ms m hm
    have t : T i k = true := kd.mpr ⟨m, hm3.det, lead⟩
    rw [t] at c1
    obtain ⟨o1, _⟩ := one_at ((h.bd i).mono (show 100 ≤ 1000 by decide)) ((h.bd k).mono (show 100 ≤ 1000 by decide)) (hm3.bd.mono (by decide)) hm3.gd hm3.det
    rw [decide_eq_true lead] at o1
    have hn : Res.isNone (.sh m.D) = false := rfl
    generalize tabs T = TS at *
    generalize fours F = FS at *
    generalize (List.range 4).map (fun k => PyData.bool (T i k)) = R1 at *
    generalize (F i).D = FI at *
    generalize (F k).D = FK at *
    generalize m.D = MD at *
    generalize ms.map M.D = MS at *
    simp [lC, lG, hs, f1, f2, e, a1, c1, o1, hn]
def prs : List (Nat × Nat) := [(0, 1), (0, 2), (1, 2), (2, 3), (0, 3)]
theorem lC_all (h : Four ms F T) : forD lG lC (prs.map fun p => .tuple [.int p.1, .int p.2]) [s0, s1, s2, s3, some (.bo (ms.map M.D)), s5, s6, s7, some (.sh (.list (fours F))), some (.bo (tabs T)), none, none, none, none, none, none] = some (.nx [s0, s1, s2, s3, some (.sh (.list (ms.map M.D))), s5, s6, s7, some (.sh (.list (fours F))), some (.bo (tabs T)), none, none, none, none, none, none]) := by
  have gen : ∀ (ps : List (Nat × Nat)), (∀ p ∈ ps, p.1 < 4 ∧ p.2 < 4) → forD lG lC (ps.map fun p => .tuple [.int p.1, .int p.2]) [s0, s1, s2, s3, some (.sh (.list (ms.map M.D))), s5, s6, s7, some (.sh (.list (fours F))), some (.bo (tabs T)), none, none, none, none, none, none] = some (.nx [s0, s1, s2, s3, some (.sh (.list (ms.map M.D))), s5, s6, s7, some (.sh (.list (fours F))), some (.bo (tabs T)), none, none, none, none, none, none]) := fun ps hp => by
    refine for_still _ fun d hd => ?_
    obtain ⟨p, hp', rfl⟩ := List.mem_map.mp hd
    exact lC_ok s0 s1 s2 s3 s5 s6 s7 h (hp p hp').1 (hp p hp').2 _ (.inr rfl)
  unfold prs
  rw [List.map_cons, forD]
  obtain ⟨ρ1, e1, e2⟩ := bind_some (lC_ok s0 s1 s2 s3 s5 s6 s7 h (i := 0) (k := 1) (by decide) (by decide) _ (.inl rfl))
  rw [e1, Option.bind_some, e2, Option.bind_some]
  exact gen _ (by decide)
end
noncomputable def lT : Rh → Option Out := (sSeq (sFrz [4] (sIf (tOrD (tOf (eBin neR (eBin ixR (eBin ixR (eVar 9) (eC (.int 0))) (eC (.int 2))) (eFn f__law_meet (aCons (eVar 2) (aCons (eVar 3) aNil))))) (tOf (eBin (isR false) (eFn f__law_leading (aCons (eVar 4) (aCons (eBin ixR (eVar 8) (eC (.int 0))) (aCons (eBin ixR (eVar 8) (eC (.int 1))) aNil)))) (eC .none))))
  (sRet (eC (.bool false)))
  sPass))
 (sRet (eBin (isR false) (eFn f_shows_one (aCons (eBin ixR (eVar 8) (eC (.int 0))) (aCons (eBin ixR (eVar 8) (eC (.int 1))) (aCons (eTup (aCons (eC (.str "one")) (aCons (eBin ixR (eVar 5) (eC (.int 0))) aNil))) aNil)))) (eC (.bool true)))))
theorem lT_ok {ms : List M} {F : Nat → M} {T : Nat → Nat → Bool} (s0 s1 s6 s7 : Option Res) (h : Four ms F T) {a b : List Int} {g g' : M} (hl : a.length ≤ 1000) (hm : T 0 2 = (mt a b).isSome) (hg : g ∈ ms) (lead : g * F 0 = F 1 * g) :
    finD (lT [s0, s1, some (.sh (.list (a.map .int))), some (.sh (.list (b.map .int))), some (.sh (.list (ms.map M.D))), some (.bo [g.D, g'.D]), s6, s7, some (.sh (.list (fours F))), some (.bo (tabs T)), none, none, none, none, none, none]) = some (.sh (.bool true)) := by
  have a1 : (tabs T)[0]? = some (tab T 0) := rfl
  have c1 : ((List.range 4).map fun k => PyData.bool (T 0 k))[2]? = some (.bool (T 0 2)) := rfl
  have f1 : (fours F)[0]? = some (F 0).D := rfl
  have f2 : (fours F)[1]? = some (F 1).D := rfl
  have e := e_leading h.ms (h.bd 0) (h.bd 1)
  obtain ⟨m, hl'⟩ := ldF_ne hg lead
  rw [hl'] at e
  change _ = some (Res.sh m.D) at e
  have em := e_law_meet a b hl
  rw [← hm] at em
  have hm3 := h.ms g hg
  obtain ⟨o1, _⟩ := one_at ((h.bd 0).mono (show 100 ≤ 1000 by decide)) ((h.bd 1).mono (show 100 ≤ 1000 by decide)) (hm3.bd.mono (by decide)) hm3.gd hm3.det
  rw [decide_eq_true lead] at o1
  have hn : Res.isNone (.sh m.D) = false := rfl
  unfold tab at a1
  generalize tabs T = TS at *
  generalize fours F = FS at *
  generalize (List.range 4).map (fun k => PyData.bool (T 0 k)) = R1 at *
  generalize (F 0).D = FI at *
  generalize (F 1).D = FK at *
  generalize g.D = GD at *
  generalize m.D = MD at *
  generalize ms.map M.D = MS at *
  generalize T 0 2 = tt at *
  have q : eqD (.bool tt) (.bool tt) = some true := by cases tt <;> rfl
  simp [lT, a1, c1, f1, f2, e, em, o1, hn, q]
end Lk75
set_option maxRecDepth 100000
set_option maxHeartbeats 1000000
namespace Lk75
open PySem L2 F3
theorem C3.bd2 {l : List Int} (h : C3 l) : ∀ i ∈ l, Bd 2 i := fun i hi => by
  have := h.all i hi
  unfold Bd
  omega
theorem C3.ev' {l : List Int} (h : C3 l) : Ev l := ⟨fun t ht => (h.all t ht).1, h.ev⟩
theorem C3.ne {l : List Int} (h : C3 l) : l ≠ [] := fun z => by
  have := h.lo
  rw [z] at this
  simp at this
theorem C3.cy {l : List Int} (h : C3 l) : Cy l := ⟨h.lo, by have := h.hi; omega, h.ev, fun i hi => by have := h.all i hi; omega⟩
theorem C3.cyc {l : List Int} (h : C3 l) : (cyc l).bd 17 := (cyc_bd h.bd2).mono (by have := h.hi; omega)
theorem small_of {m : M} (h : m.bd 24) : small m := by
  obtain ⟨h1, h2, h3, h4⟩ := h
  have e : (2 : Int) ^ 24 = 16777216 := by decide
  have := h1.lt; have := h1.gt; have := h2.lt; have := h2.gt; have := h3.lt; have := h3.gt; have := h4.lt; have := h4.gt
  unfold small
  rw [e] at *
  refine ⟨?_, ?_, ?_, ?_, ?_, ?_, ?_, ?_⟩ <;> omega
/-- the four turns -/
def four4 (a b : List Int) (g h : M) : Nat → M
  | 0 => cyc a
  | 1 => M.by_ g (cyc a)
  | 2 => cyc b
  | _ => M.by_ h (cyc b)
open Classical in
theorem law_data (ns : List Int) (_ : ns.length ≤ 63) : f_law [.list (ns.map .int)] = some (.sh (.bool true)) := by
  obtain ⟨ds, e1, hl, hd⟩ := e_draws ns
  obtain ⟨a, b, e2, A, B⟩ := e_two_cycles hd hl
  obtain ⟨tsD, e3, t3, tl, tn⟩ := e_turns
  obtain ⟨ms, rfl, hms⟩ := t3.ms
  rw [List.length_map] at tl
  have mn : 0 < ms.length := by
    cases ms with
    | nil => exact absurd rfl tn
    | cons m ms => simp
  have pick : ∀ k : Nat, k < 14 → ∃ m ∈ ms, atI (ms.map M.D) (a0 ds k % (ms.length : Int)) = some m.D := fun k hk => by
    have h0 := a0_in' hd (show k < ds.length by omega)
    have h1 := Int.emod_nonneg (a0 ds k) (show (ms.length : Int) ≠ 0 by omega)
    have h2 := Int.emod_lt_of_pos (a0 ds k) (show 0 < (ms.length : Int) by omega)
    obtain ⟨j, hj⟩ : ∃ j : Nat, a0 ds k % (ms.length : Int) = (j : Int) := ⟨(a0 ds k % (ms.length : Int)).toNat, by omega⟩
    rw [hj, atI_nat', List.getElem?_map, List.getElem?_eq_getElem (show j < ms.length by omega)]
    exact ⟨_, List.getElem_mem _, rfl⟩
  obtain ⟨g, hg, eg⟩ := pick 10 (by decide)
  obtain ⟨h, hh, eh⟩ := pick 11 (by decide)
  have G := hms g hg
  have H := hms h hh
  have at_ : ∀ k : Nat, k < 14 → atI (ds.map PyData.int) (k : Int) = some (.int (a0 ds k)) := fun k hk => by rw [atI_nat', ints_at ds (by omega)]
  have d10 : atI (ds.map PyData.int) 10 = some (.int (a0 ds 10)) := at_ 10 (by decide)
  have d11 : atI (ds.map PyData.int) 11 = some (.int (a0 ds 11)) := at_ 11 (by decide)
  have ca := e_law_cycle_turn A.bd2 (by have := A.hi; omega) (by have := A.hi; omega)
  have cb := e_law_cycle_turn B.bd2 (by have := B.hi; omega) (by have := B.hi; omega)
  have ga := e_law_by A.cyc G.bd (by decide)
  have hb := e_law_by B.cyc H.bd (by decide)
  have F : Four ms (four4 a b g h) (fun i k => decide (Kd1 (four4 a b g h i) (four4 a b g h k))) := ⟨hms, fun i => by
    match i with
    | 0 => exact A.cyc.mono (by decide)
    | 1 => exact (M.bd.by_ G.bd A.cyc).mono (by decide)
    | 2 => exact B.cyc.mono (by decide)
    | _ + 3 => exact (M.bd.by_ H.bd B.cyc).mono (by decide), fun i k => decide_eq_true_iff⟩
  have lead0 : g * four4 a b g h 0 = four4 a b g h 1 * g := M.by_lead G.det
  have kd := fun i k => F.kd i k
  have hdet : ∀ i, (four4 a b g h i).det = 1 := fun i => by
    match i with
    | 0 => exact cyc_det a
    | 1 => exact (M.by_det G.det _).trans (cyc_det a)
    | 2 => exact cyc_det b
    | _ + 3 => exact (M.by_det H.det _).trans (cyc_det b)
  have htr : ∀ i, 3 ≤ (four4 a b g h i).tr := fun i => by
    match i with
    | 0 => exact tr_cyc A.cy
    | 1 => show 3 ≤ (M.by_ g (cyc a)).tr; rw [M.by_tr G.det]; exact tr_cyc A.cy
    | 2 => exact tr_cyc B.cy
    | _ + 3 => show 3 ≤ (M.by_ h (cyc b)).tr; rw [M.by_tr H.det]; exact tr_cyc B.cy
  have hsm : ∀ i, small (four4 a b g h i) := fun i => by
    match i with
    | 0 => exact small_of (A.cyc.mono (by decide))
    | 1 => exact small_of ((M.bd.by_ G.bd A.cyc).mono (by decide))
    | 2 => exact small_of (B.cyc.mono (by decide))
    | _ + 3 => exact small_of ((M.bd.by_ H.bd B.cyc).mono (by decide))
  have own : ∀ i k : Nat, i / 2 = k / 2 → i < 4 → k < 4 → Kd1 (four4 a b g h i) (four4 a b g h k) := fun i k e hi hk => by
    have k01 : Kd1 (cyc a) (M.by_ g (cyc a)) := Kd1.by_ G.det _
    have k23 : Kd1 (cyc b) (M.by_ h (cyc b)) := Kd1.by_ H.det _
    match i, k, e, hi, hk with
    | 0, 0, _, _, _ => exact Kd1.refl _
    | 0, 1, _, _, _ => exact k01
    | 1, 0, _, _, _ => exact k01.symm
    | 1, 1, _, _, _ => exact Kd1.refl _
    | 2, 2, _, _, _ => exact Kd1.refl _
    | 2, 3, _, _, _ => exact k23
    | 3, 2, _, _, _ => exact k23.symm
    | 3, 3, _, _, _ => exact Kd1.refl _
    | 0, k + 2, e, _, _ => omega
    | 1, k + 2, e, _, _ => omega
    | i + 2, 0, e, _, _ => omega
    | i + 2, 1, e, _, _ => omega
    | i + 4, _, _, hi, _ => omega
    | 2, k + 4, _, _, hk => omega
    | 3, k + 4, _, _, hk => omega
  have T : Tb (four4 a b g h) (fun i k => decide (Kd1 (four4 a b g h i) (four4 a b g h k))) := ⟨fun i k => by
      rw [Bool.eq_iff_iff, decide_eq_true_eq, decide_eq_true_eq]
      exact ⟨Kd1.symm, Kd1.symm⟩, fun i k e hi hk => decide_eq_true (own i k e hi hk), fun i k e => (of_decide_eq_true e).tr, fun i j k e f => decide_eq_true ((of_decide_eq_true e).trans (of_decide_eq_true f))⟩
  have one : ∀ i k, f__law_is_one [(four4 a b g h i).D, (four4 a b g h k).D] = some (.sh (.bool (decide (Kd1 (four4 a b g h i) (four4 a b g h k))))) := fun i k =>
    e_kind ((F.bd i).mono (by decide)) ((F.bd k).mono (by decide)) (hdet i) (hdet k) (htr i) (htr k) (hsm i) (hsm k)
  have hm : (fun i k => decide (Kd1 (four4 a b g h i) (four4 a b g h k))) 0 2 = (mt a b).isSome := by
    rw [Bool.eq_iff_iff, mt_iff A.ev' B.ev' A.ne B.ne]
    exact decide_eq_true_iff
  have hal : a.length ≤ 1000 := by have := A.hi; omega
  obtain ⟨s0, hs0⟩ : ∃ s : Option Res, s = some (.sh (.list (ns.map .int))) := ⟨_, rfl⟩
  obtain ⟨s1, hs1⟩ : ∃ s : Option Res, s = some (.sh (.list (ds.map .int))) := ⟨_, rfl⟩
  obtain ⟨s2, hs2⟩ : ∃ s : Option Res, s = some (.sh (.list (a.map .int))) := ⟨_, rfl⟩
  obtain ⟨s3, hs3⟩ : ∃ s : Option Res, s = some (.sh (.list (b.map .int))) := ⟨_, rfl⟩
  obtain ⟨s5, hs5⟩ : ∃ s : Option Res, s = some (.bo [g.D, h.D]) := ⟨_, rfl⟩
  obtain ⟨s6, hs6⟩ : ∃ s : Option Res, s = some (.sh (cyc a).D) := ⟨_, rfl⟩
  obtain ⟨s7, hs7⟩ : ∃ s : Option Res, s = some (.sh (cyc b).D) := ⟨_, rfl⟩
  have l1 := lp1 s0 s1 s2 s3 (some (.bo (ms.map M.D))) s5 s6 s7 T
  have l2 := lC_all s0 s1 s2 s3 s5 s6 s7 F
  have l3 := lT_ok (g' := h) s0 s1 s6 s7 F hal hm hg lead0
  rw [← hs2, ← hs3, ← hs5] at l3
  have hFo : fours (four4 a b g h) = [(cyc a).D, (M.by_ g (cyc a)).D, (cyc b).D, (M.by_ h (cyc b)).D] := rfl
  have inner : ∀ i, lcD (gNm 15) tYesD (eFn f__law_is_one (aCons (eVar 14) (aCons (eVar 15) aNil))) [s0, s1, s2, s3, some (.bo (ms.map M.D)), s5, s6, s7, some (.sh (.list (fours (four4 a b g h)))), none, none, none, none, none, some (.sh (four4 a b g h i).D), none] (fours (four4 a b g h)) = some ((List.range 4).map fun k => .bool (decide (Kd1 (four4 a b g h i) (four4 a b g h k)))) := fun i => by
    refine lc_map (r := fun k => .sh (.bool (decide (Kd1 (four4 a b g h i) (four4 a b g h k))))) (fun _ => rfl) _ fun k _ => ?_
    have := one i k
    generalize fours (four4 a b g h) = FS at *
    simp [this]
  have l4 : (fours (four4 a b g h)).length ≤ 1000000 := by show (4 : Nat) ≤ 1000000; decide
  have outer : lcD (gNm 14) tYesD (eLc (itSeq (eVar 8)) (gNm 15) tYesD (eFn f__law_is_one (aCons (eVar 14) (aCons (eVar 15) aNil))) [15]) [s0, s1, s2, s3, some (.bo (ms.map M.D)), s5, s6, s7, some (.sh (.list (fours (four4 a b g h)))), none, none, none, none, none, none, none] (fours (four4 a b g h)) = some (tabs fun i k => decide (Kd1 (four4 a b g h i) (four4 a b g h k))) := by
    refine lc_map (r := fun i => .fr ((List.range 4).map fun k => .bool (decide (Kd1 (four4 a b g h i) (four4 a b g h k))))) (fun _ => rfl) _ fun i _ => ?_
    have := inner i
    generalize fours (four4 a b g h) = FS at *
    simp [l4, wipeD, this]
  unfold f_law
  rw [fnD_1]
  have hb0 : b_law = (sSeq (sSet 1 (eFn f__law_draws (aCons (eVar 0) (aCons (eC (.int 14)) aNil))))
 (sSeq (sFrz [1] (sUnp (gTp (gsC (gNm 2) (gsC (gNm 3) gsN))) (eFn f__law_two_cycles (aCons (eVar 1) aNil))))
 (sSeq (sSet 4 (eFn f__law_turns aNil))
 (sSeq (sSet 5 (eLst (aCons (eBin ixR (eVar 4) (eBin modR (eBin ixR (eVar 1) (eC (.int 10))) (eCall (on1 lenR) (aCons (eVar 4) aNil)))) (aCons (eBin ixR (eVar 4) (eBin modR (eBin ixR (eVar 1) (eC (.int 11))) (eCall (on1 lenR) (aCons (eVar 4) aNil)))) aNil))))
 (sSeq (sSet 6 (eFn f__law_cycle_turn (aCons (eVar 2) aNil)))
 (sSeq (sSet 7 (eFn f__law_cycle_turn (aCons (eVar 3) aNil)))
 (sSeq (sSet 8 (eLst (aCons (eVar 6) (aCons (eFn f__law_by (aCons (eBin ixR (eVar 5) (eC (.int 0))) (aCons (eVar 6) aNil))) (aCons (eVar 7) (aCons (eFn f__law_by (aCons (eBin ixR (eVar 5) (eC (.int 1))) (aCons (eVar 7) aNil))) aNil))))))
 (sSeq (sFrz [8] (sSet 9 (eLc (itSeq (eVar 8)) (gNm 14) tYesD (eLc (itSeq (eVar 8)) (gNm 15) tYesD (eFn f__law_is_one (aCons (eVar 14) (aCons (eVar 15) aNil))) [15]) [14])))
 (sSeq (sFo [10, 11, 12] (sPre [10, 11, 12] (sFor (itRng (aCons (eC (.int 4)) aNil)) (gNm 10) lB1)))
 (sSeq (sFo [10, 11, 13] (sPre [10, 11, 13] (sFor (itSeq (eLst (aCons (eTup (aCons (eC (.int 0)) (aCons (eC (.int 1)) aNil))) (aCons (eTup (aCons (eC (.int 0)) (aCons (eC (.int 2)) aNil))) (aCons (eTup (aCons (eC (.int 1)) (aCons (eC (.int 2)) aNil))) (aCons (eTup (aCons (eC (.int 2)) (aCons (eC (.int 3)) aNil))) (aCons (eTup (aCons (eC (.int 0)) (aCons (eC (.int 3)) aNil))) aNil))))))) lG lC)))
 lT)))))))))) := rfl
  have mpos : 0 < (ms.length : Int) := by omega
  change forD lG lC [.tuple [.int 0, .int 1], .tuple [.int 0, .int 2], .tuple [.int 1, .int 2], .tuple [.int 2, .int 3], .tuple [.int 0, .int 3]] _ = _ at l2
  generalize hTT : (fun i k => decide (Kd1 (four4 a b g h i) (four4 a b g h k))) = TT at *
  generalize tabs TT = TS at *
  generalize fours (four4 a b g h) = FS at *
  generalize lB1 = B1 at *
  generalize lC = BC at *
  generalize lG = BG at *
  generalize lT = BT at *
  have ha : (cyc a).D = (cyc a).D := rfl
  generalize (M.by_ g (cyc a)).D = X1 at *
  generalize (M.by_ h (cyc b)).D = X3 at *
  generalize (cyc a).D = X0 at *
  generalize (cyc b).D = X2 at *
  generalize g.D = GD at *
  generalize h.D = HD at *
  have hlen : (ms.map M.D).length = ms.length := List.length_map _
  generalize ms.map M.D = MS at *
  rw [hb0]
  simp [e1, e2, e3, d10, d11, hlen, mn, eg, eh, ca, cb, ga, hb, frz1]
  rw [← hs0, ← hs1]
  simp only [← hs0, ← hs1, ← hs2, ← hs3, ← hs5, ← hs6, ← hs7, ← hFo]
  simp [outer, l4, wipeD, r4, l1, l2, l3]
end Lk75
set_option maxRecDepth 100000
set_option maxHeartbeats 8000000
namespace Lk75
open PySem PySem.Spec PyProof.Rows L2 F3
theorem all_mk {l : PySem.W.OpenLaw} {w : World} {K : PySem.W.Frag} {h : Heap} {mg : Str → Option Value} {fa : Addr} (X : K.In h) (G : h.Ns mainGlobals mg) (hfa : mg "law" = some (.ref fa))
    {f0 : Addr} {od0 an0 : Option Addr} {sl0 : Array (Option Value)} {oc0 kV0 dc0 pm0 cd0 ct0 : Value}
    {f1 : Addr} {od1 an1 : Option Addr} {sl1 : Array (Option Value)} {oc1 kV1 dc1 pm1 cd1 ct1 : Value}
    {f2 : Addr} {od2 an2 : Option Addr} {sl2 : Array (Option Value)} {oc2 kV2 dc2 pm2 cd2 ct2 : Value}
    {f3 : Addr} {od3 an3 : Option Addr} {sl3 : Array (Option Value)} {oc3 kV3 dc3 pm3 cd3 ct3 : Value}
    {f4 : Addr} {od4 an4 : Option Addr} {sl4 : Array (Option Value)} {oc4 kV4 dc4 pm4 cd4 ct4 : Value}
    {f5 : Addr} {od5 an5 : Option Addr} {sl5 : Array (Option Value)} {oc5 kV5 dc5 pm5 cd5 ct5 : Value}
    {f6 : Addr} {od6 an6 : Option Addr} {sl6 : Array (Option Value)} {oc6 kV6 dc6 pm6 cd6 ct6 : Value}
    {f7 : Addr} {od7 an7 : Option Addr} {sl7 : Array (Option Value)} {oc7 kV7 dc7 pm7 cd7 ct7 : Value}
    {f8 : Addr} {od8 an8 : Option Addr} {sl8 : Array (Option Value)} {oc8 kV8 dc8 pm8 cd8 ct8 : Value}
    {f9 : Addr} {od9 an9 : Option Addr} {sl9 : Array (Option Value)} {oc9 kV9 dc9 pm9 cd9 ct9 : Value}
    {f10 : Addr} {od10 an10 : Option Addr} {sl10 : Array (Option Value)} {oc10 kV10 dc10 pm10 cd10 ct10 : Value}
    {f11 : Addr} {od11 an11 : Option Addr} {sl11 : Array (Option Value)} {oc11 kV11 dc11 pm11 cd11 ct11 : Value}
    {f12 : Addr} {od12 an12 : Option Addr} {sl12 : Array (Option Value)} {oc12 kV12 dc12 pm12 cd12 ct12 : Value}
    {f13 : Addr} {od13 an13 : Option Addr} {sl13 : Array (Option Value)} {oc13 kV13 dc13 pm13 cd13 ct13 : Value}
    {f14 : Addr} {od14 an14 : Option Addr} {sl14 : Array (Option Value)} {oc14 kV14 dc14 pm14 cd14 ct14 : Value}
    {f15 : Addr} {od15 an15 : Option Addr} {sl15 : Array (Option Value)} {oc15 kV15 dc15 pm15 cd15 ct15 : Value}
    {f16 : Addr} {od16 an16 : Option Addr} {sl16 : Array (Option Value)} {oc16 kV16 dc16 pm16 cd16 ct16 : Value}
    {f17 : Addr} {od17 an17 : Option Addr} {sl17 : Array (Option Value)} {oc17 kV17 dc17 pm17 cd17 ct17 : Value}
    {f18 : Addr} {od18 an18 : Option Addr} {sl18 : Array (Option Value)} {oc18 kV18 dc18 pm18 cd18 ct18 : Value}
    {f19 : Addr} {od19 an19 : Option Addr} {sl19 : Array (Option Value)} {oc19 kV19 dc19 pm19 cd19 ct19 : Value}
    {f20 : Addr} {od20 an20 : Option Addr} {sl20 : Array (Option Value)} {oc20 kV20 dc20 pm20 cd20 ct20 : Value}
    {f21 : Addr} {od21 an21 : Option Addr} {sl21 : Array (Option Value)} {oc21 kV21 dc21 pm21 cd21 ct21 : Value}
    {f22 : Addr} {od22 an22 : Option Addr} {sl22 : Array (Option Value)} {oc22 kV22 dc22 pm22 cd22 ct22 : Value}
    {f23 : Addr} {od23 an23 : Option Addr} {sl23 : Array (Option Value)} {oc23 kV23 dc23 pm23 cd23 ct23 : Value}
    {f24 : Addr} {od24 an24 : Option Addr} {sl24 : Array (Option Value)} {oc24 kV24 dc24 pm24 cd24 ct24 : Value}
    {f25 : Addr} {od25 an25 : Option Addr} {sl25 : Array (Option Value)} {oc25 kV25 dc25 pm25 cd25 ct25 : Value}
    {f26 : Addr} {od26 an26 : Option Addr} {sl26 : Array (Option Value)} {oc26 kV26 dc26 pm26 cd26 ct26 : Value}
    {f27 : Addr} {od27 an27 : Option Addr} {sl27 : Array (Option Value)} {oc27 kV27 dc27 pm27 cd27 ct27 : Value}
    {f28 : Addr} {od28 an28 : Option Addr} {sl28 : Array (Option Value)} {oc28 kV28 dc28 pm28 cd28 ct28 : Value}
    {f29 : Addr} {od29 an29 : Option Addr} {sl29 : Array (Option Value)} {oc29 kV29 dc29 pm29 cd29 ct29 : Value}
    {f30 : Addr} {od30 an30 : Option Addr} {sl30 : Array (Option Value)} {oc30 kV30 dc30 pm30 cd30 ct30 : Value}
    {f31 : Addr} {od31 an31 : Option Addr} {sl31 : Array (Option Value)} {oc31 kV31 dc31 pm31 cd31 ct31 : Value}
    {f32 : Addr} {od32 an32 : Option Addr} {sl32 : Array (Option Value)} {oc32 kV32 dc32 pm32 cd32 ct32 : Value}
    {f33 : Addr} {od33 an33 : Option Addr} {sl33 : Array (Option Value)} {oc33 kV33 dc33 pm33 cd33 ct33 : Value}
    {f34 : Addr} {od34 an34 : Option Addr} {sl34 : Array (Option Value)} {oc34 kV34 dc34 pm34 cd34 ct34 : Value}
    {f35 : Addr} {od35 an35 : Option Addr} {sl35 : Array (Option Value)} {oc35 kV35 dc35 pm35 cd35 ct35 : Value}
    {f36 : Addr} {od36 an36 : Option Addr} {sl36 : Array (Option Value)} {oc36 kV36 dc36 pm36 cd36 ct36 : Value}
    {f37 : Addr} {od37 an37 : Option Addr} {sl37 : Array (Option Value)} {oc37 kV37 dc37 pm37 cd37 ct37 : Value}
    {f38 : Addr} {od38 an38 : Option Addr} {sl38 : Array (Option Value)} {oc38 kV38 dc38 pm38 cd38 ct38 : Value}
    {f39 : Addr} {od39 an39 : Option Addr} {sl39 : Array (Option Value)} {oc39 kV39 dc39 pm39 cd39 ct39 : Value}
    {f40 : Addr} {od40 an40 : Option Addr} {sl40 : Array (Option Value)} {oc40 kV40 dc40 pm40 cd40 ct40 : Value}
    {t0_0 : Tok}
    {t0_1 : Tok}
    {t0_2 : Tok}
    {t0_3 : Tok}
    {q0 : Addr} {qo0 : Option Addr} {qn0 : Nat} {qs0 : Array (Option Value)}
    {t1_0 : Tok}
    {t1_1 : Tok}
    {t1_2 : Tok}
    {t1_3 : Tok}
    {q1 : Addr} {qo1 : Option Addr} {qn1 : Nat} {qs1 : Array (Option Value)}
    (a0 : PySem.W.nsIn K mainGlobals "nearest" = some (some (.ref f0))) (l0 : K.lookup f0 = some ⟨oc0, od0, .func (PySem.W.fnOf "nearest" "nearest" (defArgs s_nearest) (defBody s_nearest) (defScope s_nearest) .none kV0 dc0 pm0 an0 cd0 ct0), sl0⟩)
    (c0 : PySem.W.codeIn K cd0 "nearest" = true) (k0 : PySem.W.keepIn K (.ref f0) = true)
    (a1 : PySem.W.nsIn K mainGlobals "is_number" = some (some (.ref f1))) (l1 : K.lookup f1 = some ⟨oc1, od1, .func (PySem.W.fnOf "is_number" "is_number" (defArgs s_is_number) (defBody s_is_number) (defScope s_is_number) .none kV1 dc1 pm1 an1 cd1 ct1), sl1⟩)
    (c1 : PySem.W.codeIn K cd1 "is_number" = true) (k1 : PySem.W.keepIn K (.ref f1) = true)
    (a2 : PySem.W.nsIn K mainGlobals "is_number_tuple" = some (some (.ref f2))) (l2 : K.lookup f2 = some ⟨oc2, od2, .func (PySem.W.fnOf "is_number_tuple" "is_number_tuple" (defArgs s_is_number_tuple) (defBody s_is_number_tuple) (defScope s_is_number_tuple) .none kV2 dc2 pm2 an2 cd2 ct2), sl2⟩)
    (c2 : PySem.W.codeIn K cd2 "is_number_tuple" = true) (k2 : PySem.W.keepIn K (.ref f2) = true)
    (a3 : PySem.W.nsIn K mainGlobals "is_tagged" = some (some (.ref f3))) (l3 : K.lookup f3 = some ⟨oc3, od3, .func (PySem.W.fnOf "is_tagged" "is_tagged" (defArgs s_is_tagged) (defBody s_is_tagged) (defScope s_is_tagged) .none kV3 dc3 pm3 an3 cd3 ct3), sl3⟩)
    (c3 : PySem.W.codeIn K cd3 "is_tagged" = true) (k3 : PySem.W.keepIn K (.ref f3) = true)
    (a4 : PySem.W.nsIn K mainGlobals "is_turn" = some (some (.ref f4))) (l4 : K.lookup f4 = some ⟨oc4, od4, .func (PySem.W.fnOf "is_turn" "is_turn" (defArgs s_is_turn) (defBody s_is_turn) (defScope s_is_turn) .none kV4 dc4 pm4 an4 cd4 ct4), sl4⟩)
    (c4 : PySem.W.codeIn K cd4 "is_turn" = true) (k4 : PySem.W.keepIn K (.ref f4) = true)
    (a5 : PySem.W.nsIn K mainGlobals "turn_product" = some (some (.ref f5))) (l5 : K.lookup f5 = some ⟨oc5, od5, .func (PySem.W.fnOf "turn_product" "turn_product" (defArgs s_turn_product) (defBody s_turn_product) (defScope s_turn_product) .none kV5 dc5 pm5 an5 cd5 ct5), sl5⟩)
    (c5 : PySem.W.codeIn K cd5 "turn_product" = true) (k5 : PySem.W.keepIn K (.ref f5) = true)
    (a6 : PySem.W.nsIn K mainGlobals "turn_back" = some (some (.ref f6))) (l6 : K.lookup f6 = some ⟨oc6, od6, .func (PySem.W.fnOf "turn_back" "turn_back" (defArgs s_turn_back) (defBody s_turn_back) (defScope s_turn_back) .none kV6 dc6 pm6 an6 cd6 ct6), sl6⟩)
    (c6 : PySem.W.codeIn K cd6 "turn_back" = true) (k6 : PySem.W.keepIn K (.ref f6) = true)
    (a7 : PySem.W.nsIn K mainGlobals "turned_by" = some (some (.ref f7))) (l7 : K.lookup f7 = some ⟨oc7, od7, .func (PySem.W.fnOf "turned_by" "turned_by" (defArgs s_turned_by) (defBody s_turned_by) (defScope s_turned_by) .none kV7 dc7 pm7 an7 cd7 ct7), sl7⟩)
    (c7 : PySem.W.codeIn K cd7 "turned_by" = true) (k7 : PySem.W.keepIn K (.ref f7) = true)
    (a8 : PySem.W.nsIn K mainGlobals "centring" = some (some (.ref f8))) (l8 : K.lookup f8 = some ⟨oc8, od8, .func (PySem.W.fnOf "centring" "centring" (defArgs s_centring) (defBody s_centring) (defScope s_centring) .none kV8 dc8 pm8 an8 cd8 ct8), sl8⟩)
    (c8 : PySem.W.codeIn K cd8 "centring" = true) (k8 : PySem.W.keepIn K (.ref f8) = true)
    (a9 : PySem.W.nsIn K mainGlobals "positive_form" = some (some (.ref f9))) (l9 : K.lookup f9 = some ⟨oc9, od9, .func (PySem.W.fnOf "positive_form" "positive_form" (defArgs s_positive_form) (defBody s_positive_form) (defScope s_positive_form) .none kV9 dc9 pm9 an9 cd9 ct9), sl9⟩)
    (c9 : PySem.W.codeIn K cd9 "positive_form" = true) (k9 : PySem.W.keepIn K (.ref f9) = true)
    (a10 : PySem.W.nsIn K mainGlobals "fitting" = some (some (.ref f10))) (l10 : K.lookup f10 = some ⟨oc10, od10, .func (PySem.W.fnOf "fitting" "fitting" (defArgs s_fitting) (defBody s_fitting) (defScope s_fitting) .none kV10 dc10 pm10 an10 cd10 ct10), sl10⟩)
    (c10 : PySem.W.codeIn K cd10 "fitting" = true) (k10 : PySem.W.keepIn K (.ref f10) = true)
    (a11 : PySem.W.nsIn K mainGlobals "runs_of" = some (some (.ref f11))) (l11 : K.lookup f11 = some ⟨oc11, od11, .func (PySem.W.fnOf "runs_of" "runs_of" (defArgs s_runs_of) (defBody s_runs_of) (defScope s_runs_of) .none kV11 dc11 pm11 an11 cd11 ct11), sl11⟩)
    (c11 : PySem.W.codeIn K cd11 "runs_of" = true) (k11 : PySem.W.keepIn K (.ref f11) = true)
    (a12 : PySem.W.nsIn K mainGlobals "joined" = some (some (.ref f12))) (l12 : K.lookup f12 = some ⟨oc12, od12, .func (PySem.W.fnOf "joined" "joined" (defArgs s_joined) (defBody s_joined) (defScope s_joined) .none kV12 dc12 pm12 an12 cd12 ct12), sl12⟩)
    (c12 : PySem.W.codeIn K cd12 "joined" = true) (k12 : PySem.W.keepIn K (.ref f12) = true)
    (a13 : PySem.W.nsIn K mainGlobals "cycle_of" = some (some (.ref f13))) (l13 : K.lookup f13 = some ⟨oc13, od13, .func (PySem.W.fnOf "cycle_of" "cycle_of" (defArgs s_cycle_of) (defBody s_cycle_of) (defScope s_cycle_of) .none kV13 dc13 pm13 an13 cd13 ct13), sl13⟩)
    (c13 : PySem.W.codeIn K cd13 "cycle_of" = true) (k13 : PySem.W.keepIn K (.ref f13) = true)
    (a14 : PySem.W.nsIn K mainGlobals "cycle_turn" = some (some (.ref f14))) (l14 : K.lookup f14 = some ⟨oc14, od14, .func (PySem.W.fnOf "cycle_turn" "cycle_turn" (defArgs s_cycle_turn) (defBody s_cycle_turn) (defScope s_cycle_turn) .none kV14 dc14 pm14 an14 cd14 ct14), sl14⟩)
    (c14 : PySem.W.codeIn K cd14 "cycle_turn" = true) (k14 : PySem.W.keepIn K (.ref f14) = true)
    (a15 : PySem.W.nsIn K mainGlobals "turned_on" = some (some (.ref f15))) (l15 : K.lookup f15 = some ⟨oc15, od15, .func (PySem.W.fnOf "turned_on" "turned_on" (defArgs s_turned_on) (defBody s_turned_on) (defScope s_turned_on) .none kV15 dc15 pm15 an15 cd15 ct15), sl15⟩)
    (c15 : PySem.W.codeIn K cd15 "turned_on" = true) (k15 : PySem.W.keepIn K (.ref f15) = true)
    (a16 : PySem.W.nsIn K mainGlobals "meeting" = some (some (.ref f16))) (l16 : K.lookup f16 = some ⟨oc16, od16, .func (PySem.W.fnOf "meeting" "meeting" (defArgs s_meeting) (defBody s_meeting) (defScope s_meeting) .none kV16 dc16 pm16 an16 cd16 ct16), sl16⟩)
    (c16 : PySem.W.codeIn K cd16 "meeting" = true) (k16 : PySem.W.keepIn K (.ref f16) = true)
    (a17 : PySem.W.nsIn K mainGlobals "way_between" = some (some (.ref f17))) (l17 : K.lookup f17 = some ⟨oc17, od17, .func (PySem.W.fnOf "way_between" "way_between" (defArgs s_way_between) (defBody s_way_between) (defScope s_way_between) .none kV17 dc17 pm17 an17 cd17 ct17), sl17⟩)
    (c17 : PySem.W.codeIn K cd17 "way_between" = true) (k17 : PySem.W.keepIn K (.ref f17) = true)
    (a18 : PySem.W.nsIn K mainGlobals "leads" = some (some (.ref f18))) (l18 : K.lookup f18 = some ⟨oc18, od18, .func (PySem.W.fnOf "leads" "leads" (defArgs s_leads) (defBody s_leads) (defScope s_leads) .none kV18 dc18 pm18 an18 cd18 ct18), sl18⟩)
    (c18 : PySem.W.codeIn K cd18 "leads" = true) (k18 : PySem.W.keepIn K (.ref f18) = true)
    (a19 : PySem.W.nsIn K mainGlobals "kind_paper" = some (some (.ref f19))) (l19 : K.lookup f19 = some ⟨oc19, od19, .func (PySem.W.fnOf "kind_paper" "kind_paper" (defArgs s_kind_paper) (defBody s_kind_paper) (defScope s_kind_paper) .none kV19 dc19 pm19 an19 cd19 ct19), sl19⟩)
    (c19 : PySem.W.codeIn K cd19 "kind_paper" = true) (k19 : PySem.W.keepIn K (.ref f19) = true)
    (a20 : PySem.W.nsIn K mainGlobals "shows_one" = some (some (.ref f20))) (l20 : K.lookup f20 = some ⟨oc20, od20, .func (PySem.W.fnOf "shows_one" "shows_one" (defArgs s_shows_one) (defBody s_shows_one) (defScope s_shows_one) .none kV20 dc20 pm20 an20 cd20 ct20), sl20⟩)
    (c20 : PySem.W.codeIn K cd20 "shows_one" = true) (k20 : PySem.W.keepIn K (.ref f20) = true)
    (a21 : PySem.W.nsIn K mainGlobals "_law_draws" = some (some (.ref f21))) (l21 : K.lookup f21 = some ⟨oc21, od21, .func (PySem.W.fnOf "_law_draws" "_law_draws" (defArgs s__law_draws) (defBody s__law_draws) (defScope s__law_draws) .none kV21 dc21 pm21 an21 cd21 ct21), sl21⟩)
    (c21 : PySem.W.codeIn K cd21 "_law_draws" = true) (k21 : PySem.W.keepIn K (.ref f21) = true)
    (a22 : PySem.W.nsIn K mainGlobals "_law_is_number" = some (some (.ref f22))) (l22 : K.lookup f22 = some ⟨oc22, od22, .func (PySem.W.fnOf "_law_is_number" "_law_is_number" (defArgs s__law_is_number) (defBody s__law_is_number) (defScope s__law_is_number) .none kV22 dc22 pm22 an22 cd22 ct22), sl22⟩)
    (c22 : PySem.W.codeIn K cd22 "_law_is_number" = true) (k22 : PySem.W.keepIn K (.ref f22) = true)
    (a23 : PySem.W.nsIn K mainGlobals "_law_is_tuple" = some (some (.ref f23))) (l23 : K.lookup f23 = some ⟨oc23, od23, .func (PySem.W.fnOf "_law_is_tuple" "_law_is_tuple" (defArgs s__law_is_tuple) (defBody s__law_is_tuple) (defScope s__law_is_tuple) .none kV23 dc23 pm23 an23 cd23 ct23), sl23⟩)
    (c23 : PySem.W.codeIn K cd23 "_law_is_tuple" = true) (k23 : PySem.W.keepIn K (.ref f23) = true)
    (a24 : PySem.W.nsIn K mainGlobals "_law_is_numbers" = some (some (.ref f24))) (l24 : K.lookup f24 = some ⟨oc24, od24, .func (PySem.W.fnOf "_law_is_numbers" "_law_is_numbers" (defArgs s__law_is_numbers) (defBody s__law_is_numbers) (defScope s__law_is_numbers) .none kV24 dc24 pm24 an24 cd24 ct24), sl24⟩)
    (c24 : PySem.W.codeIn K cd24 "_law_is_numbers" = true) (k24 : PySem.W.keepIn K (.ref f24) = true)
    (a25 : PySem.W.nsIn K mainGlobals "_law_same" = some (some (.ref f25))) (l25 : K.lookup f25 = some ⟨oc25, od25, .func (PySem.W.fnOf "_law_same" "_law_same" (defArgs s__law_same) (defBody s__law_same) (defScope s__law_same) .none kV25 dc25 pm25 an25 cd25 ct25), sl25⟩)
    (c25 : PySem.W.codeIn K cd25 "_law_same" = true) (k25 : PySem.W.keepIn K (.ref f25) = true)
    (a26 : PySem.W.nsIn K mainGlobals "_law_times" = some (some (.ref f26))) (l26 : K.lookup f26 = some ⟨oc26, od26, .func (PySem.W.fnOf "_law_times" "_law_times" (defArgs s__law_times) (defBody s__law_times) (defScope s__law_times) .none kV26 dc26 pm26 an26 cd26 ct26), sl26⟩)
    (c26 : PySem.W.codeIn K cd26 "_law_times" = true) (k26 : PySem.W.keepIn K (.ref f26) = true)
    (a27 : PySem.W.nsIn K mainGlobals "_law_is_turn" = some (some (.ref f27))) (l27 : K.lookup f27 = some ⟨oc27, od27, .func (PySem.W.fnOf "_law_is_turn" "_law_is_turn" (defArgs s__law_is_turn) (defBody s__law_is_turn) (defScope s__law_is_turn) .none kV27 dc27 pm27 an27 cd27 ct27), sl27⟩)
    (c27 : PySem.W.codeIn K cd27 "_law_is_turn" = true) (k27 : PySem.W.keepIn K (.ref f27) = true)
    (a28 : PySem.W.nsIn K mainGlobals "_law_cycle_turn" = some (some (.ref f28))) (l28 : K.lookup f28 = some ⟨oc28, od28, .func (PySem.W.fnOf "_law_cycle_turn" "_law_cycle_turn" (defArgs s__law_cycle_turn) (defBody s__law_cycle_turn) (defScope s__law_cycle_turn) .none kV28 dc28 pm28 an28 cd28 ct28), sl28⟩)
    (c28 : PySem.W.codeIn K cd28 "_law_cycle_turn" = true) (k28 : PySem.W.keepIn K (.ref f28) = true)
    (a29 : PySem.W.nsIn K mainGlobals "_law_leads" = some (some (.ref f29))) (l29 : K.lookup f29 = some ⟨oc29, od29, .func (PySem.W.fnOf "_law_leads" "_law_leads" (defArgs s__law_leads) (defBody s__law_leads) (defScope s__law_leads) .none kV29 dc29 pm29 an29 cd29 ct29), sl29⟩)
    (c29 : PySem.W.codeIn K cd29 "_law_leads" = true) (k29 : PySem.W.keepIn K (.ref f29) = true)
    (a30 : PySem.W.nsIn K mainGlobals "_law_is_cycle" = some (some (.ref f30))) (l30 : K.lookup f30 = some ⟨oc30, od30, .func (PySem.W.fnOf "_law_is_cycle" "_law_is_cycle" (defArgs s__law_is_cycle) (defBody s__law_is_cycle) (defScope s__law_is_cycle) .none kV30 dc30 pm30 an30 cd30 ct30), sl30⟩)
    (c30 : PySem.W.codeIn K cd30 "_law_is_cycle" = true) (k30 : PySem.W.keepIn K (.ref f30) = true)
    (a31 : PySem.W.nsIn K mainGlobals "_law_meet" = some (some (.ref f31))) (l31 : K.lookup f31 = some ⟨oc31, od31, .func (PySem.W.fnOf "_law_meet" "_law_meet" (defArgs s__law_meet) (defBody s__law_meet) (defScope s__law_meet) .none kV31 dc31 pm31 an31 cd31 ct31), sl31⟩)
    (c31 : PySem.W.codeIn K cd31 "_law_meet" = true) (k31 : PySem.W.keepIn K (.ref f31) = true)
    (a32 : PySem.W.nsIn K mainGlobals "_law_right_one" = some (some (.ref f32))) (l32 : K.lookup f32 = some ⟨oc32, od32, .func (PySem.W.fnOf "_law_right_one" "_law_right_one" (defArgs s__law_right_one) (defBody s__law_right_one) (defScope s__law_right_one) .none kV32 dc32 pm32 an32 cd32 ct32), sl32⟩)
    (c32 : PySem.W.codeIn K cd32 "_law_right_one" = true) (k32 : PySem.W.keepIn K (.ref f32) = true)
    (a33 : PySem.W.nsIn K mainGlobals "_law_right_side" = some (some (.ref f33))) (l33 : K.lookup f33 = some ⟨oc33, od33, .func (PySem.W.fnOf "_law_right_side" "_law_right_side" (defArgs s__law_right_side) (defBody s__law_right_side) (defScope s__law_right_side) .none kV33 dc33 pm33 an33 cd33 ct33), sl33⟩)
    (c33 : PySem.W.codeIn K cd33 "_law_right_side" = true) (k33 : PySem.W.keepIn K (.ref f33) = true)
    (a34 : PySem.W.nsIn K mainGlobals "_law_right_two" = some (some (.ref f34))) (l34 : K.lookup f34 = some ⟨oc34, od34, .func (PySem.W.fnOf "_law_right_two" "_law_right_two" (defArgs s__law_right_two) (defBody s__law_right_two) (defScope s__law_right_two) .none kV34 dc34 pm34 an34 cd34 ct34), sl34⟩)
    (c34 : PySem.W.codeIn K cd34 "_law_right_two" = true) (k34 : PySem.W.keepIn K (.ref f34) = true)
    (a35 : PySem.W.nsIn K mainGlobals "_law_by" = some (some (.ref f35))) (l35 : K.lookup f35 = some ⟨oc35, od35, .func (PySem.W.fnOf "_law_by" "_law_by" (defArgs s__law_by) (defBody s__law_by) (defScope s__law_by) .none kV35 dc35 pm35 an35 cd35 ct35), sl35⟩)
    (c35 : PySem.W.codeIn K cd35 "_law_by" = true) (k35 : PySem.W.keepIn K (.ref f35) = true)
    (a36 : PySem.W.nsIn K mainGlobals "_law_turns" = some (some (.ref f36))) (l36 : K.lookup f36 = some ⟨oc36, od36, .func (PySem.W.fnOf "_law_turns" "_law_turns" (defArgs s__law_turns) (defBody s__law_turns) (defScope s__law_turns) .none kV36 dc36 pm36 an36 cd36 ct36), sl36⟩)
    (c36 : PySem.W.codeIn K cd36 "_law_turns" = true) (k36 : PySem.W.keepIn K (.ref f36) = true)
    (a37 : PySem.W.nsIn K mainGlobals "_law_leading" = some (some (.ref f37))) (l37 : K.lookup f37 = some ⟨oc37, od37, .func (PySem.W.fnOf "_law_leading" "_law_leading" (defArgs s__law_leading) (defBody s__law_leading) (defScope s__law_leading) .none kV37 dc37 pm37 an37 cd37 ct37), sl37⟩)
    (c37 : PySem.W.codeIn K cd37 "_law_leading" = true) (k37 : PySem.W.keepIn K (.ref f37) = true)
    (a38 : PySem.W.nsIn K mainGlobals "_law_two_cycles" = some (some (.ref f38))) (l38 : K.lookup f38 = some ⟨oc38, od38, .func (PySem.W.fnOf "_law_two_cycles" "_law_two_cycles" (defArgs s__law_two_cycles) (defBody s__law_two_cycles) (defScope s__law_two_cycles) .none kV38 dc38 pm38 an38 cd38 ct38), sl38⟩)
    (c38 : PySem.W.codeIn K cd38 "_law_two_cycles" = true) (k38 : PySem.W.keepIn K (.ref f38) = true)
    (a39 : PySem.W.nsIn K mainGlobals "_law_is_one" = some (some (.ref f39))) (l39 : K.lookup f39 = some ⟨oc39, od39, .func (PySem.W.fnOf "_law_is_one" "_law_is_one" (defArgs s__law_is_one) (defBody s__law_is_one) (defScope s__law_is_one) .none kV39 dc39 pm39 an39 cd39 ct39), sl39⟩)
    (c39 : PySem.W.codeIn K cd39 "_law_is_one" = true) (k39 : PySem.W.keepIn K (.ref f39) = true)
    (a40 : PySem.W.nsIn K mainGlobals "law" = some (some (.ref f40))) (l40 : K.lookup f40 = some ⟨oc40, od40, .func (PySem.W.fnOf "law" "law" (defArgs s_law) (defBody s_law) (defScope s_law) .none kV40 dc40 pm40 an40 cd40 ct40), sl40⟩)
    (c40 : PySem.W.codeIn K cd40 "law" = true) (k40 : PySem.W.keepIn K (.ref f40) = true)
    (b_STILL : PySem.W.nsIn K mainGlobals "STILL" = some (some (.ref q0)))
    (m0 : K.lookup q0 = some ⟨.type "tuple", qo0, .seq #[.int 1 t0_0, .int 0 t0_1, .int 0 t0_2, .int 1 t0_3] qn0, qs0⟩)
    (b_QUARTER : PySem.W.nsIn K mainGlobals "QUARTER" = some (some (.ref q1)))
    (m1 : K.lookup q1 = some ⟨.type "tuple", qo1, .seq #[.int 0 t1_0, .int (-1) t1_1, .int 1 t1_2, .int 0 t1_3] qn1, qs1⟩)
    (y_abs : PySem.W.nsIn K mainGlobals "abs" = some none)
    (y_bool : PySem.W.nsIn K mainGlobals "bool" = some none)
    (y_int : PySem.W.nsIn K mainGlobals "int" = some none)
    (y_isinstance : PySem.W.nsIn K mainGlobals "isinstance" = some none)
    (y_len : PySem.W.nsIn K mainGlobals "len" = some none)
    (y_list : PySem.W.nsIn K mainGlobals "list" = some none)
    (y_min : PySem.W.nsIn K mainGlobals "min" = some none)
    (y_range : PySem.W.nsIn K mainGlobals "range" = some none)
    (y_str : PySem.W.nsIn K mainGlobals "str" = some none)
    (y_tuple : PySem.W.nsIn K mainGlobals "tuple" = some none) :
    ∃ fd : FuncData, (∀ (s : Shared) (v : Value), BindsTo s fd ⟨[v], []⟩ [("script", v)]) ∧ ∀ base : Heap, K.In base → base.Ns mainGlobals mg → FnG l.prog w K mg base 29 fa fd ["script"] (spD K 1 f_law) := by
  have e : f40 = fa := by
    have z := (PySem.W.mg_of X G a40).symm.trans hfa
    injection z with z
    injection z
  subst e
  let T : Top K mg := {
    a_nearest := f0, fd_nearest := (PySem.W.fnOf "nearest" "nearest" (defArgs s_nearest) (defBody s_nearest) (defScope s_nearest) .none kV0 dc0 pm0 an0 cd0 ct0), F_nearest := fun_mk (st := s_nearest) l0 c0 k0, g_nearest := PySem.W.mg_of X G a0,
    B_nearest := (fun_mk (st := s_nearest) l0 c0 k0).binds fun _ _ _ _ _ _ us hl => match us, hl with | [_, _], _ => rfl,
    a_is_number := f1, fd_is_number := (PySem.W.fnOf "is_number" "is_number" (defArgs s_is_number) (defBody s_is_number) (defScope s_is_number) .none kV1 dc1 pm1 an1 cd1 ct1), F_is_number := fun_mk (st := s_is_number) l1 c1 k1, g_is_number := PySem.W.mg_of X G a1,
    B_is_number := (fun_mk (st := s_is_number) l1 c1 k1).binds fun _ _ _ _ _ _ us hl => match us, hl with | [_], _ => rfl,
    a_is_number_tuple := f2, fd_is_number_tuple := (PySem.W.fnOf "is_number_tuple" "is_number_tuple" (defArgs s_is_number_tuple) (defBody s_is_number_tuple) (defScope s_is_number_tuple) .none kV2 dc2 pm2 an2 cd2 ct2), F_is_number_tuple := fun_mk (st := s_is_number_tuple) l2 c2 k2, g_is_number_tuple := PySem.W.mg_of X G a2,
    B_is_number_tuple := (fun_mk (st := s_is_number_tuple) l2 c2 k2).binds fun _ _ _ _ _ _ us hl => match us, hl with | [_, _], _ => rfl,
    a_is_tagged := f3, fd_is_tagged := (PySem.W.fnOf "is_tagged" "is_tagged" (defArgs s_is_tagged) (defBody s_is_tagged) (defScope s_is_tagged) .none kV3 dc3 pm3 an3 cd3 ct3), F_is_tagged := fun_mk (st := s_is_tagged) l3 c3 k3, g_is_tagged := PySem.W.mg_of X G a3,
    B_is_tagged := (fun_mk (st := s_is_tagged) l3 c3 k3).binds fun _ _ _ _ _ _ us hl => match us, hl with | [_, _, _], _ => rfl,
    a_is_turn := f4, fd_is_turn := (PySem.W.fnOf "is_turn" "is_turn" (defArgs s_is_turn) (defBody s_is_turn) (defScope s_is_turn) .none kV4 dc4 pm4 an4 cd4 ct4), F_is_turn := fun_mk (st := s_is_turn) l4 c4 k4, g_is_turn := PySem.W.mg_of X G a4,
    B_is_turn := (fun_mk (st := s_is_turn) l4 c4 k4).binds fun _ _ _ _ _ _ us hl => match us, hl with | [_], _ => rfl,
    a_turn_product := f5, fd_turn_product := (PySem.W.fnOf "turn_product" "turn_product" (defArgs s_turn_product) (defBody s_turn_product) (defScope s_turn_product) .none kV5 dc5 pm5 an5 cd5 ct5), F_turn_product := fun_mk (st := s_turn_product) l5 c5 k5, g_turn_product := PySem.W.mg_of X G a5,
    B_turn_product := (fun_mk (st := s_turn_product) l5 c5 k5).binds fun _ _ _ _ _ _ us hl => match us, hl with | [_, _], _ => rfl,
    a_turn_back := f6, fd_turn_back := (PySem.W.fnOf "turn_back" "turn_back" (defArgs s_turn_back) (defBody s_turn_back) (defScope s_turn_back) .none kV6 dc6 pm6 an6 cd6 ct6), F_turn_back := fun_mk (st := s_turn_back) l6 c6 k6, g_turn_back := PySem.W.mg_of X G a6,
    B_turn_back := (fun_mk (st := s_turn_back) l6 c6 k6).binds fun _ _ _ _ _ _ us hl => match us, hl with | [_], _ => rfl,
    a_turned_by := f7, fd_turned_by := (PySem.W.fnOf "turned_by" "turned_by" (defArgs s_turned_by) (defBody s_turned_by) (defScope s_turned_by) .none kV7 dc7 pm7 an7 cd7 ct7), F_turned_by := fun_mk (st := s_turned_by) l7 c7 k7, g_turned_by := PySem.W.mg_of X G a7,
    B_turned_by := (fun_mk (st := s_turned_by) l7 c7 k7).binds fun _ _ _ _ _ _ us hl => match us, hl with | [_, _], _ => rfl,
    a_centring := f8, fd_centring := (PySem.W.fnOf "centring" "centring" (defArgs s_centring) (defBody s_centring) (defScope s_centring) .none kV8 dc8 pm8 an8 cd8 ct8), F_centring := fun_mk (st := s_centring) l8 c8 k8, g_centring := PySem.W.mg_of X G a8,
    B_centring := (fun_mk (st := s_centring) l8 c8 k8).binds fun _ _ _ _ _ _ us hl => match us, hl with | [_], _ => rfl,
    a_positive_form := f9, fd_positive_form := (PySem.W.fnOf "positive_form" "positive_form" (defArgs s_positive_form) (defBody s_positive_form) (defScope s_positive_form) .none kV9 dc9 pm9 an9 cd9 ct9), F_positive_form := fun_mk (st := s_positive_form) l9 c9 k9, g_positive_form := PySem.W.mg_of X G a9,
    B_positive_form := (fun_mk (st := s_positive_form) l9 c9 k9).binds fun _ _ _ _ _ _ us hl => match us, hl with | [_], _ => rfl,
    a_fitting := f10, fd_fitting := (PySem.W.fnOf "fitting" "fitting" (defArgs s_fitting) (defBody s_fitting) (defScope s_fitting) .none kV10 dc10 pm10 an10 cd10 ct10), F_fitting := fun_mk (st := s_fitting) l10 c10 k10, g_fitting := PySem.W.mg_of X G a10,
    B_fitting := (fun_mk (st := s_fitting) l10 c10 k10).binds fun _ _ _ _ _ _ us hl => match us, hl with | [_, _, _, _], _ => rfl,
    a_runs_of := f11, fd_runs_of := (PySem.W.fnOf "runs_of" "runs_of" (defArgs s_runs_of) (defBody s_runs_of) (defScope s_runs_of) .none kV11 dc11 pm11 an11 cd11 ct11), F_runs_of := fun_mk (st := s_runs_of) l11 c11 k11, g_runs_of := PySem.W.mg_of X G a11,
    B_runs_of := (fun_mk (st := s_runs_of) l11 c11 k11).binds fun _ _ _ _ _ _ us hl => match us, hl with | [_], _ => rfl,
    a_joined := f12, fd_joined := (PySem.W.fnOf "joined" "joined" (defArgs s_joined) (defBody s_joined) (defScope s_joined) .none kV12 dc12 pm12 an12 cd12 ct12), F_joined := fun_mk (st := s_joined) l12 c12 k12, g_joined := PySem.W.mg_of X G a12,
    B_joined := (fun_mk (st := s_joined) l12 c12 k12).binds fun _ _ _ _ _ _ us hl => match us, hl with | [_], _ => rfl,
    a_cycle_of := f13, fd_cycle_of := (PySem.W.fnOf "cycle_of" "cycle_of" (defArgs s_cycle_of) (defBody s_cycle_of) (defScope s_cycle_of) .none kV13 dc13 pm13 an13 cd13 ct13), F_cycle_of := fun_mk (st := s_cycle_of) l13 c13 k13, g_cycle_of := PySem.W.mg_of X G a13,
    B_cycle_of := (fun_mk (st := s_cycle_of) l13 c13 k13).binds fun _ _ _ _ _ _ us hl => match us, hl with | [_], _ => rfl,
    a_cycle_turn := f14, fd_cycle_turn := (PySem.W.fnOf "cycle_turn" "cycle_turn" (defArgs s_cycle_turn) (defBody s_cycle_turn) (defScope s_cycle_turn) .none kV14 dc14 pm14 an14 cd14 ct14), F_cycle_turn := fun_mk (st := s_cycle_turn) l14 c14 k14, g_cycle_turn := PySem.W.mg_of X G a14,
    B_cycle_turn := (fun_mk (st := s_cycle_turn) l14 c14 k14).binds fun _ _ _ _ _ _ us hl => match us, hl with | [_], _ => rfl,
    a_turned_on := f15, fd_turned_on := (PySem.W.fnOf "turned_on" "turned_on" (defArgs s_turned_on) (defBody s_turned_on) (defScope s_turned_on) .none kV15 dc15 pm15 an15 cd15 ct15), F_turned_on := fun_mk (st := s_turned_on) l15 c15 k15, g_turned_on := PySem.W.mg_of X G a15,
    B_turned_on := (fun_mk (st := s_turned_on) l15 c15 k15).binds fun _ _ _ _ _ _ us hl => match us, hl with | [_, _], _ => rfl,
    a_meeting := f16, fd_meeting := (PySem.W.fnOf "meeting" "meeting" (defArgs s_meeting) (defBody s_meeting) (defScope s_meeting) .none kV16 dc16 pm16 an16 cd16 ct16), F_meeting := fun_mk (st := s_meeting) l16 c16 k16, g_meeting := PySem.W.mg_of X G a16,
    B_meeting := (fun_mk (st := s_meeting) l16 c16 k16).binds fun _ _ _ _ _ _ us hl => match us, hl with | [_, _], _ => rfl,
    a_way_between := f17, fd_way_between := (PySem.W.fnOf "way_between" "way_between" (defArgs s_way_between) (defBody s_way_between) (defScope s_way_between) .none kV17 dc17 pm17 an17 cd17 ct17), F_way_between := fun_mk (st := s_way_between) l17 c17 k17, g_way_between := PySem.W.mg_of X G a17,
    B_way_between := (fun_mk (st := s_way_between) l17 c17 k17).binds fun _ _ _ _ _ _ us hl => match us, hl with | [_, _, _], _ => rfl,
    a_leads := f18, fd_leads := (PySem.W.fnOf "leads" "leads" (defArgs s_leads) (defBody s_leads) (defScope s_leads) .none kV18 dc18 pm18 an18 cd18 ct18), F_leads := fun_mk (st := s_leads) l18 c18 k18, g_leads := PySem.W.mg_of X G a18,
    B_leads := (fun_mk (st := s_leads) l18 c18 k18).binds fun _ _ _ _ _ _ us hl => match us, hl with | [_, _, _], _ => rfl,
    a_kind_paper := f19, fd_kind_paper := (PySem.W.fnOf "kind_paper" "kind_paper" (defArgs s_kind_paper) (defBody s_kind_paper) (defScope s_kind_paper) .none kV19 dc19 pm19 an19 cd19 ct19), F_kind_paper := fun_mk (st := s_kind_paper) l19 c19 k19, g_kind_paper := PySem.W.mg_of X G a19,
    B_kind_paper := (fun_mk (st := s_kind_paper) l19 c19 k19).binds fun _ _ _ _ _ _ us hl => match us, hl with | [_, _], _ => rfl,
    a_shows_one := f20, fd_shows_one := (PySem.W.fnOf "shows_one" "shows_one" (defArgs s_shows_one) (defBody s_shows_one) (defScope s_shows_one) .none kV20 dc20 pm20 an20 cd20 ct20), F_shows_one := fun_mk (st := s_shows_one) l20 c20 k20, g_shows_one := PySem.W.mg_of X G a20,
    B_shows_one := (fun_mk (st := s_shows_one) l20 c20 k20).binds fun _ _ _ _ _ _ us hl => match us, hl with | [_, _, _], _ => rfl,
    a__law_draws := f21, fd__law_draws := (PySem.W.fnOf "_law_draws" "_law_draws" (defArgs s__law_draws) (defBody s__law_draws) (defScope s__law_draws) .none kV21 dc21 pm21 an21 cd21 ct21), F__law_draws := fun_mk (st := s__law_draws) l21 c21 k21, g__law_draws := PySem.W.mg_of X G a21,
    B__law_draws := (fun_mk (st := s__law_draws) l21 c21 k21).binds fun _ _ _ _ _ _ us hl => match us, hl with | [_, _], _ => rfl,
    a__law_is_number := f22, fd__law_is_number := (PySem.W.fnOf "_law_is_number" "_law_is_number" (defArgs s__law_is_number) (defBody s__law_is_number) (defScope s__law_is_number) .none kV22 dc22 pm22 an22 cd22 ct22), F__law_is_number := fun_mk (st := s__law_is_number) l22 c22 k22, g__law_is_number := PySem.W.mg_of X G a22,
    B__law_is_number := (fun_mk (st := s__law_is_number) l22 c22 k22).binds fun _ _ _ _ _ _ us hl => match us, hl with | [_], _ => rfl,
    a__law_is_tuple := f23, fd__law_is_tuple := (PySem.W.fnOf "_law_is_tuple" "_law_is_tuple" (defArgs s__law_is_tuple) (defBody s__law_is_tuple) (defScope s__law_is_tuple) .none kV23 dc23 pm23 an23 cd23 ct23), F__law_is_tuple := fun_mk (st := s__law_is_tuple) l23 c23 k23, g__law_is_tuple := PySem.W.mg_of X G a23,
    B__law_is_tuple := (fun_mk (st := s__law_is_tuple) l23 c23 k23).binds fun _ _ _ _ _ _ us hl => match us, hl with | [_, _], _ => rfl,
    a__law_is_numbers := f24, fd__law_is_numbers := (PySem.W.fnOf "_law_is_numbers" "_law_is_numbers" (defArgs s__law_is_numbers) (defBody s__law_is_numbers) (defScope s__law_is_numbers) .none kV24 dc24 pm24 an24 cd24 ct24), F__law_is_numbers := fun_mk (st := s__law_is_numbers) l24 c24 k24, g__law_is_numbers := PySem.W.mg_of X G a24,
    B__law_is_numbers := (fun_mk (st := s__law_is_numbers) l24 c24 k24).binds fun _ _ _ _ _ _ us hl => match us, hl with | [_], _ => rfl,
    a__law_same := f25, fd__law_same := (PySem.W.fnOf "_law_same" "_law_same" (defArgs s__law_same) (defBody s__law_same) (defScope s__law_same) .none kV25 dc25 pm25 an25 cd25 ct25), F__law_same := fun_mk (st := s__law_same) l25 c25 k25, g__law_same := PySem.W.mg_of X G a25,
    B__law_same := (fun_mk (st := s__law_same) l25 c25 k25).binds fun _ _ _ _ _ _ us hl => match us, hl with | [_, _], _ => rfl,
    a__law_times := f26, fd__law_times := (PySem.W.fnOf "_law_times" "_law_times" (defArgs s__law_times) (defBody s__law_times) (defScope s__law_times) .none kV26 dc26 pm26 an26 cd26 ct26), F__law_times := fun_mk (st := s__law_times) l26 c26 k26, g__law_times := PySem.W.mg_of X G a26,
    B__law_times := (fun_mk (st := s__law_times) l26 c26 k26).binds fun _ _ _ _ _ _ us hl => match us, hl with | [_, _], _ => rfl,
    a__law_is_turn := f27, fd__law_is_turn := (PySem.W.fnOf "_law_is_turn" "_law_is_turn" (defArgs s__law_is_turn) (defBody s__law_is_turn) (defScope s__law_is_turn) .none kV27 dc27 pm27 an27 cd27 ct27), F__law_is_turn := fun_mk (st := s__law_is_turn) l27 c27 k27, g__law_is_turn := PySem.W.mg_of X G a27,
    B__law_is_turn := (fun_mk (st := s__law_is_turn) l27 c27 k27).binds fun _ _ _ _ _ _ us hl => match us, hl with | [_], _ => rfl,
    a__law_cycle_turn := f28, fd__law_cycle_turn := (PySem.W.fnOf "_law_cycle_turn" "_law_cycle_turn" (defArgs s__law_cycle_turn) (defBody s__law_cycle_turn) (defScope s__law_cycle_turn) .none kV28 dc28 pm28 an28 cd28 ct28), F__law_cycle_turn := fun_mk (st := s__law_cycle_turn) l28 c28 k28, g__law_cycle_turn := PySem.W.mg_of X G a28,
    B__law_cycle_turn := (fun_mk (st := s__law_cycle_turn) l28 c28 k28).binds fun _ _ _ _ _ _ us hl => match us, hl with | [_], _ => rfl,
    a__law_leads := f29, fd__law_leads := (PySem.W.fnOf "_law_leads" "_law_leads" (defArgs s__law_leads) (defBody s__law_leads) (defScope s__law_leads) .none kV29 dc29 pm29 an29 cd29 ct29), F__law_leads := fun_mk (st := s__law_leads) l29 c29 k29, g__law_leads := PySem.W.mg_of X G a29,
    B__law_leads := (fun_mk (st := s__law_leads) l29 c29 k29).binds fun _ _ _ _ _ _ us hl => match us, hl with | [_, _, _], _ => rfl,
    a__law_is_cycle := f30, fd__law_is_cycle := (PySem.W.fnOf "_law_is_cycle" "_law_is_cycle" (defArgs s__law_is_cycle) (defBody s__law_is_cycle) (defScope s__law_is_cycle) .none kV30 dc30 pm30 an30 cd30 ct30), F__law_is_cycle := fun_mk (st := s__law_is_cycle) l30 c30 k30, g__law_is_cycle := PySem.W.mg_of X G a30,
    B__law_is_cycle := (fun_mk (st := s__law_is_cycle) l30 c30 k30).binds fun _ _ _ _ _ _ us hl => match us, hl with | [_], _ => rfl,
    a__law_meet := f31, fd__law_meet := (PySem.W.fnOf "_law_meet" "_law_meet" (defArgs s__law_meet) (defBody s__law_meet) (defScope s__law_meet) .none kV31 dc31 pm31 an31 cd31 ct31), F__law_meet := fun_mk (st := s__law_meet) l31 c31 k31, g__law_meet := PySem.W.mg_of X G a31,
    B__law_meet := (fun_mk (st := s__law_meet) l31 c31 k31).binds fun _ _ _ _ _ _ us hl => match us, hl with | [_, _], _ => rfl,
    a__law_right_one := f32, fd__law_right_one := (PySem.W.fnOf "_law_right_one" "_law_right_one" (defArgs s__law_right_one) (defBody s__law_right_one) (defScope s__law_right_one) .none kV32 dc32 pm32 an32 cd32 ct32), F__law_right_one := fun_mk (st := s__law_right_one) l32 c32 k32, g__law_right_one := PySem.W.mg_of X G a32,
    B__law_right_one := (fun_mk (st := s__law_right_one) l32 c32 k32).binds fun _ _ _ _ _ _ us hl => match us, hl with | [_, _, _], _ => rfl,
    a__law_right_side := f33, fd__law_right_side := (PySem.W.fnOf "_law_right_side" "_law_right_side" (defArgs s__law_right_side) (defBody s__law_right_side) (defScope s__law_right_side) .none kV33 dc33 pm33 an33 cd33 ct33), F__law_right_side := fun_mk (st := s__law_right_side) l33 c33 k33, g__law_right_side := PySem.W.mg_of X G a33,
    B__law_right_side := (fun_mk (st := s__law_right_side) l33 c33 k33).binds fun _ _ _ _ _ _ us hl => match us, hl with | [_, _], _ => rfl,
    a__law_right_two := f34, fd__law_right_two := (PySem.W.fnOf "_law_right_two" "_law_right_two" (defArgs s__law_right_two) (defBody s__law_right_two) (defScope s__law_right_two) .none kV34 dc34 pm34 an34 cd34 ct34), F__law_right_two := fun_mk (st := s__law_right_two) l34 c34 k34, g__law_right_two := PySem.W.mg_of X G a34,
    B__law_right_two := (fun_mk (st := s__law_right_two) l34 c34 k34).binds fun _ _ _ _ _ _ us hl => match us, hl with | [_, _, _], _ => rfl,
    a__law_by := f35, fd__law_by := (PySem.W.fnOf "_law_by" "_law_by" (defArgs s__law_by) (defBody s__law_by) (defScope s__law_by) .none kV35 dc35 pm35 an35 cd35 ct35), F__law_by := fun_mk (st := s__law_by) l35 c35 k35, g__law_by := PySem.W.mg_of X G a35,
    B__law_by := (fun_mk (st := s__law_by) l35 c35 k35).binds fun _ _ _ _ _ _ us hl => match us, hl with | [_, _], _ => rfl,
    a__law_turns := f36, fd__law_turns := (PySem.W.fnOf "_law_turns" "_law_turns" (defArgs s__law_turns) (defBody s__law_turns) (defScope s__law_turns) .none kV36 dc36 pm36 an36 cd36 ct36), F__law_turns := fun_mk (st := s__law_turns) l36 c36 k36, g__law_turns := PySem.W.mg_of X G a36,
    B__law_turns := (fun_mk (st := s__law_turns) l36 c36 k36).binds fun _ _ _ _ _ _ us hl => match us, hl with | [], _ => rfl,
    a__law_leading := f37, fd__law_leading := (PySem.W.fnOf "_law_leading" "_law_leading" (defArgs s__law_leading) (defBody s__law_leading) (defScope s__law_leading) .none kV37 dc37 pm37 an37 cd37 ct37), F__law_leading := fun_mk (st := s__law_leading) l37 c37 k37, g__law_leading := PySem.W.mg_of X G a37,
    B__law_leading := (fun_mk (st := s__law_leading) l37 c37 k37).binds fun _ _ _ _ _ _ us hl => match us, hl with | [_, _, _], _ => rfl,
    a__law_two_cycles := f38, fd__law_two_cycles := (PySem.W.fnOf "_law_two_cycles" "_law_two_cycles" (defArgs s__law_two_cycles) (defBody s__law_two_cycles) (defScope s__law_two_cycles) .none kV38 dc38 pm38 an38 cd38 ct38), F__law_two_cycles := fun_mk (st := s__law_two_cycles) l38 c38 k38, g__law_two_cycles := PySem.W.mg_of X G a38,
    B__law_two_cycles := (fun_mk (st := s__law_two_cycles) l38 c38 k38).binds fun _ _ _ _ _ _ us hl => match us, hl with | [_], _ => rfl,
    a__law_is_one := f39, fd__law_is_one := (PySem.W.fnOf "_law_is_one" "_law_is_one" (defArgs s__law_is_one) (defBody s__law_is_one) (defScope s__law_is_one) .none kV39 dc39 pm39 an39 cd39 ct39), F__law_is_one := fun_mk (st := s__law_is_one) l39 c39 k39, g__law_is_one := PySem.W.mg_of X G a39,
    B__law_is_one := (fun_mk (st := s__law_is_one) l39 c39 k39).binds fun _ _ _ _ _ _ us hl => match us, hl with | [_, _], _ => rfl,
    a_law := f40, fd_law := (PySem.W.fnOf "law" "law" (defArgs s_law) (defBody s_law) (defScope s_law) .none kV40 dc40 pm40 an40 cd40 ct40), F_law := fun_mk (st := s_law) l40 c40 k40, g_law := PySem.W.mg_of X G a40,
    B_law := (fun_mk (st := s_law) l40 c40 k40).binds fun _ _ _ _ _ _ us hl => match us, hl with | [_], _ => rfl,
    a_STILL := q0, g_STILL := PySem.W.mg_of X G b_STILL, d_STILL := fun H => by unfold c_STILL; exact (.tup (.inr ⟨_, _, _, m0, rfl, rfl, (by show 4 ≤ sizeLine; decide), (.cons (show RelV (.int 1) _ from ⟨_, rfl⟩) (.cons (show RelV (.int 0) _ from ⟨_, rfl⟩) (.cons (show RelV (.int 0) _ from ⟨_, rfl⟩) (.cons (show RelV (.int 1) _ from ⟨_, rfl⟩) Paired.nil))))⟩) (.cons (.int _) (.cons (.int _) (.cons (.int _) (.cons (.int _) DpAll.nil))))),
    a_QUARTER := q1, g_QUARTER := PySem.W.mg_of X G b_QUARTER, d_QUARTER := fun H => by unfold c_QUARTER; exact (.tup (.inr ⟨_, _, _, m1, rfl, rfl, (by show 4 ≤ sizeLine; decide), (.cons (show RelV (.int 0) _ from ⟨_, rfl⟩) (.cons (show RelV (.int (-1)) _ from ⟨_, rfl⟩) (.cons (show RelV (.int 1) _ from ⟨_, rfl⟩) (.cons (show RelV (.int 0) _ from ⟨_, rfl⟩) Paired.nil))))⟩) (.cons (.int _) (.cons (.int _) (.cons (.int _) (.cons (.int _) DpAll.nil))))),
    z_abs := PySem.W.mg_none_of X G y_abs,
    z_bool := PySem.W.mg_none_of X G y_bool,
    z_int := PySem.W.mg_none_of X G y_int,
    z_isinstance := PySem.W.mg_none_of X G y_isinstance,
    z_len := PySem.W.mg_none_of X G y_len,
    z_list := PySem.W.mg_none_of X G y_list,
    z_min := PySem.W.mg_none_of X G y_min,
    z_range := PySem.W.mg_none_of X G y_range,
    z_str := PySem.W.mg_none_of X G y_str,
    z_tuple := PySem.W.mg_none_of X G y_tuple }
  exact ⟨T.fd_law, fun s v => .of_eq rfl, fun base _ _ => ok_law T⟩
theorem off_nil (H : Hp) : off H [] = H := by
  funext b
  exact if_neg (by simp)
theorem start_law (K : PySem.W.Frag) (H : Hp) (a : Addr) (ns : List Int) (hl : ns.length ≤ 63) (hS : SqL K H a (ns.map V.int)) : spD K 1 f_law [.ref a] H (fun v _ => v = .bl true) E0 :=
  ⟨rfl, [.list (ns.map .int)], .sh (.bool true), [], (fun _ z => nomatch z), by rw [off_nil]; exact .cons (.lst hS (dpa_ints ns)) .nil, law_data ns hl, fun v H' _ z => z.to_bool⟩
end Lk75
open PySem PySem.W PyProof.Rows
set_option maxHeartbeats 0 in
theorem PySem.Challenge.cw_gridplots_k75_whole_kinds_by_search_holds : PySem.Challenge.rw_gridplots_k75_whole_kinds_by_search.Holds := by
  w_on; o_law; k_head; (case hw => w_witness2)
  k_fill
  refine F3.walkG (l := PySem.Challenge.rw_gridplots_k75_whole_kinds_by_search) (n := 63) (k := 29) (x := "script") (sp := fun w => F3.spD _ 1 Lk75.f_law) rfl (by decide) rfl ⟨rfl, by decide, by decide⟩ (fun w h Y => PySem.W.kIn_of Y) ?F (fun _ H a ns hl _ hS => Lk75.start_law _ H a ns hl hS)
  case F =>
    intro w mg fa h KX G hmg
    refine' Lk75.all_mk KX G hmg ?a0 ?l0 ?c0 ?k0 ?a1 ?l1 ?c1 ?k1 ?a2 ?l2 ?c2 ?k2 ?a3 ?l3 ?c3 ?k3 ?a4 ?l4 ?c4 ?k4 ?a5 ?l5 ?c5 ?k5 ?a6 ?l6 ?c6 ?k6 ?a7 ?l7 ?c7 ?k7 ?a8 ?l8 ?c8 ?k8 ?a9 ?l9 ?c9 ?k9 ?a10 ?l10 ?c10 ?k10 ?a11 ?l11 ?c11 ?k11 ?a12 ?l12 ?c12 ?k12 ?a13 ?l13 ?c13 ?k13 ?a14 ?l14 ?c14 ?k14 ?a15 ?l15 ?c15 ?k15 ?a16 ?l16 ?c16 ?k16 ?a17 ?l17 ?c17 ?k17 ?a18 ?l18 ?c18 ?k18 ?a19 ?l19 ?c19 ?k19 ?a20 ?l20 ?c20 ?k20 ?a21 ?l21 ?c21 ?k21 ?a22 ?l22 ?c22 ?k22 ?a23 ?l23 ?c23 ?k23 ?a24 ?l24 ?c24 ?k24 ?a25 ?l25 ?c25 ?k25 ?a26 ?l26 ?c26 ?k26 ?a27 ?l27 ?c27 ?k27 ?a28 ?l28 ?c28 ?k28 ?a29 ?l29 ?c29 ?k29 ?a30 ?l30 ?c30 ?k30 ?a31 ?l31 ?c31 ?k31 ?a32 ?l32 ?c32 ?k32 ?a33 ?l33 ?c33 ?k33 ?a34 ?l34 ?c34 ?k34 ?a35 ?l35 ?c35 ?k35 ?a36 ?l36 ?c36 ?k36 ?a37 ?l37 ?c37 ?k37 ?a38 ?l38 ?c38 ?k38 ?a39 ?l39 ?c39 ?k39 ?a40 ?l40 ?c40 ?k40 ?b_STILL ?m0 ?b_QUARTER ?m1 ?y_abs ?y_bool ?y_int ?y_isinstance ?y_len ?y_list ?y_min ?y_range ?y_str ?y_tuple
    (case a0 => k_is)
    (case l0 => k_is)
    (case c0 => k_is)
    (case k0 => k_is)
    (case a1 => k_is)
    (case l1 => k_is)
    (case c1 => k_is)
    (case k1 => k_is)
    (case a2 => k_is)
    (case l2 => k_is)
    (case c2 => k_is)
    (case k2 => k_is)
    (case a3 => k_is)
    (case l3 => k_is)
    (case c3 => k_is)
    (case k3 => k_is)
    (case a4 => k_is)
    (case l4 => k_is)
    (case c4 => k_is)
    (case k4 => k_is)
    (case a5 => k_is)
    (case l5 => k_is)
    (case c5 => k_is)
    (case k5 => k_is)
    (case a6 => k_is)
    (case l6 => k_is)
    (case c6 => k_is)
    (case k6 => k_is)
    (case a7 => k_is)
    (case l7 => k_is)
    (case c7 => k_is)
    (case k7 => k_is)
    (case a8 => k_is)
    (case l8 => k_is)
    (case c8 => k_is)
    (case k8 => k_is)
    (case a9 => k_is)
    (case l9 => k_is)
    (case c9 => k_is)
    (case k9 => k_is)
    (case a10 => k_is)
    (case l10 => k_is)
    (case c10 => k_is)
    (case k10 => k_is)
    (case a11 => k_is)
    (case l11 => k_is)
    (case c11 => k_is)
    (case k11 => k_is)
    (case a12 => k_is)
    (case l12 => k_is)
    (case c12 => k_is)
    (case k12 => k_is)
    (case a13 => k_is)
    (case l13 => k_is)
    (case c13 => k_is)
    (case k13 => k_is)
    (case a14 => k_is)
    (case l14 => k_is)
    (case c14 => k_is)
    (case k14 => k_is)
    (case a15 => k_is)
    (case l15 => k_is)
    (case c15 => k_is)
    (case k15 => k_is)
    (case a16 => k_is)
    (case l16 => k_is)
    (case c16 => k_is)
    (case k16 => k_is)
    (case a17 => k_is)
    (case l17 => k_is)
    (case c17 => k_is)
    (case k17 => k_is)
    (case a18 => k_is)
    (case l18 => k_is)
    (case c18 => k_is)
    (case k18 => k_is)
    (case a19 => k_is)
    (case l19 => k_is)
    (case c19 => k_is)
    (case k19 => k_is)
    (case a20 => k_is)
    (case l20 => k_is)
    (case c20 => k_is)
    (case k20 => k_is)
    (case a21 => k_is)
    (case l21 => k_is)
    (case c21 => k_is)
    (case k21 => k_is)
    (case a22 => k_is)
    (case l22 => k_is)
    (case c22 => k_is)
    (case k22 => k_is)
    (case a23 => k_is)
    (case l23 => k_is)
    (case c23 => k_is)
    (case k23 => k_is)
    (case a24 => k_is)
    (case l24 => k_is)
    (case c24 => k_is)
    (case k24 => k_is)
    (case a25 => k_is)
    (case l25 => k_is)
    (case c25 => k_is)
    (case k25 => k_is)
    (case a26 => k_is)
    (case l26 => k_is)
    (case c26 => k_is)
    (case k26 => k_is)
    (case a27 => k_is)
    (case l27 => k_is)
    (case c27 => k_is)
    (case k27 => k_is)
    (case a28 => k_is)
    (case l28 => k_is)
    (case c28 => k_is)
    (case k28 => k_is)
    (case a29 => k_is)
    (case l29 => k_is)
    (case c29 => k_is)
    (case k29 => k_is)
    (case a30 => k_is)
    (case l30 => k_is)
    (case c30 => k_is)
    (case k30 => k_is)
    (case a31 => k_is)
    (case l31 => k_is)
    (case c31 => k_is)
    (case k31 => k_is)
    (case a32 => k_is)
    (case l32 => k_is)
    (case c32 => k_is)
    (case k32 => k_is)
    (case a33 => k_is)
    (case l33 => k_is)
    (case c33 => k_is)
    (case k33 => k_is)
    (case a34 => k_is)
    (case l34 => k_is)
    (case c34 => k_is)
    (case k34 => k_is)
    (case a35 => k_is)
    (case l35 => k_is)
    (case c35 => k_is)
    (case k35 => k_is)
    (case a36 => k_is)
    (case l36 => k_is)
    (case c36 => k_is)
    (case k36 => k_is)
    (case a37 => k_is)
    (case l37 => k_is)
    (case c37 => k_is)
    (case k37 => k_is)
    (case a38 => k_is)
    (case l38 => k_is)
    (case c38 => k_is)
    (case k38 => k_is)
    (case a39 => k_is)
    (case l39 => k_is)
    (case c39 => k_is)
    (case k39 => k_is)
    (case a40 => k_is)
    (case l40 => k_is)
    (case c40 => k_is)
    (case k40 => k_is)
    (case b_STILL => k_is)
    (case m0 => k_is)
    (case b_QUARTER => k_is)
    (case m1 => k_is)
    (case y_abs => k_is)
    (case y_bool => k_is)
    (case y_int => k_is)
    (case y_isinstance => k_is)
    (case y_len => k_is)
    (case y_list => k_is)
    (case y_min => k_is)
    (case y_range => k_is)
    (case y_str => k_is)
    (case y_tuple => k_is)
