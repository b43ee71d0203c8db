import PyProof.Rows.All
import Wide.All
import OpenK.AllK
import Wide.FinOn
import HandS.ForMost
import HandS.IsInst
import HandS.Style
import HandS.NoneIn
import HandS.Ends
import KE.SortData
import HandS.Defaults
import PySem.Challenge.RW_majordomo_k02_checksum_of_joined_rows
set_option Elab.async false
set_option linter.all false
set_option maxRecDepth 100000
set_option maxHeartbeats 2000000
/-! Dl: data-level readings over the hand layer. -/
namespace Dl
open PySem L2

abbrev D := PyData

/-! ### heaps that grow -/
def Ex (H H' : Hp) : Prop := ∀ a o, H a = some o → H' a = some o
theorem Ex.refl (H : Hp) : Ex H H := fun _ _ h => h
theorem Ex.trans {H H1 H2 : Hp} (a : Ex H H1) (b : Ex H1 H2) : Ex H H2 := fun x o h => b x o (a x o h)
theorem Ex.new {H : Hp} {p : Addr} {o : HO} (h : H p = none) : Ex H (upd H p o) := fun a u e => by
  rw [upd_ne (ne_of_none e h)]
  exact e
theorem Ex.back {H H' : Hp} {p : Addr} (e : Ex H H') (h : H' p = none) : H p = none := by
  cases h1 : H p with
  | none => rfl
  | some o =>
    rw [e p o h1] at h
    cases h
theorem Ex.fwd {H H' : Hp} {p : Addr} (e : Ex H H') (h : H p ≠ none) : H' p ≠ none := fun z => h (e.back z)
theorem ex_rd {H H' : Hp} {a : Addr} {u : HO} (e : Ex H H') (h : Rd H a u) : Rd H' a u := by
  rcases h with h | ⟨o, h⟩
  · exact Or.inl (e a _ h)
  · exact Or.inr ⟨o, e a _ h⟩
theorem ex_l {K : PySem.W.Frag} {H H' : Hp} {a : Addr} {xs : List V} (e : Ex H H') (h : SqL K H a xs) : SqL K H' a xs := by
  rcases h with h | h
  · exact Or.inl (ex_rd e h)
  · exact Or.inr h
theorem ex_t {K : PySem.W.Frag} {H H' : Hp} {a : Addr} {xs : List V} (e : Ex H H') (h : SqT K H a xs) : SqT K H' a xs := by
  rcases h with h | h
  · exact Or.inl (ex_rd e h)
  · exact Or.inr h
/-! ### a value stands for data -/
mutual
inductive Dq (K : PySem.W.Frag) (H : Hp) : V → PyData → Prop
  | non : Dq K H .non .none
  | bl (b : Bool) : Dq K H (.bl b) (.bool b)
  | int (i : Int) : Dq K H (.int i) (.int i)
  | str (x : Str) : Dq K H (.str x) (.str x)
  | lst {a : Addr} {xs : List V} {ds : List PyData} : Rd H a (.lst xs) → DqAll K H xs ds → Dq K H (.ref a) (.list ds)
  | tup {a : Addr} {xs : List V} {ds : List PyData} : SqT K H a xs → DqAll K H xs ds → Dq K H (.ref a) (.tuple ds)
  /-- a list that may be an object of the module (the script): read, told apart from a list of our own -/
  | scr {a : Addr} {xs : List V} {ds : List PyData} : SqL K H a xs → DqAll K H xs ds → Dq K H (.ref a) (.dict [(.none, .list ds)])
inductive DqAll (K : PySem.W.Frag) (H : Hp) : List V → List PyData → Prop
  | nil : DqAll K H [] []
  | cons {v : V} {vs : List V} {d : PyData} {ds : List PyData} : Dq K H v d → DqAll K H vs ds → DqAll K H (v :: vs) (d :: ds)
end
mutual
theorem dq_dp {K : PySem.W.Frag} {H : Hp} : ∀ (d : D) (v : V), d.canLay0 = true → Dq K H v d → Dp K H v d
  | .none, _, _, h => by cases h; exact .non
  | .bool b, _, _, h => by cases h; exact .bl b
  | .int i, _, _, h => by cases h; exact .int i
  | .str x, _, _, h => by cases h; exact .str x
  | .list ds, _, c, h => by
    cases h with
    | lst hs ha => exact .lst (.inl hs) (dqs_dps ds _ (by rw [PyData.canLay0] at c; exact c) ha)
  | .tuple ds, _, c, h => by
    cases h with
    | tup hs ha => exact .tup hs (dqs_dps ds _ (by rw [PyData.canLay0] at c; exact c) ha)
  | .dict _, _, c, _ => by simp [PyData.canLay0] at c
theorem dqs_dps {K : PySem.W.Frag} {H : Hp} : ∀ (ds : List D) (vs : List V), PyData.canLayAll0 ds = true → DqAll K H vs ds → DpAll K H vs ds
  | [], _, _, h => by cases h; exact .nil
  | d :: ds, _, c, h => by
    rw [PyData.canLayAll0, Bool.and_eq_true] at c
    cases h with
    | cons h1 h2 => exact .cons (dq_dp d _ c.1 h1) (dqs_dps ds _ c.2 h2)
end
mutual
theorem dp_mono {K : PySem.W.Frag} {H H' : Hp} (e : Ex H H') : ∀ (d : D) (v : V), Dq K H v d → Dq K H' v d
  | .none, _, h => by cases h; exact .non
  | .bool b, _, h => by cases h; exact .bl b
  | .int i, _, h => by cases h; exact .int i
  | .str x, _, h => by cases h; exact .str x
  | .list ds, _, h => by
    cases h with
    | lst hs ha => exact .lst (ex_rd e hs) (dps_mono e ds _ ha)
  | .tuple ds, _, h => by
    cases h with
    | tup hs ha => exact .tup (ex_t e hs) (dps_mono e ds _ ha)
  | .dict [(.none, .list ds)], _, h => by
    cases h with
    | scr hs ha => exact .scr (ex_l e hs) (dps_mono e ds _ ha)
  | .dict [], _, h => by cases h
  | .dict [(_, .none)], _, h => by cases h
  | .dict [(_, .bool _)], _, h => by cases h
  | .dict [(_, .int _)], _, h => by cases h
  | .dict [(_, .str _)], _, h => by cases h
  | .dict [(_, .tuple _)], _, h => by cases h
  | .dict [(_, .dict _)], _, h => by cases h
  | .dict [(.bool _, .list _)], _, h => by cases h
  | .dict [(.int _, .list _)], _, h => by cases h
  | .dict [(.str _, .list _)], _, h => by cases h
  | .dict [(.list _, .list _)], _, h => by cases h
  | .dict [(.tuple _, .list _)], _, h => by cases h
  | .dict [(.dict _, .list _)], _, h => by cases h
  | .dict (_ :: _ :: _), _, h => by cases h
theorem dps_mono {K : PySem.W.Frag} {H H' : Hp} (e : Ex H H') : ∀ (ds : List D) (vs : List V), DqAll K H vs ds → DqAll K H' vs ds
  | [], _, h => by cases h; exact .nil
  | d :: ds, _, h => by
    cases h with
    | cons h1 h2 => exact .cons (dp_mono e d _ h1) (dps_mono e ds _ h2)
end
section
variable {K : PySem.W.Frag} {H H' : Hp} {v w : V} {vs ws : List V} {d : D} {ds es : List D}
theorem dps_len : ∀ {vs : List V} {ds : List D}, DqAll K H vs ds → vs.length = ds.length
  | _, _, .nil => rfl
  | _, _, .cons _ t => by rw [List.length_cons, List.length_cons, dps_len t]
theorem dps_get : ∀ {vs : List V} {ds : List D} {i : Nat} {d : D}, DqAll K H vs ds → ds[i]? = some d → ∃ v, vs[i]? = some v ∧ Dq K H v d
  | _, _, i, d, .nil, h => by simp at h
  | _, _, 0, d, .cons (v := v) a t, h => by
    have e : _ = d := Option.some.inj h
    subst e
    exact ⟨v, rfl, a⟩
  | _, _, i + 1, d, .cons a t, h => by
    obtain ⟨v, e, q⟩ := dps_get (i := i) (d := d) t h
    exact ⟨v, e, q⟩
theorem dps_getV : ∀ {vs : List V} {ds : List D} {i : Nat} {v : V}, DqAll K H vs ds → vs[i]? = some v → ∃ d, ds[i]? = some d ∧ Dq K H v d
  | _, _, i, v, .nil, h => by simp at h
  | _, _, 0, v, .cons (d := d) a t, h => by
    have e : _ = v := Option.some.inj h
    subst e
    exact ⟨d, rfl, a⟩
  | _, _, i + 1, v, .cons a t, h => by
    obtain ⟨d, e, q⟩ := dps_getV (i := i) (v := v) t h
    exact ⟨d, e, q⟩
theorem dps_app : ∀ {vs : List V} {ds : List D}, DqAll K H vs ds → DqAll K H ws es → DqAll K H (vs ++ ws) (ds ++ es)
  | _, _, .nil, h => h
  | _, _, .cons a t, h => .cons a (dps_app t h)
theorem dps_take : ∀ {vs : List V} {ds : List D} (n : Nat), DqAll K H vs ds → DqAll K H (vs.take n) (ds.take n)
  | _, _, 0, _ => .nil
  | _, _, _ + 1, .nil => .nil
  | _, _, n + 1, .cons a t => .cons a (dps_take n t)
theorem dps_drop : ∀ {vs : List V} {ds : List D} (n : Nat), DqAll K H vs ds → DqAll K H (vs.drop n) (ds.drop n)
  | _, _, 0, h => h
  | _, _, _ + 1, .nil => .nil
  | _, _, n + 1, .cons a t => dps_drop n t
theorem dps_set : ∀ {vs : List V} {ds : List D} (n : Nat), DqAll K H vs ds → Dq K H v d → DqAll K H (vs.set n v) (ds.set n d)
  | _, _, _, .nil, _ => .nil
  | _, _, 0, .cons a t, h => .cons h t
  | _, _, n + 1, .cons a t, h => .cons a (dps_set n t h)
theorem dp_int {i : Int} (h : Dq K H v (.int i)) : v = .int i := by cases h; rfl
theorem dp_bl {b : Bool} (h : Dq K H v (.bool b)) : v = .bl b := by cases h; rfl
theorem dp_str {x : Str} (h : Dq K H v (.str x)) : v = .str x := by cases h; rfl
theorem dp_non (h : Dq K H v .none) : v = .non := by cases h; rfl
theorem dp_lst (h : Dq K H v (.list ds)) : ∃ a vs, v = .ref a ∧ Rd H a (.lst vs) ∧ DqAll K H vs ds := by
  cases h with
  | lst hs ha => exact ⟨_, _, rfl, hs, ha⟩
theorem dp_scr (h : Dq K H v (.dict [(.none, .list ds)])) : ∃ a vs, v = .ref a ∧ SqL K H a vs ∧ DqAll K H vs ds := by
  cases h with
  | scr hs ha => exact ⟨_, _, rfl, hs, ha⟩
theorem dp_tup (h : Dq K H v (.tuple ds)) : ∃ a vs, v = .ref a ∧ SqT K H a vs ∧ DqAll K H vs ds := by
  cases h with
  | tup hs ha => exact ⟨_, _, rfl, hs, ha⟩
theorem dps_ints : ∀ {ns : List Int}, DqAll K H (ns.map V.int) (ns.map PyData.int)
  | [] => .nil
  | n :: ns => .cons (.int n) dps_ints
end

/-! ### slots: what a local name holds -/
inductive S where
  /-- nothing known -/
  | no
  /-- data that never changes -/
  | v (d : D)
  /-- a list of our own -/
  | l (xs : List D)
/-- the tree s at the value v, its own objects within F -/
def Own (K : PySem.W.Frag) (B H : Hp) : S → V → (Addr → Prop) → Prop
  | .no, _, _ => True
  | .v d, v, _ => Dq K B v d
  | .l xs, v, F => ∃ a vs, v = .ref a ∧ F a ∧ H a = some (.lst vs) ∧ DqAll K B vs xs
section
variable {K : PySem.W.Frag} {B B' H H' : Hp} {F F' : Addr → Prop} {s : S} {v : V}
theorem Own.frame (h : Own K B H s v F) (eb : Ex B B') (eh : ∀ a o, F a → H a = some o → H' a = some o) : Own K B' H' s v F := by
  cases s with
  | no => exact True.intro
  | v d => exact dp_mono eb _ _ h
  | l xs =>
    obtain ⟨a, vs, rfl, f, e, q⟩ := h
    exact ⟨a, vs, rfl, f, eh a _ f e, dps_mono eb _ _ q⟩
theorem Own.wide (h : Own K B H s v F) (f : ∀ a, F a → F' a) : Own K B H s v F' := by
  cases s with
  | no => exact True.intro
  | v d => exact h
  | l xs =>
    obtain ⟨a, vs, rfl, g, e, q⟩ := h
    exact ⟨a, vs, rfl, f a g, e, q⟩
end

/-- the bounds of a def's world: B stands for ever, G is its own -/
structure Ok (B H : Hp) (G : Addr → Prop) : Prop where
  ex : Ex B H
  off : ∀ a, G a → B a = none
  on : ∀ a, G a → H a ≠ none
/-- objects were made, nothing else -/
structure Gr (B H B' H' : Hp) : Prop where
  b : Ex B B'
  h : Ex H H'
  ex : Ex B' H'
  nw : ∀ a, B' a ≠ none → B a ≠ none ∨ H a = none
/-- a def went on: its own may have changed -/
structure Ext (B H : Hp) (G : Addr → Prop) (B' H' : Hp) (G' : Addr → Prop) : Prop where
  b : Ex B B'
  keep : ∀ a o, ¬ G a → H a = some o → H' a = some o
  nw : ∀ a, B' a ≠ none → B a ≠ none ∨ H a = none ∨ G a
  own : ∀ a, G' a → G a ∨ H a = none
  all : ∀ a, H a ≠ none → H' a ≠ none
section
variable {B H B1 H1 B2 H2 : Hp} {G G1 G2 : Addr → Prop}
theorem Gr.refl (e : Ex B H) : Gr B H B H := ⟨Ex.refl B, Ex.refl H, e, fun _ h => .inl h⟩
theorem Gr.trans (x : Gr B H B1 H1) (y : Gr B1 H1 B2 H2) : Gr B H B2 H2 :=
  ⟨x.b.trans y.b, x.h.trans y.h, y.ex, fun a h => (y.nw a h).elim (fun z => x.nw a z) fun z => .inr (x.h.back z)⟩
theorem Ok.gr (x : Ok B H G) (y : Gr B H B1 H1) : Ok B1 H1 G :=
  ⟨y.ex, fun a g => Classical.byContradiction fun z => (y.nw a z).elim (fun q => q (x.off a g)) (fun q => x.on a g q), fun a g => y.h.fwd (x.on a g)⟩
theorem Ext.refl : Ext B H G B H G := ⟨Ex.refl B, fun _ _ _ h => h, fun _ h => .inl h, fun _ h => .inl h, fun _ h => h⟩
theorem Ext.gr (x : Gr B H B1 H1) : Ext B H G B1 H1 G := ⟨x.b, fun a o _ h => x.h a o h, fun a h => (x.nw a h).elim .inl fun z => .inr (.inl z), fun _ h => .inl h, fun a h => x.h.fwd h⟩
theorem Ext.trans (x : Ext B H G B1 H1 G1) (y : Ext B1 H1 G1 B2 H2 G2) : Ext B H G B2 H2 G2 := by
  refine ⟨x.b.trans y.b, fun a o ng e => ?_, fun a h => ?_, fun a g => ?_, fun a h => y.all a (x.all a h)⟩
  · refine y.keep a o (fun g1 => ?_) (x.keep a o ng e)
    rcases x.own a g1 with q | q
    · exact ng q
    · rw [q] at e; cases e
  · rcases y.nw a h with q | q | q
    · exact x.nw a q
    · refine .inr (.inl (Classical.byContradiction fun z => x.all a z q))
    · rcases x.own a q with r | r
      · exact .inr (.inr r)
      · exact .inr (.inl r)
  · rcases y.own a g with q | q
    · exact x.own a q
    · exact .inr (Classical.byContradiction fun z => x.all a z q)
end

/-- the local names: V by V -/
structure Rep (K : PySem.W.Frag) (B H : Hp) (G : Addr → Prop) (σ : St) (ρ : List S) : Prop where
  ok : Ok B H G
  len : σ.length = ρ.length
  slot : ∃ R : Nat → Addr → Prop, (∀ i a, R i a → G a) ∧ (∀ i j a, R i a → R j a → i = j) ∧ ∀ i s, ρ[i]? = some s → s ≠ .no → ∃ v, σ[i]? = some (some v) ∧ Own K B H s v (R i)

/-- what an expression gives: data; a thing of our own, read; a new one -/
inductive Z where
  | v (d : D) | b (s : S) | n (s : S)
def ZIs (K : PySem.W.Frag) (B H : Hp) (G : Addr → Prop) (H_0 : Hp) : Z → V → Prop
  | .v d, v => Dq K B v d
  | .b s, v => ∃ R, (∀ a, R a → G a) ∧ s ≠ .no ∧ Own K B H s v R
  | .n s, v => ∃ R, (∀ a, R a → H_0 a = none ∧ B a = none ∧ H a ≠ none) ∧ s ≠ .no ∧ Own K B H s v R
def S.data : S → Option D
  | .no => none
  | .v d => some d
  | .l xs => some (.list xs)
def Z.data : Z → Option D
  | .v d => some d
  | .b s => s.data
  | .n s => s.data
/-- as data that stands by itself: not what is only read -/
def Z.own : Z → Option D
  | .v d => some d
  | .b _ => none
  | .n s => s.data
section
variable {K : PySem.W.Frag} {B B' H H' H_0 H_1 : Hp} {G : Addr → Prop} {R : Addr → Prop} {s : S} {z : Z} {v : V} {d : D}
theorem Own.dp (h : Own K B H s v R) (e : Ex B H) (hd : s.data = some d) : Dq K H v d := by
  cases s with
  | no => cases hd
  | v d' => cases hd; exact dp_mono e _ _ h
  | l xs =>
    cases hd
    obtain ⟨a, vs, rfl, f, e', q⟩ := h
    exact .lst (.inl e') (dps_mono e _ _ q)
theorem ZIs.dp (h : ZIs K B H G H_0 z v) (e : Ex B H) (hd : z.data = some d) : Dq K H v d := by
  cases z with
  | v d' => cases hd; exact dp_mono e _ _ h
  | b s => obtain ⟨R, _, _, q⟩ := h; exact q.dp e hd
  | n s => obtain ⟨R, _, _, q⟩ := h; exact q.dp e hd
theorem ZIs.gr (h : ZIs K B H G H_0 z v) (g : Gr B H B' H') : ZIs K B' H' G H_0 z v := by
  cases z with
  | v d' => exact dp_mono g.b _ _ h
  | b s => obtain ⟨R, r, nn, q⟩ := h; exact ⟨R, r, nn, q.frame g.b fun a o _ e => g.h a o e⟩
  | n s =>
    obtain ⟨R, r, nn, q⟩ := h
    refine ⟨R, fun a ra => ⟨(r a ra).1, ?_, g.h.fwd (r a ra).2.2⟩, nn, q.frame g.b fun a o _ e => g.h a o e⟩
    exact Classical.byContradiction fun z => (g.nw a z).elim (fun q => q (r a ra).2.1) fun q => (r a ra).2.2 q
theorem ZIs.early (h : ZIs K B H G H_1 z v) (e : Ex H_0 H_1) : ZIs K B H G H_0 z v := by
  cases z with
  | v d' => exact h
  | b s => exact h
  | n s =>
    obtain ⟨R, r, nn, q⟩ := h
    exact ⟨R, fun a ra => ⟨e.back (r a ra).1, (r a ra).2⟩, nn, q⟩
/-- a region becomes part of what stands for ever -/
noncomputable def froz (B H : Hp) (R : Addr → Prop) : Hp := fun a => open Classical in if R a then H a else B a
theorem froz_gr {B_0 H_0 B H : Hp} {R : Addr → Prop} (r : ∀ a, R a → H_0 a = none ∧ B a = none ∧ H a ≠ none) (g : Gr B_0 H_0 B H) : Gr B_0 H_0 (froz B H R) H ∧ Ex B (froz B H R) := by
  have eb : Ex B (froz B H R) := fun a o h => by
    unfold froz
    rw [if_neg]
    · exact h
    · intro ra
      rw [(r a ra).2.1] at h; cases h
  refine ⟨⟨g.b.trans eb, g.h, fun a o h => ?_, fun a h => ?_⟩, eb⟩
  · unfold froz at h
    by_cases ra : R a
    · rw [if_pos ra] at h; exact h
    · rw [if_neg ra] at h; exact g.ex a o h
  · unfold froz at h
    by_cases ra : R a
    · exact .inr (r a ra).1
    · rw [if_neg ra] at h; exact g.nw a h
theorem Own.froz (h : Own K B H s v R) (eb : Ex B (froz B H R)) (hd : s.data = some d) : Dq K (froz B H R) v d := by
  cases s with
  | no => cases hd
  | v d' => cases hd; exact dp_mono eb _ _ h
  | l xs =>
    cases hd
    obtain ⟨a, vs, rfl, f, e', q⟩ := h
    refine .lst (.inl ?_) (dps_mono eb _ _ q)
    unfold Dl.froz
    rw [if_pos f]
    exact e'
/-- a new thing, frozen -/
theorem ZIs.clean {B_0 : Hp} (h : ZIs K B H G H_0 z v) (g : Gr B_0 H_0 B H) (hd : z.own = some d) : ∃ B', Gr B_0 H_0 B' H ∧ Ex B B' ∧ Dq K B' v d := by
  cases z with
  | v d' => cases hd; exact ⟨B, g, Ex.refl B, h⟩
  | b s => cases hd
  | n s =>
    obtain ⟨R, r, _, q⟩ := h
    obtain ⟨g', eb⟩ := froz_gr r g
    exact ⟨_, g', eb, q.froz eb hd⟩
end

/-! ### the local names, when something happens -/
section
variable {K : PySem.W.Frag} {B B' H H' : Hp} {G : Addr → Prop} {σ : St} {ρ : List S} {i : Nat} {v : V} {d : D} {s : S} {z : Z}
theorem Rep.gr (p : Rep K B H G σ ρ) (g : Gr B H B' H') : Rep K B' H' G σ ρ := by
  obtain ⟨R, r1, r2, r3⟩ := p.slot
  exact ⟨p.ok.gr g, p.len, R, r1, r2, fun i s e ns => by
    obtain ⟨v, e1, q⟩ := r3 i s e ns
    exact ⟨v, e1, q.frame g.b fun a o _ h => g.h a o h⟩⟩
theorem Rep.ex (p : Rep K B H G σ ρ) : Ex B H := p.ok.ex
theorem Rep.get (p : Rep K B H G σ ρ) (e : ρ[i]? = some s) (ns : s ≠ .no) : ∃ v, σ[i]? = some (some v) ∧ ∃ R, (∀ a, R a → G a) ∧ Own K B H s v R := by
  obtain ⟨R, r1, r2, r3⟩ := p.slot
  obtain ⟨v, e1, q⟩ := r3 i s e ns
  exact ⟨v, e1, R i, r1 i, q⟩
/-- a name gets data -/
theorem Rep.setV (p : Rep K B H G σ ρ) (h : Dq K B v d) : Rep K B H G (σ.set i (some v)) (ρ.set i (.v d)) := by
  obtain ⟨R, r1, r2, r3⟩ := p.slot
  refine ⟨p.ok, by rw [List.length_set, List.length_set, p.len], R, r1, r2, fun j s e ns => ?_⟩
  by_cases hj : i = j
  · subst hj
    have hi : i < ρ.length := by
      have := (List.getElem?_eq_some_iff.mp e).1
      rwa [List.length_set] at this
    rw [List.getElem?_set_self hi] at e
    cases e
    exact ⟨v, List.getElem?_set_self (by rw [p.len]; exact hi), h⟩
  · rw [List.getElem?_set_ne hj] at e ⊢
    exact r3 j s e ns
/-- a name is forgotten -/
theorem Rep.forget (p : Rep K B H G σ ρ) {σ' : St} (hl : σ'.length = σ.length) (hs : ∀ j, j ≠ i → σ'[j]? = σ[j]?) : Rep K B H G σ' (ρ.set i .no) := by
  obtain ⟨R, r1, r2, r3⟩ := p.slot
  refine ⟨p.ok, by rw [hl, List.length_set, p.len], R, r1, r2, fun j s e ns => ?_⟩
  by_cases hj : i = j
  · subst hj
    have hi : i < ρ.length := by
      have := (List.getElem?_eq_some_iff.mp e).1
      rwa [List.length_set] at this
    rw [List.getElem?_set_self hi] at e
    cases e
    exact absurd rfl ns
  · rw [List.getElem?_set_ne hj] at e
    rw [hs j (fun z => hj z.symm)]
    exact r3 j s e ns
/-- a name gets a new thing -/
theorem Rep.setN (p : Rep K B H G σ ρ) {R' : Addr → Prop} (h : Own K B H s v R') (r : ∀ a, R' a → B a = none ∧ H a ≠ none) (hG : ∀ a, R' a → ¬ G a) :
    Rep K B H (fun a => G a ∨ R' a) (σ.set i (some v)) (ρ.set i s) := by
  obtain ⟨R, r1, r2, r3⟩ := p.slot
  refine ⟨⟨p.ok.ex, fun a g => g.elim (p.ok.off a) fun z => (r a z).1, fun a g => g.elim (p.ok.on a) fun z => (r a z).2⟩, by rw [List.length_set, List.length_set, p.len], fun j a => if j = i then R' a else R j a, fun j a hj => ?_, fun j k a hj hk => ?_, fun j t e ns => ?_⟩
  · by_cases h0 : j = i
    · exact .inr (by simpa [h0] using hj)
    · exact .inl (r1 j a (by simpa [h0] using hj))
  · by_cases h0 : j = i <;> by_cases h1 : k = i
    · rw [h0, h1]
    · simp only [h0, h1, if_true, if_false] at hj hk
      exact absurd (r1 k a hk) (hG a hj)
    · simp only [h0, h1, if_true, if_false] at hj hk
      exact absurd (r1 j a hj) (hG a hk)
    · simp only [h0, h1, if_false] at hj hk
      exact r2 j k a hj hk
  · by_cases hj : i = j
    · subst hj
      have hi : i < ρ.length := by
        have := (List.getElem?_eq_some_iff.mp e).1
        rwa [List.length_set] at this
      rw [List.getElem?_set_self hi] at e
      cases e
      exact ⟨v, List.getElem?_set_self (by rw [p.len]; exact hi), by simpa using h⟩
    · rw [List.getElem?_set_ne hj] at e ⊢
      obtain ⟨w, e1, q⟩ := r3 j t e ns
      have hji : ¬ j = i := fun z => hj z.symm
      exact ⟨w, e1, by simpa [hji] using q⟩
/-- our own list in a name is changed -/
theorem Rep.mutL (p : Rep K B H G σ ρ) {xs ys : List D} (e : ρ[i]? = some (.l xs)) : ∃ a vs, σ[i]? = some (some (.ref a)) ∧ H a = some (.lst vs) ∧ DqAll K B vs xs ∧
    ∀ ws, DqAll K B ws ys → Rep K B (upd H a (.lst ws)) G σ (ρ.set i (.l ys)) ∧ Ext B H G B (upd H a (.lst ws)) G := by
  obtain ⟨R, r1, r2, r3⟩ := p.slot
  obtain ⟨v, e1, a, vs, rfl, f, h1, q⟩ := r3 i _ e (by intro z; cases z)
  refine ⟨a, vs, e1, h1, q, fun ws hw => ?_⟩
  have ga := r1 i a f
  have exB : Ex B (upd H a (.lst ws)) := fun b o hb => by
    have : b ≠ a := fun z => by rw [z, p.ok.off a ga] at hb; cases hb
    rw [upd_ne this]
    exact p.ok.ex b o hb
  have hi : i < ρ.length := (List.getElem?_eq_some_iff.mp e).1
  refine ⟨⟨⟨exB, p.ok.off, fun b g => ?_⟩, by rw [List.length_set, p.len], R, r1, r2, fun j t ej ns => ?_⟩, ⟨Ex.refl B, fun b o ng h => ?_, fun _ h => .inl h, fun _ h => .inl h, fun b h => ?_⟩⟩
  · by_cases hb : b = a
    · rw [hb, upd_same]; intro z; cases z
    · rw [upd_ne hb]; exact p.ok.on b g
  · by_cases hj : i = j
    · subst hj
      rw [List.getElem?_set_self hi] at ej
      cases ej
      exact ⟨_, e1, a, ws, rfl, f, upd_same, hw⟩
    · rw [List.getElem?_set_ne hj] at ej
      obtain ⟨w, e2, q2⟩ := r3 j t ej ns
      refine ⟨w, e2, q2.frame (Ex.refl B) fun b o fb hb => ?_⟩
      have : b ≠ a := fun z => hj (r2 i j a f (z ▸ fb))
      rw [upd_ne this]
      exact hb
  · have : b ≠ a := fun z => ng (z ▸ ga)
    rw [upd_ne this]
    exact h
  · by_cases hb : b = a
    · rw [hb, upd_same]; intro z; cases z
    · rw [upd_ne hb]; exact h
/-- our own list in a name stands for ever from now on -/
theorem Rep.freeze (p : Rep K B H G σ ρ) (e : ρ[i]? = some s) (hd : s.data = some d) : ∃ B' G', Rep K B' H G' σ (ρ.set i (.v d)) ∧ Ext B H G B' H G' := by
  obtain ⟨R, r1, r2, r3⟩ := p.slot
  obtain ⟨v, e1, q⟩ := r3 i s e (fun z => by rw [z] at hd; cases hd)
  have eb : Ex B (froz B H (R i)) := fun a o h => by
    unfold froz
    rw [if_neg]
    · exact h
    · intro ra
      rw [p.ok.off a (r1 i a ra)] at h; cases h
  have ex : Ex (froz B H (R i)) H := fun a o h => by
    unfold froz at h
    by_cases ra : R i a
    · rw [if_pos ra] at h; exact h
    · rw [if_neg ra] at h; exact p.ok.ex a o h
  have hi : i < ρ.length := (List.getElem?_eq_some_iff.mp e).1
  refine ⟨froz B H (R i), fun a => G a ∧ ¬ R i a, ⟨⟨ex, fun a g => ?_, fun a g => p.ok.on a g.1⟩, by rw [List.length_set, p.len], fun j a => R j a ∧ ¬ R i a, fun j a h => ⟨r1 j a h.1, h.2⟩, fun j k a h1 h2 => r2 j k a h1.1 h2.1, fun j t ej ns => ?_⟩, ⟨eb, fun a o _ h => h, fun a h => ?_, fun a g => .inl g.1, fun _ h => h⟩⟩
  · unfold froz
    rw [if_neg g.2]
    exact p.ok.off a g.1
  · by_cases hj : i = j
    · subst hj
      rw [List.getElem?_set_self hi] at ej
      cases ej
      exact ⟨v, e1, q.froz eb hd⟩
    · rw [List.getElem?_set_ne hj] at ej
      obtain ⟨w, e2, q2⟩ := r3 j t ej ns
      refine ⟨w, e2, (q2.frame eb fun _ _ _ h => h).wide ?_⟩
      intro a ra
      exact ⟨ra, fun z => hj (r2 i j a z ra)⟩
  · unfold froz at h
    by_cases ra : R i a
    · exact .inr (.inr (r1 i a ra))
    · rw [if_neg ra] at h; exact .inl h
end
end Dl

set_option maxHeartbeats 2000000
namespace Dl
open PySem L2

/-! ### readings by data -/
abbrev dE := List S → (Z → Prop) → Prop
abbrev dT := List S → (Bool → Prop) → Prop
abbrev dA := List S → (List Z → Prop) → Prop
abbrev dC := List S → (List D → Prop) → Prop
structure SimE (K : PySem.W.Frag) (te : TE) (de : dE) : Prop where
  run : ∀ {B H : Hp} {G : Addr → Prop} {σ : St} {ρ : List S} {Qd : Z → Prop} {Q : VK}, Rep K B H G σ ρ → de ρ Qd → (∀ z v B' H', Gr B H B' H' → ZIs K B' H' G H z v → Qd z → Q v H') → te σ H Q
structure SimT (K : PySem.W.Frag) (tt : TT) (dt : dT) : Prop where
  run : ∀ {B H : Hp} {G : Addr → Prop} {σ : St} {ρ : List S} {Qd : Bool → Prop} {Q : Bool → Hp → Prop}, Rep K B H G σ ρ → dt ρ Qd → (∀ b B' H', Gr B H B' H' → Qd b → Q b H') → tt σ H Q
inductive ZAll (K : PySem.W.Frag) (B H : Hp) (G : Addr → Prop) (H_0 : Hp) : List Z → List V → Prop
  | nil : ZAll K B H G H_0 [] []
  | cons {z : Z} {v : V} {zs : List Z} {vs : List V} : ZIs K B H G H_0 z v → ZAll K B H G H_0 zs vs → ZAll K B H G H_0 (z :: zs) (v :: vs)
structure SimA (K : PySem.W.Frag) (ta : TA) (da : dA) : Prop where
  run : ∀ {B H : Hp} {G : Addr → Prop} {σ : St} {ρ : List S} {Qd : List Z → Prop} {Q : List V → Hp → Prop}, Rep K B H G σ ρ → da ρ Qd → (∀ zs vs B' H', Gr B H B' H' → ZAll K B' H' G H zs vs → Qd zs → Q vs H') → ta σ H Q
/-- the same, all of it data that stands -/
structure SimC (K : PySem.W.Frag) (ta : TA) (dc : dC) : Prop where
  run : ∀ {B H : Hp} {G : Addr → Prop} {σ : St} {ρ : List S} {Qd : List D → Prop} {Q : List V → Hp → Prop}, Rep K B H G σ ρ → dc ρ Qd → (∀ ds vs B' H', Gr B H B' H' → DqAll K B' vs ds → Qd ds → Q vs H') → ta σ H Q
def SimR (K : PySem.W.Frag) (r : R2) (dr : Z → Z → (Z → Prop) → Prop) : Prop :=
  ∀ {B H : Hp} {G : Addr → Prop} {H_0 : Hp} {x y : Z} {v w : V} {Qd : Z → Prop} {Q : VK}, Ok B H G → ZIs K B H G H_0 x v → ZIs K B H G H_0 y w → dr x y Qd → (∀ z v' B' H', Gr B H B' H' → ZIs K B' H' G H z v' → Qd z → Q v' H') → r v w H Q
def SimU (K : PySem.W.Frag) (r : V → Hp → VK → Prop) (dr : Z → (Z → Prop) → Prop) : Prop :=
  ∀ {B H : Hp} {G : Addr → Prop} {H_0 : Hp} {x : Z} {v : V} {Qd : Z → Prop} {Q : VK}, Ok B H G → ZIs K B H G H_0 x v → dr x Qd → (∀ z v' B' H', Gr B H B' H' → ZIs K B' H' G H z v' → Qd z → Q v' H') → r v H Q
def SimL (K : PySem.W.Frag) (r : List V → Hp → VK → Prop) (dr : List Z → (Z → Prop) → Prop) : Prop :=
  ∀ {B H : Hp} {G : Addr → Prop} {H_0 : Hp} {xs : List Z} {vs : List V} {Qd : Z → Prop} {Q : VK}, Ok B H G → ZAll K B H G H_0 xs vs → dr xs Qd → (∀ z v' B' H', Gr B H B' H' → ZIs K B' H' G H z v' → Qd z → Q v' H') → r vs H Q

section
variable {K : PySem.W.Frag} {B B' H H' H_0 H_1 : Hp} {G : Addr → Prop} {zs : List Z} {vs : List V}
theorem ZAll.gr (h : ZAll K B H G H_0 zs vs) (g : Gr B H B' H') : ZAll K B' H' G H_0 zs vs := by
  induction h with
  | nil => exact .nil
  | cons a _ ih => exact .cons (a.gr g) ih
theorem ZAll.early (h : ZAll K B H G H_1 zs vs) (e : Ex H_0 H_1) : ZAll K B H G H_0 zs vs := by
  induction h with
  | nil => exact .nil
  | cons a _ ih => exact .cons (a.early e) ih
end

/-! ### expressions -/
structure CE (X : Cx) (e : Expr) (te : TE) (de : dE) : Prop where
  pe : PE X e te
  sim : SimE X.K te de
structure CT (X : Cx) (e : Expr) (tt : TT) (dt : dT) : Prop where
  pt : PT X e tt
  sim : SimT X.K tt dt
structure CW (X : Cx) (e : Expr) (tt : TT) (dt : dT) : Prop where
  pw : PW X e tt
  sim : SimT X.K tt dt
structure CA (X : Cx) (es : List Expr) (ta : TA) (da : dA) : Prop where
  pa : PA X es ta
  sim : SimA X.K ta da
structure CC (X : Cx) (es : List Expr) (ta : TA) (dc : dC) : Prop where
  pa : PA X es ta
  sim : SimC X.K ta dc

def dVar (i : Nat) : dE := fun ρ Q => match ρ[i]? with
  | some .no => False
  | some (.v d) => Q (.v d)
  | some s => Q (.b s)
  | none => False
def dK (d : D) : dE := fun _ Q => Q (.v d)
def dOp (dr : Z → Z → (Z → Prop) → Prop) (da db : dE) : dE := fun ρ Q => da ρ fun x => db ρ fun y => dr x y Q
def dUn (dr : Z → (Z → Prop) → Prop) (da : dE) : dE := fun ρ Q => da ρ fun x => dr x Q
def dNil : dA := fun _ Q => Q []
def dCons (da : dE) (dr : dA) : dA := fun ρ Q => da ρ fun x => dr ρ fun xs => Q (x :: xs)
def dCnil : dC := fun _ Q => Q []
def dCcons (da : dE) (dr : dC) : dC := fun ρ Q => da ρ fun x => match x.own with
  | some d => dr ρ fun ds => Q (d :: ds)
  | none => False
def dCall (dr : List Z → (Z → Prop) → Prop) (da : dA) : dE := fun ρ Q => da ρ fun xs => dr xs Q
section
variable {K : PySem.W.Frag}
theorem sim_var {i : Nat} : SimE K (tVar i) (dVar i) := by
  refine ⟨fun {B H G σ ρ Qd Q} p h k => ?_⟩
  unfold dVar at h
  cases e : ρ[i]? with
  | none => rw [e] at h; exact h.elim
  | some s =>
    rw [e] at h
    cases s with
    | no => exact h.elim
    | v d =>
      obtain ⟨v, e1, R, r, q⟩ := p.get e (by intro z; cases z)
      exact ⟨v, e1, k (.v d) v B H (Gr.refl p.ex) q h⟩
    | l xs =>
      obtain ⟨v, e1, R, r, q⟩ := p.get e (by intro z; cases z)
      exact ⟨v, e1, k (.b (.l xs)) v B H (Gr.refl p.ex) ⟨R, r, (by intro z; cases z), q⟩ h⟩
theorem sim_c {v : V} {d : D} (h : ∀ H, Dq K H v d) : SimE K (tC v) (dK d) := ⟨fun {B H G σ ρ Qd Q} p q k => k (.v d) v B H (Gr.refl p.ex) (h B) q⟩
theorem sim_op {r : R2} {dr : Z → Z → (Z → Prop) → Prop} {ta tb : TE} {da db : dE} (hr : SimR K r dr) (ha : SimE K ta da) (hb : SimE K tb db) : SimE K (tOp r ta tb) (dOp dr da db) := by
  refine ⟨fun {B H G σ ρ Qd Q} p h k => ?_⟩
  refine ha.run p h fun x v B1 H1 g1 z1 h1 => ?_
  refine hb.run (p.gr g1) h1 fun y w B2 H2 g2 z2 h2 => ?_
  refine hr ((p.ok.gr g1).gr g2) (H_0 := H) (z1.gr g2) (z2.early g1.h) h2 fun z v' B' H' g3 z3 q => ?_
  exact k z v' B' H' ((g1.trans g2).trans g3) (z3.early (g1.h.trans g2.h)) q
theorem sim_un {r : V → Hp → VK → Prop} {dr : Z → (Z → Prop) → Prop} {ta : TE} {da : dE} (hr : SimU K r dr) (ha : SimE K ta da) : SimE K (tUn r ta) (dUn dr da) := by
  refine ⟨fun {B H G σ ρ Qd Q} p h k => ?_⟩
  refine ha.run p h fun x v B1 H1 g1 z1 h1 => ?_
  refine hr (p.ok.gr g1) z1 h1 fun z v' B' H' g3 z3 q => ?_
  exact k z v' B' H' (g1.trans g3) (z3.early g1.h) q
theorem sim_nil : SimA K tNil dNil := ⟨fun {B H G σ ρ Qd Q} p h k => k [] [] B H (Gr.refl p.ex) .nil h⟩
theorem sim_cons {ta : TE} {tr : TA} {da : dE} {dr : dA} (ha : SimE K ta da) (hr : SimA K tr dr) : SimA K (tCons ta tr) (dCons da dr) := by
  refine ⟨fun {B H G σ ρ Qd Q} p h k => ?_⟩
  refine ha.run p h fun x v B1 H1 g1 z1 h1 => ?_
  refine hr.run (p.gr g1) h1 fun xs vs B2 H2 g2 z2 h2 => ?_
  exact k _ _ B2 H2 (g1.trans g2) (.cons (z1.gr g2) (z2.early g1.h)) h2
theorem sim_cnil : SimC K tNil dCnil := ⟨fun {B H G σ ρ Qd Q} p h k => k [] [] B H (Gr.refl p.ex) .nil h⟩
theorem sim_ccons {ta : TE} {tr : TA} {da : dE} {dr : dC} (ha : SimE K ta da) (hr : SimC K tr dr) : SimC K (tCons ta tr) (dCcons da dr) := by
  refine ⟨fun {B H G σ ρ Qd Q} p h k => ?_⟩
  refine ha.run p h fun x v B1 H1 g1 z1 h1 => ?_
  have h1 : (match x.own with
    | some d => dr ρ fun ds => Qd (d :: ds)
    | none => False) := h1
  cases e : x.own with
  | none => rw [e] at h1; exact h1.elim
  | some d =>
    rw [e] at h1
    obtain ⟨B1', g1', eb, hd⟩ := z1.clean g1 e
    refine hr.run (p.gr g1') h1 fun xs vs B2 H2 g2 z2 h2 => ?_
    exact k _ _ B2 H2 (g1'.trans g2) (.cons (dp_mono g2.b _ _ hd) z2) h2
/-- a call of something built in -/
theorem sim_cb {r : List V → Hp → VK → Prop} {dr : List Z → (Z → Prop) → Prop} {ta : TA} {da : dA} (hr : SimL K r dr) (ha : SimA K ta da) : SimE K (fun σ H Q => ta σ H fun xs H' => r xs H' Q) (dCall dr da) := by
  refine ⟨fun {B H G σ ρ Qd Q} p h k => ?_⟩
  refine ha.run p h fun x v B1 H1 g1 z1 h1 => ?_
  refine hr (p.ok.gr g1) z1 h1 fun z v' B' H' g3 z3 q => ?_
  exact k z v' B' H' (g1.trans g3) (z3.early g1.h) q
end

/-! ### operations -/
def dI (f : Int → Int → D) (x y : Z) (Q : Z → Prop) : Prop := match x.data, y.data with
  | some (.int i), some (.int j) => Q (.v (f i j))
  | _, _ => False
def dIC (C : Int → Int → Prop) (f : Int → Int → D) (x y : Z) (Q : Z → Prop) : Prop := match x.data, y.data with
  | some (.int i), some (.int j) => C i j ∧ Q (.v (f i j))
  | _, _ => False
/-- what two readings of a pair of data give -/
theorem data_cases {α : Type} {P : Prop} (o1 o2 : Option D) (f : D → D → Prop) (h : match o1, o2 with
  | some d, some e => f d e
  | _, _ => False) (k : ∀ d e, o1 = some d → o2 = some e → f d e → P) : P := by
  cases o1 with
  | none => exact h.elim
  | some d =>
    cases o2 with
    | none => exact h.elim
    | some e => exact k d e rfl rfl h
section
variable {K : PySem.W.Frag}
theorem simR_I0 {g : Int → Int → V} {f : Int → Int → D} (hg : ∀ i j H, Dq K H (g i j) (f i j)) : SimR K (rI0 g) (dI f) := by
  intro B H G H_0 x y v w Qd Q ok zx zy h k
  unfold dI at h
  split at h
  · rename_i i j e1 e2
    have a := dp_int (zx.dp ok.ex e1)
    have b := dp_int (zy.dp ok.ex e2)
    exact ⟨i, j, a, b, k (.v (f i j)) _ B H (Gr.refl ok.ex) (hg i j B) h⟩
  · exact h.elim
theorem simR_I {C : Int → Int → Prop} {g : Int → Int → V} {f : Int → Int → D} (hg : ∀ i j H, Dq K H (g i j) (f i j)) : SimR K (rI C g) (dIC C f) := by
  intro B H G H_0 x y v w Qd Q ok zx zy h k
  unfold dIC at h
  split at h
  · rename_i i j e1 e2
    have a := dp_int (zx.dp ok.ex e1)
    have b := dp_int (zy.dp ok.ex e2)
    exact ⟨i, j, a, b, h.1, k (.v (f i j)) _ B H (Gr.refl ok.ex) (hg i j B) h.2⟩
  · exact h.elim
/-- a new list of data that stands -/
theorem new_list {B H : Hp} {G : Addr → Prop} {p : Addr} {vs : List V} {ds : List D} (ok : Ok B H G) (hp : H p = none) (h : DqAll K B vs ds) : Gr B H B (upd H p (.lst vs)) ∧ ZIs K B (upd H p (.lst vs)) G H (.n (.l ds)) (.ref p) := by
  refine ⟨⟨Ex.refl B, Ex.new hp, ok.ex.trans (Ex.new hp), fun a h => .inl h⟩, fun a => a = p, fun a e => ?_, (by intro z; cases z), p, vs, rfl, rfl, upd_same, h⟩
  subst e
  exact ⟨hp, ok.ex.back hp, by rw [upd_same]; intro z; cases z⟩
/-- a new tuple of data that stands -/
theorem new_tup {B H : Hp} {G : Addr → Prop} {p : Addr} {vs : List V} {ds : List D} (ok : Ok B H G) (hp : H p = none) (h : DqAll K B vs ds) : Gr B H (upd B p (.tup vs)) (upd H p (.tup vs)) ∧ ZIs K (upd B p (.tup vs)) (upd H p (.tup vs)) G H (.v (.tuple ds)) (.ref p) := by
  have hb : B p = none := ok.ex.back hp
  refine ⟨⟨Ex.new hb, Ex.new hp, fun a o e => ?_, fun a h => ?_⟩, .tup (.inl (.inl upd_same)) (dps_mono (Ex.new hb) _ _ h)⟩
  · by_cases ha : a = p
    · rw [ha, upd_same] at e ⊢; exact e
    · rw [upd_ne ha] at e ⊢; exact ok.ex a o e
  · by_cases ha : a = p
    · exact .inr (ha ▸ hp)
    · rw [upd_ne ha] at h; exact .inl h
/-- the items of a list that is read: they stand -/
def S.items : S → Option (List D)
  | .v (.list xs) => some xs
  | .v (.dict [(.none, .list xs)]) => some xs
  | .l xs => some xs
  | _ => none
def Z.items : Z → Option (List D)
  | .v d => S.items (.v d)
  | .b s => s.items
  | .n s => s.items
theorem dq_items {H : Hp} {v : V} {d : D} {xs : List D} (h : Dq K H v d) (e : S.items (.v d) = some xs) : ∃ a vs, v = .ref a ∧ SqL K H a vs ∧ DqAll K H vs xs := by
  cases h with
  | lst r q => cases e; exact ⟨_, _, rfl, .inl r, q⟩
  | scr r q => cases e; exact ⟨_, _, rfl, r, q⟩
  | _ => cases e
theorem Own.items {B H : Hp} {R : Addr → Prop} {s : S} {v : V} {xs : List D} (h : Own K B H s v R) (ex : Ex B H) (e : s.items = some xs) : ∃ a vs, v = .ref a ∧ SqL K H a vs ∧ DqAll K B vs xs := by
  cases s with
  | no => cases e
  | v d =>
    obtain ⟨a, vs, rfl, h1, h2⟩ := dq_items h e
    exact ⟨a, vs, rfl, ex_l ex h1, h2⟩
  | l ys =>
    cases e
    obtain ⟨a, vs, rfl, _, h1, h2⟩ := h
    exact ⟨a, vs, rfl, .inl (.inl h1), h2⟩
theorem ZIs.items {B H H_0 : Hp} {G : Addr → Prop} {z : Z} {v : V} {xs : List D} (h : ZIs K B H G H_0 z v) (ok : Ok B H G) (e : z.items = some xs) : ∃ a vs, v = .ref a ∧ SqL K H a vs ∧ DqAll K B vs xs := by
  cases z with
  | v d => exact Own.items (s := .v d) (R := fun _ => False) h ok.ex e
  | b s => obtain ⟨R, _, _, q⟩ := h; exact q.items ok.ex e
  | n s => obtain ⟨R, _, _, q⟩ := h; exact q.items ok.ex e
/-- .. of a list that is told exactly -/
theorem Own.rd {B H : Hp} {R : Addr → Prop} {s : S} {v : V} {xs : List D} (h : Own K B H s v R) (ex : Ex B H) (e : s.data = some (.list xs)) : ∃ a vs, v = .ref a ∧ Rd H a (.lst vs) ∧ DqAll K B vs xs := by
  cases s with
  | no => cases e
  | v d =>
    cases e
    obtain ⟨a, vs, rfl, h1, h2⟩ := dp_lst h
    exact ⟨a, vs, rfl, ex_rd ex h1, h2⟩
  | l ys =>
    cases e
    obtain ⟨a, vs, rfl, _, h1, h2⟩ := h
    exact ⟨a, vs, rfl, .inl h1, h2⟩
theorem ZIs.rd {B H H_0 : Hp} {G : Addr → Prop} {z : Z} {v : V} {xs : List D} (h : ZIs K B H G H_0 z v) (ok : Ok B H G) (e : z.data = some (.list xs)) : ∃ a vs, v = .ref a ∧ Rd H a (.lst vs) ∧ DqAll K B vs xs := by
  cases z with
  | v d => exact Own.rd (s := .v d) (R := fun _ => False) h ok.ex e
  | b s => obtain ⟨R, _, _, q⟩ := h; exact q.rd ok.ex e
  | n s => obtain ⟨R, _, _, q⟩ := h; exact q.rd ok.ex e
theorem s_items_scr {s : S} {xs : List D} (h : s.data = some (.dict [(.none, .list xs)])) : s.items = some xs := by
  cases s with
  | no => cases h
  | v d => cases h; rfl
  | l ys => cases h
theorem items_scr {x : Z} {xs : List D} (h : x.data = some (.dict [(.none, .list xs)])) : x.items = some xs := by
  cases x with
  | v d => cases h; rfl
  | b s => exact s_items_scr h
  | n s => exact s_items_scr h
/-- the members of a tuple -/
def S.mems : S → Option (List D)
  | .v (.tuple xs) => some xs
  | _ => none
def Z.mems : Z → Option (List D)
  | .v d => S.mems (.v d)
  | .b s => s.mems
  | .n s => s.mems
theorem Own.mems {B H : Hp} {R : Addr → Prop} {s : S} {v : V} {xs : List D} (h : Own K B H s v R) (ex : Ex B H) (e : s.mems = some xs) : ∃ a vs, v = .ref a ∧ SqT K H a vs ∧ SqT K B a vs ∧ DqAll K B vs xs := by
  cases s with
  | no => cases e
  | v d =>
    cases d with
    | tuple ys =>
      cases e
      obtain ⟨a, vs, rfl, h1, h2⟩ := dp_tup h
      exact ⟨a, vs, rfl, ex_t ex h1, h1, h2⟩
    | _ => cases e
  | l ys => cases e
theorem ZIs.mems {B H H_0 : Hp} {G : Addr → Prop} {z : Z} {v : V} {xs : List D} (h : ZIs K B H G H_0 z v) (ok : Ok B H G) (e : z.mems = some xs) : ∃ a vs, v = .ref a ∧ SqT K H a vs ∧ SqT K B a vs ∧ DqAll K B vs xs := by
  cases z with
  | v d => exact Own.mems (s := .v d) (R := fun _ => False) h ok.ex e
  | b s => obtain ⟨R, _, _, q⟩ := h; exact q.mems ok.ex e
  | n s => obtain ⟨R, _, _, q⟩ := h; exact q.mems ok.ex e
theorem s_items_of {s : S} {xs : List D} (h : s.data = some (.list xs)) : s.items = some xs := by
  cases s with
  | no => cases h
  | v d => cases h; rfl
  | l ys => cases h; rfl
theorem items_of {x : Z} {xs : List D} (h : x.data = some (.list xs)) : x.items = some xs := by
  cases x with
  | v d => cases h; rfl
  | b s => exact s_items_of h
  | n s => exact s_items_of h
theorem s_mems_of {s : S} {xs : List D} (h : s.data = some (.tuple xs)) : s.mems = some xs := by
  cases s with
  | no => cases h
  | v d => cases h; rfl
  | l ys => cases h
theorem mems_of {x : Z} {xs : List D} (h : x.data = some (.tuple xs)) : x.mems = some xs := by
  cases x with
  | v d => cases h; rfl
  | b s => exact s_mems_of h
  | n s => exact s_mems_of h
end

/-! list + list of any kind of list -/
section
variable {X : Cx}
def rCatR : R2 := fun x y H Q => ∃ l b xs zs, x = .ref l ∧ y = .ref b ∧ Rd H l (.lst xs) ∧ Rd H b (.lst zs) ∧ xs.length + zs.length ≤ sizeLine ∧ ∀ p, H p = none → Q (.ref p) (upd H p (.lst (xs ++ zs)))
theorem lstR {pins : List (Addr × Obj)} {σ : St} {H : Hp} {s : Shared} {l : Addr} {xs : List V} (I : Inv X pins σ H s) (hH : Rd H l (.lst xs)) : xs.length ≤ sizeLine ∧ ∃ (its : List Value) (n : Nat), Vals xs its ∧ xs.length = its.length ∧ s.heap.get? l = some { cls := .type "list", data := .seq its.toArray n } := by
  obtain ⟨z, its, n, r, e⟩ := hH.ok I.hok
  exact ⟨z, its, n, r, r.length, e⟩
theorem op_catR : OpR X (binaryOp .Add) rCatR := by
  intro pins s σ H x y v u Q I rx ry h
  obtain ⟨l, b, xs, zs, rfl, rfl, hH, hB, hz, q⟩ := h
  cases rx
  cases ry
  obtain ⟨z, its, n, r, hl, e⟩ := lstR I hH
  obtain ⟨z2, its2, n2, r2, hl2, e2⟩ := lstR I hB
  refine PySem.P.add_list e e2 ?_ (by rw [List.size_toArray, List.size_toArray]; omega)
  have ea : its.toArray ++ its2.toArray = (its ++ its2).toArray := by simp
  rw [ea]
  exact ⟨.ref _, _, I.lnew (t' := s.toks) (r.append r2) (by rw [List.length_append]; omega), rfl, q _ I.fresh⟩
end

/-! ### + of any kind -/
def dAdd (x y : Z) (Q : Z → Prop) : Prop := match x.data, y.data with
  | some (.int i), some (.int j) => Q (.v (.int (i + j)))
  | some (.str a), some (.str b) => a.length + b.length ≤ sizeLine ∧ Q (.v (.str (a ++ b)))
  | some (.list xs), some (.list ys) => xs.length + ys.length ≤ sizeLine ∧ Q (.n (.l (xs ++ ys)))
  | some (.tuple xs), some (.tuple ys) => xs ≠ [] ∧ xs.length + ys.length ≤ sizeLine ∧ Q (.v (.tuple (xs ++ ys)))
  | _, _ => False
def rAddS : R2 := fun x y H Q => ∃ i j, x = .str i ∧ y = .str j ∧ i.length + j.length ≤ sizeLine ∧ Q (.str (i ++ j)) H
def rAny (K : PySem.W.Frag) : R2 := fun x y H Q => (rI0 fun i j => .int (i + j)) x y H Q ∨ rAddS x y H Q ∨ rCatR x y H Q ∨ rCatT K x y H Q
theorem op_any {X : Cx} : OpR X (binaryOp .Add) (rAny X.K) := op_add.or ((OpR.or op_add_str (op_catR.or op_catT)))
theorem simR_add {K : PySem.W.Frag} : SimR K (rAny K) dAdd := by
  intro B H G H_0 x y v w Qd Q ok zx zy h k
  unfold dAdd at h
  split at h
  · rename_i i j e1 e2
    exact .inl ⟨i, j, dp_int (zx.dp ok.ex e1), dp_int (zy.dp ok.ex e2), k (.v (.int (i + j))) _ B H (Gr.refl ok.ex) (.int _) h⟩
  · rename_i i j e1 e2
    exact .inr (.inl ⟨i, j, dp_str (zx.dp ok.ex e1), dp_str (zy.dp ok.ex e2), h.1, k (.v (.str (i ++ j))) _ B H (Gr.refl ok.ex) (.str _) h.2⟩)
  · rename_i xs ys e1 e2
    obtain ⟨a, vs, rfl, r1, q1⟩ := zx.rd ok e1
    obtain ⟨b, ws, rfl, r2, q2⟩ := zy.rd ok e2
    refine .inr (.inr (.inl ⟨a, b, vs, ws, rfl, rfl, r1, r2, by rw [dps_len q1, dps_len q2]; exact h.1, fun p hp => ?_⟩))
    obtain ⟨g, z⟩ := new_list ok hp (dps_app q1 q2)
    exact k _ _ _ _ g z h.2
  · rename_i xs ys e1 e2
    obtain ⟨a, vs, rfl, r1, _, q1⟩ := zx.mems ok (mems_of e1)
    obtain ⟨b, ws, rfl, r2, _, q2⟩ := zy.mems ok (mems_of e2)
    have hl1 := dps_len q1
    have hl2 := dps_len q2
    refine .inr (.inr (.inr ⟨a, b, vs, ws, rfl, rfl, r1, r2, fun z => h.1 ?_, by rw [hl1, hl2]; exact h.2.1, fun hw => ?_, fun hw p hp => ?_⟩))
    · rw [z] at hl1
      exact List.eq_nil_of_length_eq_zero hl1.symm
    · rw [hw] at hl2
      have : ys = [] := List.eq_nil_of_length_eq_zero hl2.symm
      subst this
      refine k (.v (.tuple (xs ++ []))) _ B H (Gr.refl ok.ex) ?_ h.2.2
      rw [List.append_nil]
      obtain ⟨c, us, e3, _, r3, q3⟩ := zx.mems ok (mems_of e1)
      rw [e3]
      exact .tup r3 q3
    · obtain ⟨g, z⟩ := new_tup ok hp (dps_app q1 q2)
      exact k _ _ _ _ g z h.2.2
  · exact h.elim
end Dl

set_option maxHeartbeats 2000000
namespace Dl
open PySem L2

/-! ### comparisons -/
def dLtI (f : Int → Int → Bool) : Z → Z → (Z → Prop) → Prop := dI fun i j => .bool (f i j)
def eqD : D → D → (Bool → Prop) → Prop
  | .int i, .int j, Q => Q (decide (i = j))
  | .str i, .str j, Q => Q (decide (i = j))
  | .bool i, .bool j, Q => Q (decide (i = j))
  | d, e, Q => SeqAt.shaped d = true ∧ SeqAt.shaped e = true ∧ Q (PyData.eqv d e)
def dEq (x y : Z) (Q : Z → Prop) : Prop := match x.data, y.data with
  | some d, some e => eqD d e fun b => Q (.v (.bool b))
  | _, _ => False
def dNe (x y : Z) (Q : Z → Prop) : Prop := match x.data, y.data with
  | some d, some e => eqD d e fun b => Q (.v (.bool (!b)))
  | _, _ => False
theorem eqD_ok {K : PySem.W.Frag} {H : Hp} {v w : V} {d e : D} {Q : Bool → Prop} (hv : Dq K H v d) (hw : Dq K H w e) (h : eqD d e Q) :
    (scal v w = true ∧ Q (decide (v = w))) ∨ (SeqAt.shaped d = true ∧ SeqAt.shaped e = true ∧ Q (PyData.eqv d e)) := by
  unfold eqD at h
  split at h
  · rename_i i j
    rw [dp_int hv, dp_int hw]
    refine .inl ⟨rfl, ?_⟩
    rw [show decide (V.int i = V.int j) = decide (i = j) by simp]
    exact h
  · rename_i i j
    rw [dp_str hv, dp_str hw]
    refine .inl ⟨rfl, ?_⟩
    rw [show decide (V.str i = V.str j) = decide (i = j) by simp]
    exact h
  · rename_i i j
    rw [dp_bl hv, dp_bl hw]
    refine .inl ⟨rfl, ?_⟩
    rw [show decide (V.bl i = V.bl j) = decide (i = j) by simp]
    exact h
  · exact .inr h
def rEqA (K : PySem.W.Frag) : R2 := fun x y H Q => rEq x y H Q ∨ rEqD K x y H Q
def rNeA (K : PySem.W.Frag) : R2 := fun x y H Q => rNe x y H Q ∨ rNeD K x y H Q
theorem op_eqA {X : Cx} (hu : X.A.units + 64 < cLine) : OpR X (compareOp .Eq) (rEqA X.K) := OpR.or op_eq (op_eqD hu)
theorem op_neA {X : Cx} (hu : X.A.units + 64 < cLine) : OpR X (compareOp .NotEq) (rNeA X.K) := OpR.or op_ne (op_neD hu)
/-- x is True, y is False, is None -/
def dIs (neg : Bool) (x y : Z) (Q : Z → Prop) : Prop := match y with
  | .v .none => match x.data with
    | some .none => Q (.v (.bool (!neg)))
    | some _ => Q (.v (.bool neg))
    | none => False
  | .v (.bool b) => match x.data with
    | some (.bool c) => Q (.v (.bool (if neg then !decide (c = b) else decide (c = b))))
    | _ => False
  | _ => False
def rIsA : R2 := fun x y H Q => (y = .non ∧ Q (.bl (decide (x = .non))) H) ∨ rIsB x y H Q
def rIsA' : R2 := fun x y H Q => (y = .non ∧ Q (.bl (!decide (x = .non))) H) ∨ rNotB x y H Q
theorem op_isA {X : Cx} : OpR X (compareOp .Is) rIsA := OpR.or op_isN op_isBl
theorem op_isA' {X : Cx} : OpR X (compareOp .IsNot) rIsA' := OpR.or op_notN op_notBl
section
variable {K : PySem.W.Frag}
theorem simR_eq : SimR K (rEqA K) dEq := by
  intro B H G H_0 x y v w Qd Q ok zx zy h k
  unfold dEq at h
  split at h
  · rename_i d e e1 e2
    rcases eqD_ok (zx.dp ok.ex e1) (zy.dp ok.ex e2) h with ⟨a, q⟩ | ⟨a, b, q⟩
    · exact .inl ⟨a, k (.v (.bool _)) _ B H (Gr.refl ok.ex) (.bl _) q⟩
    · exact .inr ⟨d, e, dq_dp _ _ (SeqAt.canLay_of_shaped a) (zx.dp ok.ex e1), dq_dp _ _ (SeqAt.canLay_of_shaped b) (zy.dp ok.ex e2), a, b, k (.v (.bool _)) _ B H (Gr.refl ok.ex) (.bl _) q⟩
  · exact h.elim
theorem simR_ne : SimR K (rNeA K) dNe := by
  intro B H G H_0 x y v w Qd Q ok zx zy h k
  unfold dNe at h
  split at h
  · rename_i d e e1 e2
    rcases eqD_ok (zx.dp ok.ex e1) (zy.dp ok.ex e2) h with ⟨a, q⟩ | ⟨a, b, q⟩
    · exact .inl ⟨a, k (.v (.bool _)) _ B H (Gr.refl ok.ex) (.bl _) q⟩
    · exact .inr ⟨d, e, dq_dp _ _ (SeqAt.canLay_of_shaped a) (zx.dp ok.ex e1), dq_dp _ _ (SeqAt.canLay_of_shaped b) (zy.dp ok.ex e2), a, b, k (.v (.bool _)) _ B H (Gr.refl ok.ex) (.bl _) q⟩
  · exact h.elim
theorem dq_nn {H : Hp} {v : V} {d : D} (h : Dq K H v d) (hn : d ≠ .none) : decide (v = .non) = false := by
  cases h with
  | non => exact absurd rfl hn
  | _ => rfl
theorem simR_is : SimR K rIsA (dIs false) := by
  intro B H G H_0 x y v w Qd Q ok zx zy h k
  unfold dIs at h
  split at h
  · refine .inl ⟨dp_non (zy : Dq K B w .none), ?_⟩
    split at h
    · rename_i e
      rw [dp_non (zx.dp ok.ex e)]
      exact k (.v (.bool true)) _ B H (Gr.refl ok.ex) (.bl _) h
    · rename_i d hn e
      rw [dq_nn (zx.dp ok.ex e) (fun z => by subst z; exact hn rfl)]
      exact k (.v (.bool false)) _ B H (Gr.refl ok.ex) (.bl _) h
    · exact h.elim
  · rename_i b
    split at h
    · rename_i c e
      refine .inr ⟨c, b, dp_bl (zx.dp ok.ex e), dp_bl (zy : Dq K B w (.bool b)), ?_⟩
      exact k (.v (.bool _)) _ B H (Gr.refl ok.ex) (.bl _) h
    · exact h.elim
  · exact h.elim
theorem simR_isnot : SimR K rIsA' (dIs true) := by
  intro B H G H_0 x y v w Qd Q ok zx zy h k
  unfold dIs at h
  split at h
  · refine .inl ⟨dp_non (zy : Dq K B w .none), ?_⟩
    split at h
    · rename_i e
      rw [dp_non (zx.dp ok.ex e)]
      exact k (.v (.bool false)) _ B H (Gr.refl ok.ex) (.bl _) h
    · rename_i d hn e
      rw [dq_nn (zx.dp ok.ex e) (fun z => by subst z; exact hn rfl)]
      exact k (.v (.bool true)) _ B H (Gr.refl ok.ex) (.bl _) h
    · exact h.elim
  · rename_i b
    split at h
    · rename_i c e
      refine .inr ⟨c, b, dp_bl (zx.dp ok.ex e), dp_bl (zy : Dq K B w (.bool b)), ?_⟩
      exact k (.v (.bool _)) _ B H (Gr.refl ok.ex) (.bl _) h
    · exact h.elim
  · exact h.elim
end

/-! ### subscripts, slices -/
def dIx (x y : Z) (Q : Z → Prop) : Prop := match y.data with
  | some (.int i) => match x.data with
    | some (.list xs) => ∃ d, atI xs i = some d ∧ Q (.v d)
    | some (.dict [(.none, .list xs)]) => ∃ d, atI xs i = some d ∧ Q (.v d)
    | some (.tuple xs) => ∃ d, atI xs i = some d ∧ Q (.v d)
    | some (.str z) => z.length ≤ sizeLine ∧ ∃ c, atI z.cps.toList i = some c ∧ Q (.v (.str ⟨#[c]⟩))
    | _ => False
  | _ => False
theorem at_dq {K : PySem.W.Frag} {H : Hp} {vs : List V} {ds : List D} {i : Int} {d : D} (h : DqAll K H vs ds) (e : atI ds i = some d) : ∃ v, atI vs i = some v ∧ Dq K H v d := by
  unfold atI at e ⊢
  rw [← dps_len h] at e
  cases e1 : ixN vs.length i with
  | none => rw [e1] at e; cases e
  | some j =>
    rw [e1] at e
    obtain ⟨v, e2, q⟩ := dps_get (i := j) h e
    exact ⟨v, e2, q⟩
theorem simR_ix {K : PySem.W.Frag} : SimR K (rIx K) dIx := by
  intro B H G H_0 x y v w Qd Q ok zx zy h k
  unfold dIx at h
  split at h
  · rename_i i e2
    have ey := dp_int (zy.dp ok.ex e2)
    split at h
    · rename_i xs e1
      obtain ⟨d, ed, h⟩ := h
      obtain ⟨a, vs, rfl, r1, q1⟩ := zx.items ok (items_of e1)
      obtain ⟨u, eu, qu⟩ := at_dq q1 ed
      exact .inl ⟨a, vs, i, u, rfl, ey, r1, eu, k (.v d) u B H (Gr.refl ok.ex) qu h⟩
    · rename_i xs e1
      obtain ⟨d, ed, h⟩ := h
      obtain ⟨a, vs, rfl, r1, q1⟩ := zx.items ok (items_scr e1)
      obtain ⟨u, eu, qu⟩ := at_dq q1 ed
      exact .inl ⟨a, vs, i, u, rfl, ey, r1, eu, k (.v d) u B H (Gr.refl ok.ex) qu h⟩
    · rename_i xs e1
      obtain ⟨d, ed, h⟩ := h
      obtain ⟨a, vs, rfl, r1, _, q1⟩ := zx.mems ok (mems_of e1)
      obtain ⟨u, eu, qu⟩ := at_dq q1 ed
      exact .inr (.inl ⟨a, vs, i, u, rfl, ey, r1, eu, k (.v d) u B H (Gr.refl ok.ex) qu h⟩)
    · rename_i z e1
      obtain ⟨hz, c, ec, h⟩ := h
      exact .inr (.inr ⟨z, i, c, dp_str (zx.dp ok.ex e1), ey, hz, ec, k (.v (.str _)) _ B H (Gr.refl ok.ex) (.str _) h⟩)
    · exact h.elim
  · exact h.elim

abbrev dO := List S → (Option Int → Prop) → Prop
structure SimO (K : PySem.W.Frag) (to : TO) (d : dO) : Prop where
  run : ∀ {B H : Hp} {G : Addr → Prop} {σ : St} {ρ : List S} {Qd : Option Int → Prop} {Q : Option Int → Hp → Prop}, Rep K B H G σ ρ → d ρ Qd → (∀ o B' H', Gr B H B' H' → Qd o → Q o H') → to σ H Q
structure CO (X : Cx) (e : Option Expr) (to : TO) (d : dO) : Prop where
  po : PO X e to
  sim : SimO X.K to d
def dOnone : dO := fun _ Q => Q none
def dOsome (de : dE) : dO := fun ρ Q => de ρ fun z => match z.data with
  | some (.int i) => Q (some i)
  | _ => False
def cutD {α : Type} (xs : List α) (lo hi : Option Int) : List α := (xs.drop (HT.sIx xs.length 0 lo)).take (HT.sIx xs.length xs.length hi - HT.sIx xs.length 0 lo)
def dSl (de : dE) (dl dh : dO) : dE := fun ρ Q => de ρ fun z => dl ρ fun lo => dh ρ fun hi => match z.data with
  | some (.list xs) => Q (.n (.l (cutD xs lo hi)))
  | some (.dict [(.none, .list xs)]) => Q (.n (.l (cutD xs lo hi)))
  | some (.tuple xs) => ¬ (HT.sIx xs.length 0 lo = 0 ∧ HT.sIx xs.length xs.length hi = xs.length) ∧ Q (.v (.tuple (cutD xs lo hi)))
  | some (.str s) => s.length ≤ sizeLine ∧ Q (.v (.str (cutS s lo hi)))
  | _ => False
def rSl (K : PySem.W.Frag) : V → Option Int → Option Int → Hp → VK → Prop := fun x lo hi H Q => rSlL K x lo hi H Q ∨ rSlT K x lo hi H Q ∨ rSlS x lo hi H Q
theorem sl_any {X : Cx} : SlR X (rSl X.K) := sl_list.or (sl_tup.or sl_str)
theorem cut_dq {K : PySem.W.Frag} {H : Hp} {vs : List V} {ds : List D} {lo hi : Option Int} (h : DqAll K H vs ds) : DqAll K H (cutV vs lo hi) (cutD ds lo hi) := by
  unfold cutV cutD
  rw [← dps_len h]
  exact dps_take _ (dps_drop _ h)
section
variable {X : Cx} {K : PySem.W.Frag}
theorem co_none : CO X none tNoPart dOnone := ⟨po_none, ⟨fun {B H G σ ρ Qd Q} p h k => k none B H (Gr.refl p.ex) h⟩⟩
theorem co_some {e : Expr} {te : TE} {de : dE} (h : CE X e te de) : CO X (some e) (tPart te) (dOsome de) := by
  refine ⟨po_some h.pe, ⟨fun {B H G σ ρ Qd Q} p q k => ?_⟩⟩
  refine h.sim.run p q fun z v B1 H1 g1 z1 h1 => ?_
  have h1 : (match z.data with
    | some (.int i) => Qd (some i)
    | _ => False) := h1
  split at h1
  · rename_i i e
    exact ⟨i, dp_int (z1.dp g1.ex e), k _ B1 H1 g1 h1⟩
  · exact h1.elim
theorem sim_sl {te : TE} {tl th : TO} {de : dE} {dl dh : dO} (he : SimE K te de) (hl : SimO K tl dl) (hh : SimO K th dh) : SimE K (tSl (rSl K) te tl th) (dSl de dl dh) := by
  refine ⟨fun {B H G σ ρ Qd Q} p h k => ?_⟩
  refine he.run p h fun x v B1 H1 g1 z1 h1 => ?_
  refine hl.run (p.gr g1) h1 fun lo B2 H2 g2 h2 => ?_
  refine hh.run ((p.gr g1).gr g2) h2 fun hi B3 H3 g3 h3 => ?_
  have ok := ((p.ok.gr g1).gr g2).gr g3
  have z3 := (z1.gr g2).gr g3
  have gg := (g1.trans g2).trans g3
  have h3 : (match x.data with
    | some (.list xs) => Qd (.n (.l (cutD xs lo hi)))
    | some (.dict [(.none, .list xs)]) => Qd (.n (.l (cutD xs lo hi)))
    | some (.tuple xs) => ¬ (HT.sIx xs.length 0 lo = 0 ∧ HT.sIx xs.length xs.length hi = xs.length) ∧ Qd (.v (.tuple (cutD xs lo hi)))
    | some (.str s) => s.length ≤ sizeLine ∧ Qd (.v (.str (cutS s lo hi)))
    | _ => False) := h3
  split at h3
  · rename_i xs e
    obtain ⟨a, vs, rfl, r, q⟩ := z3.items ok (items_of e)
    refine .inl ⟨a, vs, rfl, r, fun c hc => ?_⟩
    obtain ⟨g4, z4⟩ := new_list ok hc (cut_dq q)
    exact k _ _ _ _ (gg.trans g4) (z4.early gg.h) h3
  · rename_i xs e
    obtain ⟨a, vs, rfl, r, q⟩ := z3.items ok (items_scr e)
    refine .inl ⟨a, vs, rfl, r, fun c hc => ?_⟩
    obtain ⟨g4, z4⟩ := new_list ok hc (cut_dq q)
    exact k _ _ _ _ (gg.trans g4) (z4.early gg.h) h3
  · rename_i xs e
    obtain ⟨a, vs, rfl, r, _, q⟩ := z3.mems ok (mems_of e)
    refine .inr (.inl ⟨a, vs, rfl, r, by rw [dps_len q]; exact h3.1, fun c hc => ?_⟩)
    obtain ⟨g4, z4⟩ := new_tup ok hc (cut_dq q)
    exact k _ _ _ _ (gg.trans g4) (z4.early gg.h) h3.2
  · rename_i s e
    exact .inr (.inr ⟨s, dp_str (z3.dp ok.ex e), h3.1, k (.v (.str _)) _ B3 H3 gg (.str _) h3.2⟩)
  · exact h3.elim
end

/-! ### displays -/
def dTupD (dc : dC) : dE := fun ρ Q => dc ρ fun ds => ds.length ≤ sizeLine ∧ Q (.v (.tuple ds))
def dLstD (dc : dC) : dE := fun ρ Q => dc ρ fun ds => ds.length ≤ sizeLine ∧ Q (.n (.l ds))
section
variable {K : PySem.W.Frag}
theorem sim_tup {ta : TA} {dc : dC} (h : SimC K ta dc) : SimE K (tTup ta) (dTupD dc) := by
  refine ⟨fun {B H G σ ρ Qd Q} p q k => ?_⟩
  refine h.run p q fun ds vs B1 H1 g1 z1 h1 => ?_
  refine ⟨by rw [dps_len z1]; exact h1.1, fun c hc => ?_⟩
  obtain ⟨g4, z4⟩ := new_tup (p.ok.gr g1) hc z1
  exact k _ _ _ _ (g1.trans g4) (z4.early g1.h) h1.2
theorem sim_lst {ta : TA} {dc : dC} (h : SimC K ta dc) : SimE K (tLst ta) (dLstD dc) := by
  refine ⟨fun {B H G σ ρ Qd Q} p q k => ?_⟩
  refine h.run p q fun ds vs B1 H1 g1 z1 h1 => ?_
  refine ⟨by rw [dps_len z1]; exact h1.1, fun c hc => ?_⟩
  obtain ⟨g4, z4⟩ := new_list (p.ok.gr g1) hc z1
  exact k _ _ _ _ (g1.trans g4) (z4.early g1.h) h1.2
end

/-! ### tests -/
def dTst (de : dE) : dT := fun ρ Q => de ρ fun z => match z.data with
  | some (.bool b) => Q b
  | _ => False
def dTru (de : dE) : dT := fun ρ Q => de ρ fun z => match z.data with
  | some .none => Q false
  | some (.bool b) => Q b
  | some (.int i) => Q (i != 0)
  | some (.str y) => y.length ≤ sizeLine ∧ Q ((y.length : Int) != 0)
  | some (.list xs) => Q (!xs.isEmpty)
  | some (.tuple xs) => Q (!xs.isEmpty)
  | _ => False
def dAndT (t u : dT) : dT := fun ρ Q => t ρ fun b => if b = true then u ρ Q else Q false
def dOrT (t u : dT) : dT := fun ρ Q => t ρ fun b => if b = true then Q true else u ρ Q
def dNotT (t : dT) : dT := fun ρ Q => t ρ fun b => Q (!b)
def dAndE (da db : dE) : dE := fun ρ Q => da ρ fun z => match z.data with
  | some (.bool b) => if b = true then db ρ Q else Q (.v (.bool false))
  | _ => False
def dOrE (da db : dE) : dE := fun ρ Q => da ρ fun z => match z.data with
  | some (.bool b) => if b = true then Q (.v (.bool true)) else db ρ Q
  | _ => False
def dNotE (da : dE) : dE := fun ρ Q => da ρ fun z => match z.data with
  | some (.bool b) => Q (.v (.bool (!b)))
  | _ => False
def dIfE (t : dT) (da db : dE) : dE := fun ρ Q => t ρ fun b => if b = true then da ρ Q else db ρ Q
theorem isEmpty_len {α β : Type} {xs : List α} {ys : List β} (h : xs.length = ys.length) : xs.isEmpty = ys.isEmpty := by
  cases xs <;> cases ys <;> first | rfl | (simp at h)
section
variable {K : PySem.W.Frag}
theorem sim_tst {te : TE} {de : dE} (h : SimE K te de) : SimT K (tTest te) (dTst de) := by
  refine ⟨fun {B H G σ ρ Qd Q} p q k => ?_⟩
  refine h.run p q fun z v B1 H1 g1 z1 h1 => ?_
  have h1 : (match z.data with
    | some (.bool b) => Qd b
    | _ => False) := h1
  split at h1
  · rename_i b e
    exact ⟨b, dp_bl (z1.dp g1.ex e), k b B1 H1 g1 h1⟩
  · exact h1.elim
theorem sim_tru {te : TE} {de : dE} (h : SimE K te de) : SimT K (fun σ H Q => te σ H fun x H' => ∃ k, TruV K x H' k ∧ Q k H') (dTru de) := by
  refine ⟨fun {B H G σ ρ Qd Q} p q k => ?_⟩
  refine h.run p q fun z v B1 H1 g1 z1 h1 => ?_
  have ok := p.ok.gr g1
  have h1 : (match z.data with
    | some .none => Qd false
    | some (.bool b) => Qd b
    | some (.int i) => Qd (i != 0)
    | some (.str y) => y.length ≤ sizeLine ∧ Qd ((y.length : Int) != 0)
    | some (.list xs) => Qd (!xs.isEmpty)
    | some (.tuple xs) => Qd (!xs.isEmpty)
    | _ => False) := h1
  split at h1
  · rename_i e
    rw [dp_non (z1.dp g1.ex e)]
    exact ⟨false, rfl, k _ B1 H1 g1 h1⟩
  · rename_i b e
    rw [dp_bl (z1.dp g1.ex e)]
    exact ⟨b, rfl, k _ B1 H1 g1 h1⟩
  · rename_i i e
    rw [dp_int (z1.dp g1.ex e)]
    exact ⟨_, rfl, k _ B1 H1 g1 h1⟩
  · rename_i y e
    rw [dp_str (z1.dp g1.ex e)]
    exact ⟨_, ⟨h1.1, rfl⟩, k _ B1 H1 g1 h1.2⟩
  · rename_i xs e
    obtain ⟨a, vs, rfl, r, q1⟩ := z1.items ok (items_of e)
    refine ⟨_, .inl ⟨vs, r, rfl⟩, ?_⟩
    rw [isEmpty_len (dps_len q1)]
    exact k _ B1 H1 g1 h1
  · rename_i xs e
    obtain ⟨a, vs, rfl, r, _, q1⟩ := z1.mems ok (mems_of e)
    refine ⟨_, .inr (.inl ⟨vs, r, rfl⟩), ?_⟩
    rw [isEmpty_len (dps_len q1)]
    exact k _ B1 H1 g1 h1
  · exact h1.elim
theorem sim_andT {t u : TT} {a b : dT} (h1 : SimT K t a) (h2 : SimT K u b) : SimT K (tAnd t u) (dAndT a b) := by
  refine ⟨fun {B H G σ ρ Qd Q} p q k => ?_⟩
  refine h1.run p q fun c B1 H1 g1 q1 => ?_
  cases c with
  | true => exact h2.run (p.gr g1) q1 fun c B2 H2 g2 q2 => k c B2 H2 (g1.trans g2) q2
  | false => exact k _ B1 H1 g1 q1
theorem sim_orT {t u : TT} {a b : dT} (h1 : SimT K t a) (h2 : SimT K u b) : SimT K (tOr t u) (dOrT a b) := by
  refine ⟨fun {B H G σ ρ Qd Q} p q k => ?_⟩
  refine h1.run p q fun c B1 H1 g1 q1 => ?_
  cases c with
  | false => exact h2.run (p.gr g1) q1 fun c B2 H2 g2 q2 => k c B2 H2 (g1.trans g2) q2
  | true => exact k _ B1 H1 g1 q1
theorem sim_notT {t : TT} {a : dT} (h1 : SimT K t a) : SimT K (tNot t) (dNotT a) :=
  ⟨fun {B H G σ ρ Qd Q} p q k => h1.run p q fun c B1 H1 g1 q1 => k _ B1 H1 g1 q1⟩
theorem sim_andE {t u : TE} {a b : dE} (h1 : SimE K t a) (h2 : SimE K u b) : SimE K (tAndV t u) (dAndE a b) := by
  refine ⟨fun {B H G σ ρ Qd Q} p q k => ?_⟩
  refine h1.run p q fun z v B1 H1 g1 z1 q1 => ?_
  have q1 : (match z.data with
    | some (.bool c) => if c = true then b ρ Qd else Qd (.v (.bool false))
    | _ => False) := q1
  split at q1
  · rename_i c e
    refine ⟨c, dp_bl (z1.dp g1.ex e), ?_⟩
    cases c with
    | true => exact h2.run (p.gr g1) q1 fun z v B2 H2 g2 z2 q2 => k z v B2 H2 (g1.trans g2) (z2.early g1.h) q2
    | false => exact k (.v (.bool false)) _ B1 H1 g1 (.bl _) q1
  · exact q1.elim
theorem sim_orE {t u : TE} {a b : dE} (h1 : SimE K t a) (h2 : SimE K u b) : SimE K (tOrV t u) (dOrE a b) := by
  refine ⟨fun {B H G σ ρ Qd Q} p q k => ?_⟩
  refine h1.run p q fun z v B1 H1 g1 z1 q1 => ?_
  have q1 : (match z.data with
    | some (.bool c) => if c = true then Qd (.v (.bool true)) else b ρ Qd
    | _ => False) := q1
  split at q1
  · rename_i c e
    refine ⟨c, dp_bl (z1.dp g1.ex e), ?_⟩
    cases c with
    | false => exact h2.run (p.gr g1) q1 fun z v B2 H2 g2 z2 q2 => k z v B2 H2 (g1.trans g2) (z2.early g1.h) q2
    | true => exact k (.v (.bool true)) _ B1 H1 g1 (.bl _) q1
  · exact q1.elim
theorem sim_notE {t : TE} {a : dE} (h1 : SimE K t a) : SimE K (tNotV t) (dNotE a) := by
  refine ⟨fun {B H G σ ρ Qd Q} p q k => ?_⟩
  refine h1.run p q fun z v B1 H1 g1 z1 q1 => ?_
  have q1 : (match z.data with
    | some (.bool c) => Qd (.v (.bool (!c)))
    | _ => False) := q1
  split at q1
  · rename_i c e
    exact ⟨c, dp_bl (z1.dp g1.ex e), k (.v (.bool (!c))) _ B1 H1 g1 (.bl _) q1⟩
  · exact q1.elim
theorem sim_ifE {t : TT} {ta tb : TE} {a : dT} {da db : dE} (h1 : SimT K t a) (h2 : SimE K ta da) (h3 : SimE K tb db) : SimE K (tIf t ta tb) (dIfE a da db) := by
  refine ⟨fun {B H G σ ρ Qd Q} p q k => ?_⟩
  refine h1.run p q fun c B1 H1 g1 q1 => ?_
  cases c with
  | true => exact h2.run (p.gr g1) q1 fun z v B2 H2 g2 z2 q2 => k z v B2 H2 (g1.trans g2) (z2.early g1.h) q2
  | false => exact h3.run (p.gr g1) q1 fun z v B2 H2 g2 z2 q2 => k z v B2 H2 (g1.trans g2) (z2.early g1.h) q2
end
end Dl

set_option maxHeartbeats 2000000
namespace Dl
open PySem L2

/-! ### statements -/
structure DE where
  nx : List S → Prop
  rt : Z → Prop
  bk : List S → Prop := fun _ => False
  ct : List S → Prop := fun _ => False
abbrev dS := DE → List S → Prop
/-- what is handed back: it stands, or it is new, or it was our own -/
def RZ (K : PySem.W.Frag) (H : Hp) (G : Addr → Prop) (B' H' : Hp) : Z → V → Prop
  | .v d, v => Dq K B' v d
  | .b s, v => ∃ R, (∀ a, R a → (H a = none ∨ G a) ∧ B' a = none ∧ H' a ≠ none) ∧ s ≠ .no ∧ Own K B' H' s v R
  | .n s, v => ∃ R, (∀ a, R a → (H a = none ∨ G a) ∧ B' a = none ∧ H' a ≠ none) ∧ s ≠ .no ∧ Own K B' H' s v R
structure SimS (K : PySem.W.Frag) (ts : TS) (ds : dS) : Prop where
  run : ∀ {B H : Hp} {G : Addr → Prop} {σ : St} {ρ : List S} {D : Ends} {E : DE}, Rep K B H G σ ρ → ds E ρ →
    (∀ B' H' G' σ' ρ', Ext B H G B' H' G' → Rep K B' H' G' σ' ρ' → E.nx ρ' → D.nx σ' H') →
    (∀ B' H' G' z v, Ext B H G B' H' G' → Ex B' H' → RZ K H G B' H' z v → E.rt z → D.rt v H') →
    (∀ B' H' G' σ' ρ', Ext B H G B' H' G' → Rep K B' H' G' σ' ρ' → E.bk ρ' → D.bk σ' H') →
    (∀ B' H' G' σ' ρ', Ext B H G B' H' G' → Rep K B' H' G' σ' ρ' → E.ct ρ' → D.ct σ' H') → ts D σ H
structure CS (X : Cx) (st : Stmt) (ts : TS) (ds : dS) : Prop where
  ps : PS X st ts
  sim : SimS X.K ts ds
structure CSs (X : Cx) (sts : List Stmt) (ts : TS) (ds : dS) : Prop where
  ps : PSs X sts ts
  sim : SimS X.K ts ds
section
variable {K : PySem.W.Frag} {B H B' H' B1 H1 : Hp} {G G1 : Addr → Prop} {z : Z} {v : V}
theorem RZ.back (x : Ext B H G B1 H1 G1) (h : RZ K H1 G1 B' H' z v) : RZ K H G B' H' z v := by
  have go : ∀ a, (H1 a = none ∨ G1 a) → (H a = none ∨ G a) := fun a q => by
    rcases q with q | q
    · exact .inl (Classical.byContradiction fun z => x.all a z q)
    · rcases x.own a q with r | r
      · exact .inr r
      · exact .inl r
  cases z with
  | v d => exact h
  | b s => obtain ⟨R, r, n, q⟩ := h; exact ⟨R, fun a ra => ⟨go a (r a ra).1, (r a ra).2⟩, n, q⟩
  | n s => obtain ⟨R, r, n, q⟩ := h; exact ⟨R, fun a ra => ⟨go a (r a ra).1, (r a ra).2⟩, n, q⟩
end
def dNext : dS := fun E ρ => E.nx ρ
def dSeq (a b : dS) : dS := fun E ρ => a { E with nx := b E } ρ
def dBreak : dS := fun E ρ => E.bk ρ
def dCont : dS := fun E ρ => E.ct ρ
def dDrop (de : dE) : dS := fun E ρ => de ρ fun _ => E.nx ρ
def dRet (de : dE) : dS := fun E ρ => de ρ E.rt
def dRetN : dS := fun E _ => E.rt (.v .none)
def dIf (t : dT) (a b : dS) : dS := fun E ρ => t ρ fun c => if c = true then a E ρ else b E ρ
def dSet (i : Nat) (de : dE) : dS := fun E ρ => de ρ fun z => match z with
  | .v d => E.nx (ρ.set i (.v d))
  | .n s => E.nx (ρ.set i s)
  | .b _ => False
def dNever : dS := fun _ _ => False
section
variable {K : PySem.W.Frag}
theorem sim_next : SimS K tNext dNext := ⟨fun p h k1 k2 k3 k4 => k1 _ _ _ _ _ Ext.refl p h⟩
theorem sim_brk : SimS K tBreak dBreak := ⟨fun p h k1 k2 k3 k4 => k3 _ _ _ _ _ Ext.refl p h⟩
theorem sim_cont : SimS K tCont dCont := ⟨fun p h k1 k2 k3 k4 => k4 _ _ _ _ _ Ext.refl p h⟩
theorem sim_never : SimS K tNever dNever := ⟨fun p h k1 k2 k3 k4 => h⟩
theorem sim_seq {t u : TS} {a b : dS} (h1 : SimS K t a) (h2 : SimS K u b) : SimS K (tSeq t u) (dSeq a b) := by
  refine ⟨fun {B H G σ ρ D E} p h k1 k2 k3 k4 => ?_⟩
  refine h1.run (E := { E with nx := b E }) p h (fun B' H' G' σ' ρ' x p' q => ?_) (fun B' H' G' z v x ex r q => k2 _ _ _ _ _ x ex r q) (fun B' H' G' σ' ρ' x p' q => k3 _ _ _ _ _ x p' q) (fun B' H' G' σ' ρ' x p' q => k4 _ _ _ _ _ x p' q)
  exact h2.run p' q (fun B2 H2 G2 σ2 ρ2 x2 p2 q2 => k1 _ _ _ _ _ (x.trans x2) p2 q2) (fun B2 H2 G2 z v x2 ex r q2 => k2 _ _ _ _ _ (x.trans x2) ex (r.back x) q2)
    (fun B2 H2 G2 σ2 ρ2 x2 p2 q2 => k3 _ _ _ _ _ (x.trans x2) p2 q2) (fun B2 H2 G2 σ2 ρ2 x2 p2 q2 => k4 _ _ _ _ _ (x.trans x2) p2 q2)
theorem sim_drop {te : TE} {de : dE} (h : SimE K te de) : SimS K (tDrop te) (dDrop de) := by
  refine ⟨fun {B H G σ ρ D E} p q k1 k2 k3 k4 => ?_⟩
  exact h.run p q fun z v B1 H1 g1 z1 h1 => k1 _ _ _ _ _ (Ext.gr g1) (p.gr g1) h1
theorem ZIs.rz {B H B1 H1 : Hp} {G : Addr → Prop} {z : Z} {v : V} (z1 : ZIs K B1 H1 G H z v) (ok : Ok B1 H1 G) : RZ K H G B1 H1 z v := by
  cases z with
  | v d => exact z1
  | b s => obtain ⟨R, r, n, q⟩ := z1; exact ⟨R, fun a ra => ⟨.inr (r a ra), ok.off a (r a ra), ok.on a (r a ra)⟩, n, q⟩
  | n s => obtain ⟨R, r, n, q⟩ := z1; exact ⟨R, fun a ra => ⟨.inl (r a ra).1, (r a ra).2⟩, n, q⟩
theorem sim_ret {te : TE} {de : dE} (h : SimE K te de) : SimS K (tRet te) (dRet de) := by
  refine ⟨fun {B H G σ ρ D E} p q k1 k2 k3 k4 => ?_⟩
  exact h.run p q fun z v B1 H1 g1 z1 h1 => k2 _ _ _ _ _ (Ext.gr (G := G) g1) g1.ex (z1.rz (B := B) (p.ok.gr g1)) h1
theorem sim_retN : SimS K tRetN dRetN := ⟨fun {B H G σ ρ D E} p h k1 k2 k3 k4 => k2 B H G (.v .none) _ Ext.refl p.ex (.non) h⟩
theorem sim_if {tt : TT} {t u : TS} {dt : dT} {a b : dS} (h0 : SimT K tt dt) (h1 : SimS K t a) (h2 : SimS K u b) : SimS K (tIfS tt t u) (dIf dt a b) := by
  refine ⟨fun {B H G σ ρ D E} p h k1 k2 k3 k4 => ?_⟩
  refine h0.run p h fun c B1 H1 g1 q1 => ?_
  have x := Ext.gr (G := G) g1
  cases c with
  | true =>
    exact h1.run (p.gr g1) q1 (fun B2 H2 G2 σ2 ρ2 x2 p2 q2 => k1 _ _ _ _ _ (x.trans x2) p2 q2) (fun B2 H2 G2 z v x2 ex r q2 => k2 _ _ _ _ _ (x.trans x2) ex (r.back x) q2)
      (fun B2 H2 G2 σ2 ρ2 x2 p2 q2 => k3 _ _ _ _ _ (x.trans x2) p2 q2) (fun B2 H2 G2 σ2 ρ2 x2 p2 q2 => k4 _ _ _ _ _ (x.trans x2) p2 q2)
  | false =>
    exact h2.run (p.gr g1) q1 (fun B2 H2 G2 σ2 ρ2 x2 p2 q2 => k1 _ _ _ _ _ (x.trans x2) p2 q2) (fun B2 H2 G2 z v x2 ex r q2 => k2 _ _ _ _ _ (x.trans x2) ex (r.back x) q2)
      (fun B2 H2 G2 σ2 ρ2 x2 p2 q2 => k3 _ _ _ _ _ (x.trans x2) p2 q2) (fun B2 H2 G2 σ2 ρ2 x2 p2 q2 => k4 _ _ _ _ _ (x.trans x2) p2 q2)
theorem Rep.setG {B H B1 H1 : Hp} {G : Addr → Prop} {σ : St} {ρ : List S} {i : Nat} {s : S} {v : V} (p : Rep K B H G σ ρ) (g1 : Gr B H B1 H1) (z1 : ZIs K B1 H1 G H (.n s) v) :
    ∃ G', Rep K B1 H1 G' (σ.set i (some v)) (ρ.set i s) ∧ Ext B H G B1 H1 G' := by
  obtain ⟨R, r, n, q⟩ := z1
  have p1 := p.gr g1
  refine ⟨_, p1.setN q (fun a ra => ⟨(r a ra).2.1, (r a ra).2.2⟩) (fun a ra ga => p.ok.on a ga (r a ra).1), ?_⟩
  have x := Ext.gr (G := G) g1
  exact ⟨x.b, x.keep, x.nw, fun a g => g.elim .inl fun ra => .inr (r a ra).1, x.all⟩
theorem sim_set {te : TE} {de : dE} {i : Nat} (h : SimE K te de) : SimS K (tAsg te (gName i)) (dSet i de) := by
  refine ⟨fun {B H G σ ρ D E} p q k1 k2 k3 k4 => ?_⟩
  refine h.run p q fun z v B1 H1 g1 z1 h1 => ?_
  show D.nx (σ.set i (some v)) H1
  cases z with
  | v d => exact k1 _ _ _ _ _ (Ext.gr g1) ((p.gr g1).setV z1) h1
  | b s => exact (show False from h1).elim
  | n s =>
    obtain ⟨G', p', x⟩ := p.setG (i := i) g1 z1
    exact k1 _ _ _ _ _ x p' h1
end
/-- from here on the list in slot i stands as it is -/
def dFrz (i : Nat) (a : dS) : dS := fun E ρ => match ρ[i]? with
  | some s => match s.data with
    | some d => a E (ρ.set i (.v d))
    | none => False
  | none => False
theorem sim_frz {K : PySem.W.Frag} {t : TS} {a : dS} {i : Nat} (h : SimS K t a) : SimS K t (dFrz i a) := by
  refine ⟨fun {B H G σ ρ D E} p q k1 k2 k3 k4 => ?_⟩
  unfold dFrz at q
  cases e : ρ[i]? with
  | none => rw [e] at q; exact q.elim
  | some s =>
    rw [e] at q
    have q : (match s.data with
      | some d => a E (ρ.set i (.v d))
      | none => False) := q
    cases e2 : s.data with
    | none => rw [e2] at q; exact q.elim
    | some d =>
      rw [e2] at q
      obtain ⟨B1, G1, p1, x⟩ := p.freeze e e2
      exact h.run p1 q (fun B2 H2 G2 σ2 ρ2 x2 p2 q2 => k1 _ _ _ _ _ (x.trans x2) p2 q2) (fun B2 H2 G2 z v x2 ex r q2 => k2 _ _ _ _ _ (x.trans x2) ex (r.back x) q2)
        (fun B2 H2 G2 σ2 ρ2 x2 p2 q2 => k3 _ _ _ _ _ (x.trans x2) p2 q2) (fun B2 H2 G2 σ2 ρ2 x2 p2 q2 => k4 _ _ _ _ _ (x.trans x2) p2 q2)

/-! ### targets -/
abbrev dG := D → List S → (List S → Prop) → Prop
abbrev dGs := List D → List S → (List S → Prop) → Prop
structure SimG (K : PySem.W.Frag) (js : List Nat) (g : TG) (dg : dG) : Prop where
  run : ∀ {B H : Hp} {G : Addr → Prop} {σ : St} {ρ : List S} {d : D} {v : V} {Qd : List S → Prop} {Q : St → Hp → Prop}, Rep K B H G σ ρ → Dq K B v d → dg d ρ Qd →
    (∀ σ' ρ', Rep K B H G σ' ρ' → (∀ vs : List Nat, (∀ j ∈ js, j ∈ vs) → wipe σ' vs = wipe σ vs) → Qd ρ' → Q σ' H) → g v σ H Q
structure SimGs (K : PySem.W.Frag) (js : List Nat) (g : TGs) (dg : dGs) : Prop where
  run : ∀ {B H : Hp} {G : Addr → Prop} {σ : St} {ρ : List S} {ds : List D} {vs : List V} {Qd : List S → Prop} {Q : St → Hp → Prop}, Rep K B H G σ ρ → DqAll K B vs ds → dg ds ρ Qd →
    (∀ σ' ρ', Rep K B H G σ' ρ' → (∀ vs : List Nat, (∀ j ∈ js, j ∈ vs) → wipe σ' vs = wipe σ vs) → Qd ρ' → Q σ' H) → g vs σ H Q
structure CG (X : Cx) (tg : Expr) (js : List Nat) (g : TG) (dg : dG) : Prop where
  pg : PG X tg g
  sim : SimG X.K js g dg
structure CGs (X : Cx) (tgs : List Expr) (js : List Nat) (g : TGs) (dg : dGs) : Prop where
  pg : PGs X tgs g
  sim : SimGs X.K js g dg
def dgName (i : Nat) : dG := fun d ρ Q => Q (ρ.set i (.v d))
def dgNil : dGs := fun ds ρ Q => ds = [] ∧ Q ρ
def dgCons (g : dG) (gs : dGs) : dGs := fun ds ρ Q => match ds with
  | d :: r => g d ρ fun ρ' => gs r ρ' Q
  | [] => False
def dgTup (n : Nat) (gs : dGs) : dG := fun d ρ Q => match d with
  | .tuple ds => ds.length = n ∧ gs ds ρ Q
  | .list ds => ds.length = n ∧ gs ds ρ Q
  | _ => False
/-- (a, b, ..) = a tuple or a list of that length -/
def gTU (K : PySem.W.Frag) (n : Nat) (t : TGs) : TG := fun v σ H Q => gTup K n t v σ H Q ∨ gUnl K n t v σ H Q
theorem wipe_at (σ : St) (i : Nat) : ∀ vs : List Nat, (wipe σ vs)[i]? = if i ∈ vs then (σ[i]?).map (fun _ => none) else σ[i]?
  | [] => by simp [wipe]
  | v :: r => by
    show ((wipe σ r).set v none)[i]? = _
    by_cases h2 : v = i
    · subst h2
      rw [if_pos List.mem_cons_self, List.getElem?_set]
      simp only [if_true, wipe_length]
      cases e : σ[v]? with
      | none =>
        have := List.getElem?_eq_none_iff.mp e
        rw [if_neg (by omega)]; rfl
      | some z =>
        have := (List.getElem?_eq_some_iff.mp e).1
        rw [if_pos this]; rfl
    · rw [List.getElem?_set_ne h2, wipe_at σ i r]
      by_cases h1 : i ∈ r
      · rw [if_pos h1, if_pos (List.mem_cons_of_mem _ h1)]
      · rw [if_neg h1, if_neg (by simp; exact ⟨fun z => h2 z.symm, h1⟩)]
theorem wipe_set {σ : St} {x : Option V} {j : Nat} {vs : List Nat} (hj : j ∈ vs) : wipe (σ.set j x) vs = wipe σ vs := by
  apply List.ext_getElem?
  intro i
  rw [wipe_at, wipe_at]
  by_cases h : i ∈ vs
  · rw [if_pos h, if_pos h]
    by_cases h2 : j = i
    · subst h2
      rw [List.getElem?_set]
      simp only [if_true]
      cases e : σ[j]? with
      | none =>
        have := List.getElem?_eq_none_iff.mp e
        rw [if_neg (by omega)]
      | some z =>
        have := (List.getElem?_eq_some_iff.mp e).1
        rw [if_pos this]; rfl
    · rw [List.getElem?_set_ne h2]
  · rw [if_neg h, if_neg h, List.getElem?_set_ne (fun z => h (by rw [← z]; exact hj))]
section
variable {X : Cx} {K : PySem.W.Frag}
theorem sim_gname {i : Nat} : SimG K [i] (gName i) (dgName i) := ⟨fun {B H G σ ρ d v Qd Q} p h q k => k _ _ (p.setV h) (fun vs hv => wipe_set (hv i (List.mem_singleton.mpr rfl))) q⟩
theorem sim_gnil : SimGs K [] gNil dgNil := ⟨fun {B H G σ ρ ds vs Qd Q} p h q k => by
  obtain ⟨e, q⟩ := q
  subst e
  cases h
  exact ⟨rfl, k _ _ p (fun _ _ => rfl) q⟩⟩
theorem sim_gcons {js ks : List Nat} {t : TG} {u : TGs} {g : dG} {gs : dGs} (h1 : SimG K js t g) (h2 : SimGs K ks u gs) : SimGs K (js ++ ks) (gCons t u) (dgCons g gs) := by
  refine ⟨fun {B H G σ ρ ds vs Qd Q} p h q k => ?_⟩
  cases h with
  | nil => exact (show False from q).elim
  | cons a b =>
    refine ⟨_, _, rfl, h1.run p a q fun σ1 ρ1 p1 w1 q1 => ?_⟩
    refine h2.run p1 b q1 fun σ2 ρ2 p2 w2 q2 => ?_
    exact k _ _ p2 (fun vs hv => (w2 vs fun j hj => hv j (List.mem_append_right _ hj)).trans (w1 vs fun j hj => hv j (List.mem_append_left _ hj))) q2
theorem sim_gtup {js : List Nat} {u : TGs} {gs : dGs} {n : Nat} (h : SimGs K js u gs) : SimG K js (gTU K n u) (dgTup n gs) := by
  refine ⟨fun {B H G σ ρ d v Qd Q} p hd q k => ?_⟩
  cases d with
  | tuple ds =>
    obtain ⟨a, vs, rfl, hs, ha⟩ := dp_tup hd
    exact .inl ⟨a, vs, rfl, ex_t p.ex hs, by rw [dps_len ha]; exact q.1, h.run p ha q.2 k⟩
  | list ds =>
    obtain ⟨a, vs, rfl, hs, ha⟩ := dp_lst hd
    exact .inr ⟨a, vs, rfl, .inl (ex_rd p.ex hs), by rw [dps_len ha]; exact q.1, h.run p ha q.2 k⟩
  | _ => exact (show False from q).elim
theorem pg_tu {es : List Expr} {k : Nat} {t : TGs} {n : Nat} {pos : Pos} (hc : X.calm = true) (h : PGs X es t)
    (hn : (assignEach es X.env).length = n := by rfl) (hst : (assignEach es X.env).findIdx? (·.1) = none := by rfl) : PG X (.Tuple es k pos) (gTU X.K n t) := by
  refine ⟨fun pins s σ H v u Q I r hw => ?_⟩
  rcases hw with hw | hw
  · exact (pg_tup hc h hn hst).run pins s σ H v u Q I r hw
  · exact (pg_unl hc h hn hst).run pins s σ H v u Q I r hw
theorem cg_name {i : Nat} {x : Str} {pos : Pos} (hN : X.N.Nodup) (hi : X.N[i]? = some x) (hx : Loc X.env.scope x) (hf : X.fn x = true ∨ X.env.scope.names.lookup x = some .local := by first | exact .inl rfl | exact .inr rfl | assumption) : CG X (.Name x pos) [i] (gName i) (dgName i) := ⟨pg_name hN hi hx hf, sim_gname⟩
theorem cgs_nil : CGs X [] [] gNil dgNil := ⟨pgs_nil, sim_gnil⟩
theorem cgs_cons {e : Expr} {es : List Expr} {js ks : List Nat} {t : TG} {u : TGs} {g : dG} {gs : dGs} (h1 : CG X e js t g) (h2 : CGs X es ks u gs)
    (hs : (assignEach (e :: es) X.env).map (·.2) = assign e X.env :: (assignEach es X.env).map (·.2) := by rfl) : CGs X (e :: es) (js ++ ks) (gCons t u) (dgCons g gs) := ⟨pgs_cons h1.pg h2.pg hs, sim_gcons h1.sim h2.sim⟩
theorem cg_tup {es : List Expr} {k : Nat} {pos : Pos} {js : List Nat} {u : TGs} {gs : dGs} {n : Nat} (hc : X.calm = true) (h : CGs X es js u gs)
    (hn : (assignEach es X.env).length = n := by rfl) (hst : (assignEach es X.env).findIdx? (·.1) = none := by rfl) : CG X (.Tuple es k pos) js (gTU X.K n u) (dgTup n gs) := ⟨pg_tu hc h.pg hn hst, sim_gtup h.sim⟩
end
/-- a, b = e -/
def dUnp (de : dE) (g : dG) : dS := fun E ρ => de ρ fun z => match z.own with
  | some d => g d ρ E.nx
  | none => False
theorem sim_unp {K : PySem.W.Frag} {te : TE} {de : dE} {js : List Nat} {g : TG} {dg : dG} (h : SimE K te de) (hg : SimG K js g dg) : SimS K (tAsg te g) (dUnp de dg) := by
  refine ⟨fun {B H G σ ρ D E} p q k1 k2 k3 k4 => ?_⟩
  refine h.run p q fun z v B1 H1 g1 z1 h1 => ?_
  have h1 : (match z.own with
    | some d => dg d ρ E.nx
    | none => False) := h1
  cases e : z.own with
  | none => rw [e] at h1; exact h1.elim
  | some d =>
    rw [e] at h1
    obtain ⟨B2, g2, _, hd⟩ := z1.clean g1 e
    exact hg.run (p.gr g2) hd h1 fun σ' ρ' p' _ q' => k1 _ _ _ _ _ (Ext.gr g2) p' q'

/-! ### what is walked -/
abbrev dI_ := List S → (List D → Prop) → Prop
/-- the turns give these items -/
structure JIs (K : PySem.W.Frag) (B : Hp) (J : It) (items : List D) : Prop where
  go : ∀ {B1 H1 : Hp} {i : Nat}, Ex B B1 → Ex B1 H1 → i < items.length → J.go i H1
  stop : ∀ {B1 H1 : Hp}, Ex B B1 → Ex B1 H1 → J.stop items.length H1
  yld : ∀ {B1 H1 H2 : Hp} {i : Nat} {x : V} {d : D}, Ex B B1 → Ex B1 H1 → items[i]? = some d → J.yld i H1 x H2 → ∃ B2, Gr B1 H1 B2 H2 ∧ Dq K B2 x d
structure SimI (K : PySem.W.Frag) (wi : TI) (di : dI_) : Prop where
  run : ∀ {B H : Hp} {G : Addr → Prop} {σ : St} {ρ : List S} {Qi : List D → Prop} {R : It → Hp → Prop}, Rep K B H G σ ρ → di ρ Qi → (∀ items J B' H', Gr B H B' H' → JIs K B' J items → Qi items → R J H') → wi σ H R
structure CI (X : Cx) (tg iter : Expr) (wi : TI) (di : dI_) : Prop where
  pi : PI X tg iter wi
  sim : SimI X.K wi di
def dFor (di : dI_) (g : dG) (body : dS) : dS := fun E ρ => di ρ fun items => ∃ I : Nat → List S → Prop, I 0 ρ ∧
  (∀ i x ρ', items[i]? = some x → I i ρ' → g x ρ' fun ρ1 => body { nx := I (i + 1), rt := E.rt, bk := E.nx, ct := I (i + 1) } ρ1) ∧ ∀ ρ', I items.length ρ' → E.nx ρ'
theorem sim_for {K : PySem.W.Frag} {wi : TI} {di : dI_} {js : List Nat} {g : TG} {dg : dG} {tb : TS} {body : dS} (hi : SimI K wi di) (hg : SimG K js g dg) (hb : SimS K tb body) : SimS K (tFor wi g tb) (dFor di dg body) := by
  refine ⟨fun {B H G σ ρ D E} p q k1 k2 k3 k4 => ?_⟩
  refine hi.run p q fun items J B1 H1 g1 hJ h1 => ?_
  obtain ⟨I, i0, turn, done⟩ := h1
  have p1 := p.gr g1
  have x1 := Ext.gr (G := G) g1
  refine ⟨fun i m σ' H' => m = items.length - i ∧ i ≤ items.length ∧ ∃ B' G' ρ', Ext B1 H1 G B' H' G' ∧ Rep K B' H' G' σ' ρ' ∧ I i ρ', ⟨items.length, by simp, Nat.zero_le _, B1, G, ρ, Ext.refl, p1, i0⟩, ?_⟩
  rintro i m σ' H' ⟨rfl, hle, B', G', ρ', x', p', hI⟩
  by_cases hlt : i < items.length
  · refine .inr ⟨hJ.go x'.b p'.ex hlt, fun σ2 H2 => ∃ B2 G2 ρ2, Ext B1 H1 G B2 H2 G2 ∧ Rep K B2 H2 G2 σ2 ρ2 ∧ I (i + 1) ρ2, fun σ2 H2 ⟨B2, G2, ρ2, a, b, c⟩ => ⟨items.length - (i + 1), by omega, rfl, hlt, B2, G2, ρ2, a, b, c⟩, fun v H2 hy => ?_⟩
    have e : items[i]? = some items[i] := List.getElem?_eq_getElem hlt
    obtain ⟨B2, g2, hd⟩ := hJ.yld x'.b p'.ex e hy
    have x2 := x'.trans (Ext.gr (G := G') g2)
    refine hg.run (p'.gr g2) hd (turn i _ ρ' e hI) fun σ3 ρ3 p3 _ q3 => ?_
    refine hb.run p3 q3 (fun B4 H4 G4 σ4 ρ4 x4 p4 q4 => ⟨B4, G4, ρ4, x2.trans x4, p4, q4⟩) (fun B4 H4 G4 z v x4 ex r q4 => k2 _ _ _ _ _ ((x1.trans x2).trans x4) ex (r.back (x1.trans x2)) q4)
      (fun B4 H4 G4 σ4 ρ4 x4 p4 q4 => k1 _ _ _ _ _ ((x1.trans x2).trans x4) p4 q4) (fun B4 H4 G4 σ4 ρ4 x4 p4 q4 => ⟨B4, G4, ρ4, x2.trans x4, p4, q4⟩)
  · have e : i = items.length := by omega
    subst e
    exact .inl ⟨hJ.stop x'.b p'.ex, k1 _ _ _ _ _ (x1.trans x') p' (done ρ' hI)⟩
/-! lists, tuples, ranges -/
def dItems (de : dE) : dI_ := fun ρ Q => de ρ fun z => match z.own with
  | some (.list xs) => Q xs
  | some (.dict [(.none, .list xs)]) => Q xs
  | some (.tuple xs) => Q xs
  | _ => False
def iSeq (K : PySem.W.Frag) (tl : TE) : TI := fun σ H R => tl σ H fun x H1 => ∃ a, x = .ref a ∧ (((∃ xs, SqL K H1 a xs) ∧ R (Itl K a) H1) ∨ ((∃ xs, SqT K H1 a xs) ∧ R (Itt K a) H1))
theorem pi_seq {X : Cx} {tg l : Expr} {tl : TE} (hl : PE X l tl) : PI X tg l (iSeq X.K tl) := by
  refine ⟨fun pins s σ H R I h => ?_⟩
  refine thn (hl.run pins s σ H _ I h) fun v s1 ⟨x, H1, I1, r1, q1⟩ => ?_
  obtain ⟨a, e, q⟩ := q1
  subst e
  cases r1
  rcases q with ⟨⟨xs, hq⟩, q⟩ | ⟨⟨xs, hq⟩, q⟩
  · obtain ⟨its, rv, p, hz⟩ := I1.list hq
    refine wpAny_pyIter_list p.isList ?_
    refine ⟨s1.heap.objs.size, [s1.heap.objs.size], _, _, H1, rfl, I1.kept (t' := s1.toks) fun b o e => Heap.get?_push_of_some _ e, turn_list a _, ⟨_, Heap.get?_push_size _ rfl, rfl, rfl⟩, fun b hb => ?_, q⟩
    have e : b = s1.heap.objs.size := by simpa using hb
    subst e
    exact I1.fpOk (Nat.le_refl _) (I1.hok.fresh (Nat.le_refl _))
  · obtain ⟨its, rv, p, hz⟩ := I1.tuple hq
    refine wpAny_pyIter_tuple (show s1.heap.IsTuple a its.toArray from p) ?_
    refine ⟨s1.heap.objs.size, [s1.heap.objs.size], _, _, H1, rfl, I1.kept (t' := s1.toks) fun b o e => Heap.get?_push_of_some _ e, turn_tuple a _, ⟨_, Heap.get?_push_size _ rfl, rfl, rfl⟩, fun b hb => ?_, q⟩
    have e : b = s1.heap.objs.size := by simpa using hb
    subst e
    exact I1.fpOk (Nat.le_refl _) (I1.hok.fresh (Nat.le_refl _))
section
variable {K : PySem.W.Frag}
theorem jis_l {B : Hp} {a : Addr} {vs : List V} {xs : List D} (h : SqL K B a vs) (q : DqAll K B vs xs) : JIs K B (Itl K a) xs := by
  have hl := dps_len q
  refine ⟨fun {B1 H1 i} e1 e2 hi => ?_, fun {B1 H1} e1 e2 => ?_, fun {B1 H1 H2 i x d} e1 e2 ei hy => ?_⟩
  · exact ⟨vs, vs[i]'(by omega), ex_l (e1.trans e2) h, List.getElem?_eq_getElem _⟩
  · exact ⟨vs, ex_l (e1.trans e2) h, by omega⟩
  · obtain ⟨rfl, hy⟩ := hy
    obtain ⟨v, ev, dv⟩ := dps_get q ei
    have := hy vs (ex_l (e1.trans e2) h)
    rw [ev] at this
    cases this
    exact ⟨B1, Gr.refl e2, dp_mono e1 _ _ dv⟩
theorem jis_t {B : Hp} {a : Addr} {vs : List V} {xs : List D} (h : SqT K B a vs) (q : DqAll K B vs xs) : JIs K B (Itt K a) xs := by
  have hl := dps_len q
  refine ⟨fun {B1 H1 i} e1 e2 hi => ?_, fun {B1 H1} e1 e2 => ?_, fun {B1 H1 H2 i x d} e1 e2 ei hy => ?_⟩
  · exact ⟨vs, vs[i]'(by omega), ex_t (e1.trans e2) h, List.getElem?_eq_getElem _⟩
  · exact ⟨vs, ex_t (e1.trans e2) h, by omega⟩
  · obtain ⟨rfl, hy⟩ := hy
    obtain ⟨v, ev, dv⟩ := dps_get q ei
    have := hy vs (ex_t (e1.trans e2) h)
    rw [ev] at this
    cases this
    exact ⟨B1, Gr.refl e2, dp_mono e1 _ _ dv⟩
theorem sim_seqI {te : TE} {de : dE} (h : SimE K te de) : SimI K (iSeq K te) (dItems de) := by
  refine ⟨fun {B H G σ ρ Qi R} p q k => ?_⟩
  refine h.run p q fun z v B1 H1 g1 z1 h1 => ?_
  have h1 : (match z.own with
    | some (.list xs) => Qi xs
    | some (.dict [(.none, .list xs)]) => Qi xs
    | some (.tuple xs) => Qi xs
    | _ => False) := h1
  split at h1
  · rename_i xs e
    obtain ⟨B2, g2, _, hd⟩ := z1.clean g1 e
    obtain ⟨a, vs, rfl, r, qq⟩ := dp_lst hd
    exact ⟨a, rfl, .inl ⟨⟨vs, .inl (ex_rd g2.ex r)⟩, k _ _ _ _ g2 (jis_l (.inl r) qq) h1⟩⟩
  · rename_i xs e
    obtain ⟨B2, g2, _, hd⟩ := z1.clean g1 e
    obtain ⟨a, vs, rfl, r, qq⟩ := dp_scr hd
    exact ⟨a, rfl, .inl ⟨⟨vs, ex_l g2.ex r⟩, k _ _ _ _ g2 (jis_l r qq) h1⟩⟩
  · rename_i xs e
    obtain ⟨B2, g2, _, hd⟩ := z1.clean g1 e
    obtain ⟨a, vs, rfl, r, qq⟩ := dp_tup hd
    exact ⟨a, rfl, .inr ⟨⟨vs, ex_t g2.ex r⟩, k _ _ _ _ g2 (jis_t r qq) h1⟩⟩
  · exact h1.elim
/-- lo, lo + 1, .. -/
def upFrom (lo : Int) (n : Nat) : List D := (List.range n).map fun (i : Nat) => PyData.int (lo + (i : Int))
theorem upFrom_length {lo : Int} {n : Nat} : (upFrom lo n).length = n := by unfold upFrom; simp
theorem upFrom_get {lo : Int} {n i : Nat} {d : D} (h : (upFrom lo n)[i]? = some d) : i < n ∧ d = .int (lo + (i : Int)) := by
  unfold upFrom at h
  rw [List.getElem?_map] at h
  cases e : (List.range n)[i]? with
  | none => rw [e] at h; cases h
  | some j =>
    rw [e] at h
    have hi : i < n := by
      have := (List.getElem?_eq_some_iff.mp e).1
      rwa [List.length_range] at this
    rw [List.getElem?_range hi] at e
    cases e
    exact ⟨hi, (Option.some.inj h).symm⟩
theorem jis_r {B : Hp} {lo : Int} {n : Nat} : JIs K B (Itr lo n) (upFrom lo n) := by
  refine ⟨fun {B1 H1 i} e1 e2 hi => ?_, fun {B1 H1} e1 e2 => ?_, fun {B1 H1 H2 i x d} e1 e2 ei hy => ?_⟩
  · rw [upFrom_length] at hi; exact hi
  · rw [upFrom_length]; exact Nat.le_refl _
  · obtain ⟨rfl, rfl⟩ := hy
    obtain ⟨hi, rfl⟩ := upFrom_get ei
    exact ⟨B1, Gr.refl e2, .int _⟩
def dRng1 (da : dA) : dI_ := fun ρ Q => da ρ fun zs => match zs with
  | [z] => match z.data with
    | some (.int j) => (-(2 ^ 62) ≤ j ∧ j < 2 ^ 62) ∧ Q (upFrom 0 j.toNat)
    | _ => False
  | _ => False
def dRng2 (da : dA) : dI_ := fun ρ Q => da ρ fun zs => match zs with
  | [y, z] => match y.data, z.data with
    | some (.int i), some (.int j) => (-(2 ^ 62) ≤ i ∧ i < 2 ^ 62 ∧ -(2 ^ 62) ≤ j ∧ j < 2 ^ 62) ∧ Q (upFrom i (j - i).toNat)
    | _, _ => False
  | _ => False
theorem sim_rng1 {ta : TA} {da : dA} (h : SimA K ta da) : SimI K (iRng1 ta) (dRng1 da) := by
  refine ⟨fun {B H G σ ρ Qi R} p q k => ?_⟩
  refine h.run p q fun zs vs B1 H1 g1 z1 h1 => ?_
  cases z1 with
  | nil => exact (show False from h1).elim
  | cons a b =>
    cases b with
    | nil =>
      rename_i z v
      have h1 : (match z.data with
        | some (.int j) => (-(2 ^ 62) ≤ j ∧ j < 2 ^ 62) ∧ Qi (upFrom 0 j.toNat)
        | _ => False) := h1
      split at h1
      · rename_i j e
        exact ⟨j, by rw [dp_int (a.dp g1.ex e)], h1.1.1, h1.1.2, k _ _ _ _ g1 jis_r h1.2⟩
      · exact h1.elim
    | cons _ _ => exact (show False from h1).elim
theorem sim_rng2 {ta : TA} {da : dA} (h : SimA K ta da) : SimI K (iRng2 ta) (dRng2 da) := by
  refine ⟨fun {B H G σ ρ Qi R} p q k => ?_⟩
  refine h.run p q fun zs vs B1 H1 g1 z1 h1 => ?_
  cases z1 with
  | nil => exact (show False from h1).elim
  | cons a b =>
    cases b with
    | nil => exact (show False from h1).elim
    | cons c d =>
      cases d with
      | nil =>
        rename_i y v z w
        have h1 : (match y.data, z.data with
          | some (.int i), some (.int j) => (-(2 ^ 62) ≤ i ∧ i < 2 ^ 62 ∧ -(2 ^ 62) ≤ j ∧ j < 2 ^ 62) ∧ Qi (upFrom i (j - i).toNat)
          | _, _ => False) := h1
        split at h1
        · rename_i i j e1 e2
          exact ⟨i, j, by rw [dp_int (a.dp g1.ex e1), dp_int (c.dp g1.ex e2)], h1.1, k _ _ _ _ g1 jis_r h1.2⟩
        · exact h1.elim
      | cons _ _ => exact (show False from h1).elim
end
end Dl

set_option maxHeartbeats 2000000
namespace Dl
open PySem L2

/-! ### while -/
def dWhile (t : dT) (body : dS) : dS := fun E ρ => ∃ (I : List S → Prop) (μ : List S → Nat), I ρ ∧
  ∀ ρ', I ρ' → t ρ' fun c => if c = true then body { nx := fun ρ2 => I ρ2 ∧ μ ρ2 < μ ρ', rt := E.rt, bk := E.nx, ct := fun ρ2 => I ρ2 ∧ μ ρ2 < μ ρ' } ρ' else E.nx ρ'
theorem sim_while {K : PySem.W.Frag} {tt : TT} {dt : dT} {tb : TS} {body : dS} (h0 : SimT K tt dt) (hb : SimS K tb body) : SimS K (tWhile tt tb) (dWhile dt body) := by
  refine ⟨fun {B H G σ ρ D E} p q k1 k2 k3 k4 => ?_⟩
  obtain ⟨I, μ, i0, turn⟩ := q
  refine ⟨fun m σ' H' => ∃ B' G' ρ', Ext B H G B' H' G' ∧ Rep K B' H' G' σ' ρ' ∧ I ρ' ∧ m = μ ρ', ⟨μ ρ, B, G, ρ, Ext.refl, p, i0, rfl⟩, ?_⟩
  rintro m σ' H' ⟨B', G', ρ', x', p', hI, rfl⟩
  refine h0.run p' (turn ρ' hI) fun c B1 H1 g1 q1 => ?_
  have x1 := x'.trans (Ext.gr (G := G') g1)
  cases c with
  | true =>
    refine ⟨fun σ2 H2 => ∃ B2 G2 ρ2, Ext B H G B2 H2 G2 ∧ Rep K B2 H2 G2 σ2 ρ2 ∧ I ρ2 ∧ μ ρ2 < μ ρ', fun σ2 H2 ⟨B2, G2, ρ2, a, b, c, d⟩ => ⟨μ ρ2, d, B2, G2, ρ2, a, b, c, rfl⟩, ?_⟩
    refine hb.run (p'.gr g1) q1 (fun B4 H4 G4 σ4 ρ4 x4 p4 q4 => ⟨B4, G4, ρ4, x1.trans x4, p4, q4⟩) (fun B4 H4 G4 z v x4 ex r q4 => k2 _ _ _ _ _ (x1.trans x4) ex (r.back x1) q4)
      (fun B4 H4 G4 σ4 ρ4 x4 p4 q4 => k1 _ _ _ _ _ (x1.trans x4) p4 q4) (fun B4 H4 G4 σ4 ρ4 x4 p4 q4 => ⟨B4, G4, ρ4, x1.trans x4, p4, q4⟩)
  | false => exact k1 _ _ _ _ _ x1 (p'.gr g1) q1

/-! ### x += e -/
def dAug (i : Nat) (dr : Z → Z → (Z → Prop) → Prop) (de : dE) : dS := fun E ρ => dVar i ρ fun x => de ρ fun y => dr x y fun z => match z with
  | .v d => E.nx (ρ.set i (.v d))
  | _ => False
theorem sim_aug {K : PySem.W.Frag} {r : TIp} {dr : Z → Z → (Z → Prop) → Prop} {te : TE} {de : dE} {i : Nat} (hr : SimR K r dr) (h : SimE K te de) : SimS K (tAug i te r) (dAug i dr de) := by
  refine ⟨fun {B H G σ ρ D E} p q k1 k2 k3 k4 => ?_⟩
  have hv : SimE K (tVar i) (dVar i) := sim_var
  have go : tVar i σ H fun x H' => H' = H → te σ H fun y H1 => r x y H1 fun z H2 => D.nx (σ.set i (some z)) H2 := by
    refine hv.run p q fun x v B1 H1 g1 z1 h1 e => ?_
    subst e
    refine h.run (p.gr g1) h1 fun y w B2 H2 g2 z2 h2 => ?_
    refine hr ((p.ok.gr g1).gr g2) (H_0 := H1) (z1.gr g2) z2 h2 fun z u B3 H3 g3 z3 h3 => ?_
    have gg := (g1.trans g2).trans g3
    cases z with
    | v d => exact k1 _ _ _ _ _ (Ext.gr gg) ((p.gr gg).setV z3) h3
    | b _ => exact (show False from h3).elim
    | n _ => exact (show False from h3).elim
  obtain ⟨x, e, k⟩ := go
  exact ⟨x, e, k rfl⟩

/-! ### our own lists -/
def dApp (i : Nat) (de : dE) : dS := fun E ρ => match ρ[i]? with
  | some (.l xs) => de ρ fun z => match z.own with
    | some d => xs.length < sizeLine ∧ E.nx (ρ.set i (.l (xs ++ [d])))
    | none => False
  | _ => False
theorem sim_app {K : PySem.W.Frag} {te : TE} {de : dE} {i : Nat} (h : SimE K te de) : SimS K (tDrop (tBM K "list" rAppend (tVar i) (tCons te tNil))) (dApp i de) := by
  refine ⟨fun {B H G σ ρ D E} p q k1 k2 k3 k4 => ?_⟩
  unfold dApp at q
  split at q
  · rename_i xs e
    obtain ⟨a, vs, e1, h1, q1, _⟩ := p.mutL (ys := xs) e
    refine ⟨.ref a, e1, .inl ⟨rfl, vs, .inl (.inl h1)⟩, ?_⟩
    refine h.run p q fun z v B1 H1 g1 z1 hz => ?_
    have hz : (match z.own with
      | some d => xs.length < sizeLine ∧ E.nx (ρ.set i (.l (xs ++ [d])))
      | none => False) := hz
    cases ez : z.own with
    | none => rw [ez] at hz; exact hz.elim
    | some d =>
      rw [ez] at hz
      obtain ⟨B2, g2, _, hd⟩ := z1.clean g1 ez
      obtain ⟨a', vs', e1', h1', q1', up⟩ := (p.gr g2).mutL (ys := xs ++ [d]) e
      rw [e1] at e1'
      cases e1'
      refine ⟨a, vs', v, rfl, rfl, h1', by rw [dps_len q1']; exact hz.1, ?_⟩
      obtain ⟨p', x'⟩ := up (vs' ++ [v]) (dps_app q1' (.cons hd .nil))
      exact k1 _ _ _ _ _ ((Ext.gr g2).trans x') p' hz.2
  · exact q.elim
/-- xs[j] = e -/
def dSetL (i : Nat) (de dj : dE) : dS := fun E ρ => match ρ[i]? with
  | some (.l xs) => de ρ fun z => dj ρ fun y => match z.own, y.data with
    | some d, some (.int k) => ∃ j, ixN xs.length k = some j ∧ E.nx (ρ.set i (.l (xs.set j d)))
    | _, _ => False
  | _ => False
theorem sim_setL {K : PySem.W.Frag} {te tj : TE} {de dj : dE} {i : Nat} (h : SimE K te de) (hj : SimE K tj dj) : SimS K (tAsg te (gSub (tVar i) tj rSetL)) (dSetL i de dj) := by
  refine ⟨fun {B H G σ ρ D E} p q k1 k2 k3 k4 => ?_⟩
  unfold dSetL at q
  split at q
  · rename_i xs e
    refine h.run p q fun z v B1 H1 g1 z1 hz => ?_
    have p1 := p.gr g1
    obtain ⟨a, vs, e1, h1, q1, _⟩ := p1.mutL (ys := xs) e
    refine ⟨.ref a, e1, ?_⟩
    refine hj.run p1 hz fun y w B2 H2 g2 z2 hy => ?_
    have hy : (match z.own, y.data with
      | some d, some (.int k) => ∃ j, ixN xs.length k = some j ∧ E.nx (ρ.set i (.l (xs.set j d)))
      | _, _ => False) := hy
    split at hy
    · rename_i d k ez ey
      obtain ⟨j, ej, hn⟩ := hy
      have gg := g1.trans g2
      obtain ⟨B3, g3, _, hd⟩ := (z1.gr g2).clean gg ez
      obtain ⟨a', vs', e1', h1', q1', up⟩ := (p.gr g3).mutL (ys := xs.set j d) e
      rw [e1] at e1'
      cases e1'
      obtain ⟨p', x'⟩ := up (vs'.set j v) (dps_set j q1' hd)
      exact ⟨a, vs', k, j, rfl, dp_int (z2.dp gg.ex ey), h1', by rw [dps_len q1']; exact ej, k1 _ _ _ _ _ ((Ext.gr g3).trans x') p' hn⟩
    · exact hy.elim
  · exact q.elim

/-! ### built-in functions -/
def dL1 (f : D → (Z → Prop) → Prop) (zs : List Z) (Q : Z → Prop) : Prop := match zs with
  | [z] => match z.data with
    | some d => f d Q
    | none => False
  | _ => False
def dL2 (f : D → D → (Z → Prop) → Prop) (zs : List Z) (Q : Z → Prop) : Prop := match zs with
  | [y, z] => match y.data, z.data with
    | some d, some e => f d e Q
    | _, _ => False
  | _ => False
section
variable {K : PySem.W.Frag}
theorem simL_1 {r : List V → Hp → VK → Prop} {f : D → (Z → Prop) → Prop}
    (h : ∀ {B H : Hp} {G : Addr → Prop} {H_0 : Hp} {z : Z} {v : V} {d : D} {Qd : Z → Prop} {Q : VK}, Ok B H G → ZIs K B H G H_0 z v → z.data = some d → f d Qd → (∀ z v' B' H', Gr B H B' H' → ZIs K B' H' G H z v' → Qd z → Q v' H') → r [v] H Q) : SimL K r (dL1 f) := by
  intro B H G H_0 xs vs Qd Q ok za q k
  cases za with
  | nil => exact (show False from q).elim
  | cons a b =>
    cases b with
    | cons _ _ => exact (show False from q).elim
    | nil =>
      rename_i z v
      have q : (match z.data with
        | some d => f d Qd
        | none => False) := q
      cases e : z.data with
      | none => rw [e] at q; exact q.elim
      | some d => rw [e] at q; exact h ok a e q k
theorem simL_2 {r : List V → Hp → VK → Prop} {f : D → D → (Z → Prop) → Prop}
    (h : ∀ {B H : Hp} {G : Addr → Prop} {H_0 : Hp} {y z : Z} {v w : V} {d e : D} {Qd : Z → Prop} {Q : VK}, Ok B H G → ZIs K B H G H_0 y v → ZIs K B H G H_0 z w → y.data = some d → z.data = some e → f d e Qd → (∀ z v' B' H', Gr B H B' H' → ZIs K B' H' G H z v' → Qd z → Q v' H') → r [v, w] H Q) : SimL K r (dL2 f) := by
  intro B H G H_0 xs vs Qd Q ok za q k
  cases za with
  | nil => exact (show False from q).elim
  | cons a b =>
    cases b with
    | nil => exact (show False from q).elim
    | cons c d =>
      cases d with
      | cons _ _ => exact (show False from q).elim
      | nil =>
        rename_i y v z w
        have q : (match y.data, z.data with
          | some d, some e => f d e Qd
          | _, _ => False) := q
        cases e1 : y.data with
        | none => rw [e1] at q; exact q.elim
        | some d =>
          cases e2 : z.data with
          | none => rw [e1, e2] at q; exact q.elim
          | some e => rw [e1, e2] at q; exact h ok a c e1 e2 q k
def fLen : D → (Z → Prop) → Prop
  | .str y, Q => y.length ≤ sizeLine ∧ Q (.v (.int y.length))
  | .list xs, Q => Q (.v (.int xs.length))
  | .dict [(.none, .list xs)], Q => Q (.v (.int xs.length))
  | .tuple xs, Q => Q (.v (.int xs.length))
  | _, _ => False
def rLen (K : PySem.W.Frag) : List V → Hp → VK → Prop := fun xs H Q => ∃ x n, xs = [x] ∧ LenV K x H n ∧ Q (.int n) H
theorem sim_len : SimL K (rLen K) (dL1 fLen) := simL_1 fun {B H G H_0 z v d Qd Q} ok za e q k => by
  unfold fLen at q
  split at q
  · rename_i y
    refine ⟨v, y.length, rfl, ?_, k (.v (.int y.length)) _ B H (Gr.refl ok.ex) (.int _) q.2⟩
    rw [dp_str (za.dp ok.ex e)]
    exact ⟨q.1, rfl⟩
  · rename_i xs
    obtain ⟨a, vs, rfl, r, qq⟩ := za.items ok (items_of e)
    refine ⟨_, xs.length, rfl, .inl ⟨vs, r, (dps_len qq).symm⟩, k (.v (.int xs.length)) _ B H (Gr.refl ok.ex) (.int _) q⟩
  · rename_i xs
    obtain ⟨a, vs, rfl, r, qq⟩ := za.items ok (items_scr e)
    refine ⟨_, xs.length, rfl, .inl ⟨vs, r, (dps_len qq).symm⟩, k (.v (.int xs.length)) _ B H (Gr.refl ok.ex) (.int _) q⟩
  · rename_i xs
    obtain ⟨a, vs, rfl, r, _, qq⟩ := za.mems ok (mems_of e)
    refine ⟨_, xs.length, rfl, .inr ⟨vs, r, (dps_len qq).symm⟩, k (.v (.int xs.length)) _ B H (Gr.refl ok.ex) (.int _) q⟩
  · exact q.elim
def fAbs : D → (Z → Prop) → Prop
  | .int i, Q => Q (.v (.int (if i < 0 then -i else i)))
  | _, _ => False
def rAbs : List V → Hp → VK → Prop := fun xs H Q => ∃ i, xs = [.int i] ∧ Q (.int (if i < 0 then -i else i)) H
theorem sim_abs : SimL K rAbs (dL1 fAbs) := simL_1 fun {B H G H_0 z v d Qd Q} ok za e q k => by
  unfold fAbs at q
  split at q
  · rename_i i
    exact ⟨i, by rw [dp_int (za.dp ok.ex e)], k (.v (.int _)) _ B H (Gr.refl ok.ex) (.int _) q⟩
  · exact q.elim
def fInt : D → (Z → Prop) → Prop
  | .int i, Q => Q (.v (.int i))
  | .bool b, Q => Q (.v (.int (if b then 1 else 0)))
  | _, _ => False
def rInt : List V → Hp → VK → Prop := fun xs H Q => (∃ i, xs = [.int i] ∧ Q (.int i) H) ∨ ∃ k, xs = [.bl k] ∧ Q (.int (if k then 1 else 0)) H
theorem sim_int : SimL K rInt (dL1 fInt) := simL_1 fun {B H G H_0 z v d Qd Q} ok za e q k => by
  unfold fInt at q
  split at q
  · rename_i i
    exact .inl ⟨i, by rw [dp_int (za.dp ok.ex e)], k (.v (.int _)) _ B H (Gr.refl ok.ex) (.int _) q⟩
  · rename_i b
    exact .inr ⟨b, by rw [dp_bl (za.dp ok.ex e)], k (.v (.int _)) _ B H (Gr.refl ok.ex) (.int _) q⟩
  · exact q.elim
def fStr : D → (Z → Prop) → Prop
  | .int i, Q => i.natAbs.log2 < 1920 ∧ Q (.v (.str (toString i)))
  | _, _ => False
def rStrI : List V → Hp → VK → Prop := fun xs H Q => ∃ i, xs = [.int i] ∧ i.natAbs.log2 < 1920 ∧ Q (.str (toString i)) H
theorem sim_str : SimL K rStrI (dL1 fStr) := simL_1 fun {B H G H_0 z v d Qd Q} ok za e q k => by
  unfold fStr at q
  split at q
  · rename_i i
    exact ⟨i, by rw [dp_int (za.dp ok.ex e)], q.1, k (.v (.str _)) _ B H (Gr.refl ok.ex) (.str _) q.2⟩
  · exact q.elim
def fMax : D → D → (Z → Prop) → Prop
  | .int i, .int j, Q => Q (.v (.int (if j > i then j else i)))
  | _, _, _ => False
def rMax2 : List V → Hp → VK → Prop := fun xs H Q => ∃ i j, xs = [.int i, .int j] ∧ Q (.int (if j > i then j else i)) H
theorem sim_max : SimL K rMax2 (dL2 fMax) := simL_2 fun {B H G H_0 y z v w d e Qd Q} ok za zb e1 e2 q k => by
  unfold fMax at q
  split at q
  · rename_i i j
    exact ⟨i, j, by rw [dp_int (za.dp ok.ex e1), dp_int (zb.dp ok.ex e2)], k (.v (.int _)) _ B H (Gr.refl ok.ex) (.int _) q⟩
  · exact q.elim
def fMin : D → D → (Z → Prop) → Prop
  | .int i, .int j, Q => Q (.v (.int (if j < i then j else i)))
  | _, _, _ => False
def rMin2 : List V → Hp → VK → Prop := fun xs H Q => ∃ i j, xs = [.int i, .int j] ∧ Q (.int (if j < i then j else i)) H
theorem sim_min : SimL K rMin2 (dL2 fMin) := simL_2 fun {B H G H_0 y z v w d e Qd Q} ok za zb e1 e2 q k => by
  unfold fMin at q
  split at q
  · rename_i i j
    exact ⟨i, j, by rw [dp_int (za.dp ok.ex e1), dp_int (zb.dp ok.ex e2)], k (.v (.int _)) _ B H (Gr.refl ok.ex) (.int _) q⟩
  · exact q.elim
def fList : D → (Z → Prop) → Prop
  | .list xs, Q => Q (.n (.l xs))
  | .dict [(.none, .list xs)], Q => Q (.n (.l xs))
  | .tuple xs, Q => Q (.n (.l xs))
  | _, _ => False
def rList (K : PySem.W.Frag) : List V → Hp → VK → Prop := fun xs H Q => ∃ p ys, xs = [.ref p] ∧ (SqL K H p ys ∨ SqT K H p ys) ∧ ∀ l, H l = none → Q (.ref l) (upd H l (.lst ys))
theorem sim_list : SimL K (rList K) (dL1 fList) := simL_1 fun {B H G H_0 z v d Qd Q} ok za e q k => by
  unfold fList at q
  split at q
  · rename_i xs
    obtain ⟨a, vs, rfl, r, qq⟩ := za.items ok (items_of e)
    refine ⟨a, vs, rfl, .inl r, fun l hl => ?_⟩
    obtain ⟨g, z⟩ := new_list ok hl qq
    exact k _ _ _ _ g z q
  · rename_i xs
    obtain ⟨a, vs, rfl, r, qq⟩ := za.items ok (items_scr e)
    refine ⟨a, vs, rfl, .inl r, fun l hl => ?_⟩
    obtain ⟨g, z⟩ := new_list ok hl qq
    exact k _ _ _ _ g z q
  · rename_i xs
    obtain ⟨a, vs, rfl, r, _, qq⟩ := za.mems ok (mems_of e)
    refine ⟨a, vs, rfl, .inr r, fun l hl => ?_⟩
    obtain ⟨g, z⟩ := new_list ok hl qq
    exact k _ _ _ _ g z q
  · exact q.elim
def fTup : D → (Z → Prop) → Prop
  | .list xs, Q => Q (.v (.tuple xs))
  | .dict [(.none, .list xs)], Q => Q (.v (.tuple xs))
  | .tuple xs, Q => Q (.v (.tuple xs))
  | _, _ => False
def rTup (K : PySem.W.Frag) : List V → Hp → VK → Prop := fun xs H Q => ∃ p ys, xs = [.ref p] ∧ ((SqL K H p ys ∧ ∀ l, H l = none → Q (.ref l) (upd H l (.tup ys))) ∨ (SqT K H p ys ∧ Q (.ref p) H))
theorem sim_tuple : SimL K (rTup K) (dL1 fTup) := simL_1 fun {B H G H_0 z v d Qd Q} ok za e q k => by
  unfold fTup at q
  split at q
  · rename_i xs
    obtain ⟨a, vs, rfl, r, qq⟩ := za.items ok (items_of e)
    refine ⟨a, vs, rfl, .inl ⟨r, fun l hl => ?_⟩⟩
    obtain ⟨g, z⟩ := new_tup ok hl qq
    exact k _ _ _ _ g z q
  · rename_i xs
    obtain ⟨a, vs, rfl, r, qq⟩ := za.items ok (items_scr e)
    refine ⟨a, vs, rfl, .inl ⟨r, fun l hl => ?_⟩⟩
    obtain ⟨g, z⟩ := new_tup ok hl qq
    exact k _ _ _ _ g z q
  · rename_i xs
    obtain ⟨a, vs, rfl, r, rb, qq⟩ := za.mems ok (mems_of e)
    exact ⟨a, vs, rfl, .inr ⟨r, k (.v (.tuple xs)) _ B H (Gr.refl ok.ex) (.tup rb qq) q⟩⟩
  · exact q.elim
end
/-! isinstance(e, T), T a built-in class -/
def dTy : D → String
  | .none => "NoneType" | .bool _ => "bool" | .int _ => "int" | .str _ => "str" | .list _ => "list" | .tuple _ => "tuple" | .dict _ => "dict"
def isiB (a T : String) : Bool := a == T || (a == "bool" && T == "int")
def dIsi (T : String) (de : dE) : dE := fun ρ Q => de ρ fun z => match z.data with
  | some (.dict _) => False
  | some d => kitB (dTy d) T = some (isiB (dTy d) T) ∧ Q (.v (.bool (isiB (dTy d) T)))
  | none => False
theorem sim_isi {K : PySem.W.Frag} {te : TE} {de : dE} {T : String} (h : SimE K te de) : SimE K (tCB (rIsi K) (tCons te (tCons (tC (.ty T)) tNil))) (dIsi T de) := by
  refine ⟨fun {B H G σ ρ Qd Q} p q k => ?_⟩
  refine h.run p q fun z v B1 H1 g1 z1 h1 => ?_
  have ok := p.ok.gr g1
  have h1 : (match z.data with
    | some (.dict _) => False
    | some d => kitB (dTy d) T = some (isiB (dTy d) T) ∧ Qd (.v (.bool (isiB (dTy d) T)))
    | none => False) := h1
  split at h1
  · exact h1.elim
  · rename_i d nd e
    have hd := z1.dp ok.ex e
    have fin : Q (.bl (isiB (dTy d) T)) H1 := k (.v (.bool _)) _ B1 H1 g1 (.bl _) h1.2
    have ty : TyX K H1 v (.type (dTy d)) := by
      cases hd with
      | non => exact .base .non
      | bl b => exact .base (.bl b)
      | int i => exact .base (.int i)
      | str x => exact .base (.str x)
      | lst r _ =>
        rcases r with r | ⟨o, r⟩
        · exact .base (.lst r)
        · exact .base (.frz r)
      | tup r _ =>
        rcases r with (r | ⟨o, r⟩) | ⟨o, its, n, hk, hc, _⟩
        · exact .base (.tup r)
        · exact .fTuple r
        · exact .kTuple hk hc
      | scr _ _ => exact (nd _ rfl).elim
    exact ⟨v, .ty T, .type (dTy d), .type T, isiB (dTy d) T, rfl, .ty T, ty, kit_ty h1.1, fin⟩
  · exact h1.elim

/-! ### comprehensions -/
def wipeS (ρ : List S) : List Nat → List S
  | [] => ρ
  | v :: vs => (wipeS ρ vs).set v .no
theorem Rep.wipe {K : PySem.W.Frag} {B H : Hp} {G : Addr → Prop} {σ : St} {ρ : List S} (p : Rep K B H G σ ρ) : ∀ vs : List Nat, Rep K B H G (wipe σ vs) (wipeS ρ vs)
  | [] => p
  | v :: vs => by
    have q := Rep.wipe p vs
    exact q.forget (σ' := (L2.wipe σ vs).set v none) (by rw [List.length_set]) fun j hj => by rw [List.getElem?_set_ne (fun z => hj z.symm)]
def lcGo (dg : dG) (dt : dT) (de : dE) (ρ : List S) (Q : Z → Prop) : List D → List D → Prop
  | [], acc => Q (.n (.l acc))
  | x :: xs, acc => dg x ρ fun ρ1 => dt ρ1 fun b => if b = true then de ρ1 fun z => match z.own with
      | some d => acc.length < sizeLine ∧ lcGo dg dt de ρ Q xs (acc ++ [d])
      | none => False
    else lcGo dg dt de ρ Q xs acc
def dLc (di : dI_) (dg : dG) (dt : dT) (de : dE) (vs : List Nat) : dE := fun ρ Q => di ρ fun items => lcGo dg dt de (wipeS ρ vs) Q items []
def dYes : dT := fun _ Q => Q true
theorem sim_yes {K : PySem.W.Frag} : SimT K tYes dYes := ⟨fun {B H G σ ρ Qd Q} p q k => k true B H (Gr.refl p.ex) q⟩
theorem sim_lc {K : PySem.W.Frag} {wi : TI} {di : dI_} {js : List Nat} {g : TG} {dg : dG} {tt : TT} {dt : dT} {te : TE} {de : dE} {vs : List Nat} (hi : SimI K wi di) (hg : SimG K js g dg) (ht : SimT K tt dt) (he : SimE K te de) (hj : ∀ j ∈ js, j ∈ vs) :
    SimE K (tLc wi g tt te vs) (dLc di dg dt de vs) := by
  refine ⟨fun {B H G σ ρ Qd Q} p q k => ?_⟩
  refine hi.run p q fun items J B1 H1 g1 hJ h1 => ?_
  intro Dl hD
  have p1 := p.gr g1
  -- what holds between the turns
  refine ⟨fun i m H' => m = items.length - i ∧ i ≤ items.length ∧ ∃ B' acc ws, Gr B1 H1 B' H' ∧ B' Dl = none ∧ H' Dl = some (.lst ws) ∧ DqAll K B' ws acc ∧ lcGo dg dt de (wipeS ρ vs) Qd (items.drop i) acc, ⟨items.length, by simp, Nat.zero_le _, B1, [], [], ?_⟩, ?_⟩
  · have hb : B1 Dl = none := g1.ex.back hD
    exact ⟨⟨Ex.refl B1, Ex.new hD, g1.ex.trans (Ex.new hD), fun a h => .inl h⟩, hb, upd_same, .nil, h1⟩
  · rintro i m H' ⟨rfl, hle, B', acc, ws, g', hb, hw, hq, hgo⟩
    have p' := (p1.gr g').wipe vs
    by_cases hlt : i < items.length
    · refine .inr ⟨hJ.go g'.b g'.ex hlt, fun H2 => items.length - (i + 1) < items.length - i ∧ i + 1 ≤ items.length ∧ ∃ B' acc ws, Gr B1 H1 B' H2 ∧ B' Dl = none ∧ H2 Dl = some (.lst ws) ∧ DqAll K B' ws acc ∧ lcGo dg dt de (wipeS ρ vs) Qd (items.drop (i + 1)) acc, fun H2 h2 => ⟨items.length - (i + 1), h2.1, rfl, h2.2⟩, fun v H2 hy => ?_⟩
      have e : items[i]? = some items[i] := List.getElem?_eq_getElem hlt
      rw [List.drop_eq_getElem_cons hlt] at hgo
      obtain ⟨B2, g2, hd⟩ := hJ.yld g'.b g'.ex e hy
      have stay : ∀ {B3 H3 : Hp}, Gr B' H' B3 H3 → B3 Dl = none := fun {B3 H3} g => Classical.byContradiction fun z => (g.nw Dl z).elim (fun q => q hb) fun q => by rw [hw] at q; cases q
      refine hg.run (p'.gr g2) hd hgo fun σ3 ρ3 p3 w3 q3 => ⟨?_, ?_⟩
      · rw [w3 vs hj]
        apply List.ext_getElem?
        intro k
        rw [wipe_at, wipe_at]
        by_cases hk : k ∈ vs
        · rw [if_pos hk, if_pos hk]
          cases σ[k]? <;> rfl
        · rw [if_neg hk]
      refine ht.run p3 q3 fun b B4 H4 g4 q4 => ?_
      cases b with
      | false =>
        have gg := (g'.trans g2).trans g4
        exact ⟨by omega, hlt, B4, acc, ws, gg, stay (g2.trans g4), g4.h _ _ (g2.h _ _ hw), dps_mono (g2.b.trans g4.b) _ _ hq, q4⟩
      | true =>
        refine he.run (p3.gr g4) q4 fun z y B5 H5 g5 z5 q5 => ?_
        have q5 : (match z.own with
          | some d => acc.length < sizeLine ∧ lcGo dg dt de (wipeS ρ vs) Qd (items.drop (i + 1)) (acc ++ [d])
          | none => False) := q5
        cases ez : z.own with
        | none => rw [ez] at q5; exact q5.elim
        | some d =>
          rw [ez] at q5
          obtain ⟨B6, g6, _, hd6⟩ := z5.clean g5 ez
          have gl := (g2.trans g4).trans g6
          have gg := g'.trans gl
          have hD5 := gl.h _ _ hw
          have hb6 := stay gl
          refine ⟨ws, hD5, by rw [dps_len hq]; exact q5.1, by omega, hlt, B6, acc ++ [d], ws ++ [y], ⟨gg.b, fun a o h => ?_, fun a o h => ?_, gg.nw⟩, hb6, upd_same, dps_app (dps_mono gl.b _ _ hq) (.cons hd6 .nil), q5.2⟩
          · have : a ≠ Dl := fun z => by rw [z, hD] at h; cases h
            rw [upd_ne this]
            exact gg.h a o h
          · have : a ≠ Dl := fun z => by rw [z, hb6] at h; cases h
            rw [upd_ne this]
            exact gg.ex a o h
    · have e : i = items.length := by omega
      subst e
      rw [List.drop_length] at hgo
      refine .inl ⟨hJ.stop g'.b g'.ex, ?_⟩
      refine k (.n (.l acc)) _ B' H' (g1.trans g') ⟨fun a => a = Dl, fun a ea => ?_, (by intro z; cases z), Dl, ws, rfl, rfl, hw, hq⟩ hgo
      subst ea
      exact ⟨g1.h.back hD, hb, by rw [hw]; intro z; cases z⟩

/-! ### calls of defs -/
abbrev FD := List D → (Z → Prop) → Prop
def spV (K : PySem.W.Frag) (f : FD) : Sp := fun vs H Q E => ∃ (B : Hp) (G : Addr → Prop) (ds : List D), Ok B H G ∧ DqAll K B vs ds ∧ f ds fun z => ∀ v B' H', Gr B H B' H' → ZIs K B' H' G H z v → Q v H'
def dCallF (f : FD) (dds : List D) (dc : dC) : dE := fun ρ Q => dc ρ fun ds => f (ds ++ dds) Q
/-- f is a monotone promise -/
def Mon (f : FD) : Prop := ∀ ds (Q Q' : Z → Prop), (∀ z, Q z → Q' z) → f ds Q → f ds Q'
theorem sim_call {K : PySem.W.Frag} {f : FD} {dds : List D} {dvs : List V} {E : XK} {ta : TA} {dc : dC} (hm : Mon f) (hd : ∀ B, DqAll K B dvs dds) (h : SimC K ta dc) : SimE K (tCall (spV K f) dvs E ta) (dCallF f dds dc) := by
  refine ⟨fun {B H G σ ρ Qd Q} p q k => ?_⟩
  refine h.run p q fun ds vs B1 H1 g1 z1 h1 => ?_
  refine ⟨B1, G, ds ++ dds, p.ok.gr g1, dps_app z1 (hd B1), hm _ _ _ (fun z hz => fun v B' H' g' z' => ?_) h1⟩
  exact k z v B' H' (g1.trans g') (z'.early g1.h) hz
def Z.fin : Z → Z
  | .v d => .v d
  | .b s => .n s
  | .n s => .n s
def args (n : Nat) (ds : List D) : List S := ds.map S.v ++ List.replicate (n - ds.length) .no
section
variable {P : Program} {w : World} {K : PySem.W.Frag} {mg : Str → Option Value} {base : Heap}
theorem rep_start {B H : Hp} {N : List Str} {vs : List V} {ds : List D} (ex : Ex B H) (h : DqAll K B vs ds) : Rep K B H (fun _ => False) (L2.start N vs) (args N.length ds) := by
  have hl := dps_len h
  refine ⟨⟨ex, fun _ z => z.elim, fun _ z => z.elim⟩, ?_, fun _ _ => False, fun _ _ z => z, fun _ _ _ z => z.elim, fun i s e ns => ?_⟩
  · unfold L2.start args
    rw [List.length_append, List.length_append, List.length_map, List.length_map, List.length_replicate, List.length_replicate, hl]
  · unfold args at e
    unfold L2.start
    by_cases hi : i < ds.length
    · rw [List.getElem?_append_left (by rw [List.length_map]; exact hi), List.getElem?_map] at e
      cases ei : ds[i]? with
      | none => rw [ei] at e; cases e
      | some d =>
        rw [ei] at e
        cases e
        obtain ⟨v, ev, dv⟩ := dps_get h ei
        refine ⟨v, ?_, dv⟩
        rw [List.getElem?_append_left (by rw [List.length_map, hl]; exact hi), List.getElem?_map, ev]
        rfl
    · rw [List.getElem?_append_right (by rw [List.length_map]; omega)] at e
      rw [List.getElem?_replicate] at e
      split at e
      · cases e; exact absurd rfl ns
      · cases e
/-- a def by its body's reading -/
theorem fn_data {x qual : Str} {st : Stmt} {f : Addr} {fd : FuncData} {N ps : List Str} {k : Nat} {F : FD} {ds : dS} (Fn : Fun K x qual st f fd) (Sc : FnScope N ps (defScope st))
    (hb : ∀ (cdv : Value) (A : Around) (outer : List Env) (s : Shared) (H : Hp) (E : XK), Room k (A.deeper (PyProof.Rows.envOfC qual (defScope st) s.heap.objs.size f cdv)) → ∃ ts, CSs (cxOf CX0 P w K mg base N qual (defScope st) f cdv A outer s H E).nox (defBody st) ts ds)
    (len : ∀ as Q, F as Q → as.length = ps.length)
    (ok : ∀ as Q, F as Q → ds { nx := fun _ => Q (.v .none), rt := fun z => Q z.fin } (args N.length as)) : FnOk P w K mg base CX0 (k + 1) f fd ps (spV K F) := by
  refine Fn.ok Sc (fun vs H Q E h => ?_) (fun cdv A outer s H vs Q E hr h => ?_)
  · obtain ⟨B, G, as, _, hv, hf⟩ := h
    rw [dps_len hv]
    exact len _ _ hf
  · obtain ⟨B, G, as, o, hv, hf⟩ := h
    obtain ⟨ts, c⟩ := hb cdv A outer s H E hr
    refine ⟨ts, c.ps, c.sim.run (rep_start o.ex hv) (ok as _ hf) (fun B' H' G' σ' ρ' x p q => ?_) (fun B' H' G' z v x ex r q => ?_) (fun _ _ _ _ _ _ _ z => z.elim) (fun _ _ _ _ _ _ _ z => z.elim)⟩
    · exact q .non B' H' ⟨x.b, fun a o h => x.keep a o (fun z => z) h, p.ex, fun a h => (x.nw a h).elim .inl fun z => z.elim .inr fun z => z.elim⟩ .non
    · have gr : Gr B H B' H' := ⟨x.b, fun a o h => x.keep a o (fun z => z) h, ex, fun a h => (x.nw a h).elim .inl fun z => z.elim .inr fun z => z.elim⟩
      refine q v B' H' gr ?_
      cases z with
      | v d => exact r
      | b s => obtain ⟨R, r1, n, q1⟩ := r; exact ⟨R, fun a ra => ⟨(r1 a ra).1.elim (fun z => z) (fun z => z.elim), (r1 a ra).2⟩, n, q1⟩
      | n s => obtain ⟨R, r1, n, q1⟩ := r; exact ⟨R, fun a ra => ⟨(r1 a ra).1.elim (fun z => z) (fun z => z.elim), (r1 a ra).2⟩, n, q1⟩
end
end Dl

set_option maxHeartbeats 2000000
namespace Dl
open PySem L2
/-! ### more operations by data -/
def dLt (x y : Z) (Q : Z → Prop) : Prop := match x.data, y.data with
  | some (.int i), some (.int j) => Q (.v (.bool (decide (i < j))))
  | some (.str i), some (.str j) => Q (.v (.bool (decide (i.cps.toList < j.cps.toList))))
  | _, _ => False
def rLtA : R2 := fun x y H Q => (rI0 fun i j => .bl (decide (i < j))) x y H Q ∨ ∃ i j, x = .str i ∧ y = .str j ∧ Q (.bl (decide (i.cps.toList < j.cps.toList))) H
theorem op_ltA {X : Cx} : OpR X (compareOp .Lt) rLtA := OpR.or op_lt op_lt_str
abbrev dSub := dI fun i j => .int (i - j)
abbrev dMul := dIC CMul fun i j => .int (i * j)
abbrev dFdiv := dIC CDiv fun i j => .int (i / j)
abbrev dMod := dIC (fun _ j => 0 < j) fun i j => .int (i % j)
abbrev dPow := dIC CPow fun i j => .int (i ^ j.toNat)
abbrev dLe := dI fun i j => .bool (decide (i ≤ j))
abbrev dGt := dI fun i j => .bool (decide (j < i))
abbrev dGe := dI fun i j => .bool (decide (j ≤ i))
abbrev dAddI := dI fun i j => .int (i + j)
def dNeg (x : Z) (Q : Z → Prop) : Prop := match x.data with
  | some (.int i) => Q (.v (.int (-i)))
  | _ => False
def flatD : D → Bool
  | .list _ => false | .tuple _ => false | .dict _ => false | _ => true
def vOf : D → V
  | .none => .non | .bool b => .bl b | .int i => .int i | .str s => .str s | _ => .non
def dIn (neg : Bool) (x y : Z) (Q : Z → Prop) : Prop := match x.data, y.data with
  | some d, some (.list xs) => flatD d = true ∧ xs.all flatD = true ∧ Q (.v (.bool (if neg then !inV (vOf d) (xs.map vOf) else inV (vOf d) (xs.map vOf))))
  | some d, some (.tuple xs) => flatD d = true ∧ xs.all flatD = true ∧ Q (.v (.bool (if neg then !inV (vOf d) (xs.map vOf) else inV (vOf d) (xs.map vOf))))
  | _, _ => False
section
variable {K : PySem.W.Frag}
theorem simR_lt : SimR K rLtA dLt := by
  intro B H G H_0 x y v w Qd Q ok zx zy h k
  unfold dLt at h
  split at h
  · rename_i i j e1 e2
    exact .inl ⟨i, j, dp_int (zx.dp ok.ex e1), dp_int (zy.dp ok.ex e2), k (.v (.bool _)) _ B H (Gr.refl ok.ex) (.bl _) h⟩
  · rename_i i j e1 e2
    exact .inr ⟨i, j, dp_str (zx.dp ok.ex e1), dp_str (zy.dp ok.ex e2), k (.v (.bool _)) _ B H (Gr.refl ok.ex) (.bl _) h⟩
  · exact h.elim
theorem simU_neg : SimU K (rU fun i => .int (-i)) dNeg := by
  intro B H G H_0 x v Qd Q ok zx h k
  unfold dNeg at h
  split at h
  · rename_i i e
    exact ⟨i, dp_int (zx.dp ok.ex e), k (.v (.int _)) _ B H (Gr.refl ok.ex) (.int _) h⟩
  · exact h.elim
theorem flat_of {H : Hp} {v : V} {d : D} (h : Dq K H v d) (f : flatD d = true) : v = vOf d ∧ flatV v = true := by
  cases h with
  | non => exact ⟨rfl, rfl⟩
  | bl b => exact ⟨rfl, rfl⟩
  | int i => exact ⟨rfl, rfl⟩
  | str x => exact ⟨rfl, rfl⟩
  | lst _ _ => cases f
  | tup _ _ => cases f
  | scr _ _ => cases f
theorem flats_of {H : Hp} : ∀ {vs : List V} {ds : List D}, DqAll K H vs ds → ds.all flatD = true → vs = ds.map vOf ∧ vs.all flatV = true
  | _, _, .nil, _ => ⟨rfl, rfl⟩
  | _, _, .cons (d := d) (ds := ds) a t, f => by
    rw [List.all_cons, Bool.and_eq_true] at f
    obtain ⟨e1, f1⟩ := flat_of a f.1
    obtain ⟨e2, f2⟩ := flats_of t f.2
    refine ⟨?_, ?_⟩
    · rw [List.map_cons, ← e1, ← e2]
    · rw [List.all_cons, f1, f2]; rfl
theorem simR_in {neg : Bool} : SimR K (rIn K neg) (dIn neg) := by
  intro B H G H_0 x y v w Qd Q ok zx zy h k
  unfold dIn at h
  split at h
  · rename_i d xs e1 e2
    obtain ⟨a, vs, rfl, r, q⟩ := zy.items ok (items_of e2)
    obtain ⟨ev, fv⟩ := flat_of (zx.dp ok.ex e1) h.1
    obtain ⟨es, fs⟩ := flats_of q h.2.1
    refine ⟨a, vs, rfl, .inl r, fv, fs, ?_⟩
    rw [ev, es]
    exact k (.v (.bool _)) _ B H (Gr.refl ok.ex) (.bl _) h.2.2
  · rename_i d xs e1 e2
    obtain ⟨a, vs, rfl, r, _, q⟩ := zy.mems ok (mems_of e2)
    obtain ⟨ev, fv⟩ := flat_of (zx.dp ok.ex e1) h.1
    obtain ⟨es, fs⟩ := flats_of q h.2.1
    refine ⟨a, vs, rfl, .inr r, fv, fs, ?_⟩
    rw [ev, es]
    exact k (.v (.bool _)) _ B H (Gr.refl ok.ex) (.bl _) h.2.2
  · exact h.elim
end

abbrev rSubI : R2 := rI0 fun i j => .int (i - j)
abbrev rMulI : R2 := rI CMul fun i j => .int (i * j)
abbrev rFdivI : R2 := rI CDiv fun i j => .int (i / j)
abbrev rModI : R2 := rI (fun _ j => 0 < j) fun i j => .int (i % j)
abbrev rPowI : R2 := rI CPow fun i j => .int (i ^ j.toNat)
abbrev rLeI : R2 := rI0 fun i j => .bl (decide (i ≤ j))
abbrev rGtI : R2 := rI0 fun i j => .bl (decide (j < i))
abbrev rGeI : R2 := rI0 fun i j => .bl (decide (j ≤ i))
abbrev rNegI : V → Hp → VK → Prop := rU fun i => .int (-i)
/-! ### rules: syntax, reading by V, reading by data -/
section
variable {X : Cx} {a b c e : Expr} {es : List Expr} {ta tb tc te : TE} {da db dc de : dE} {pos : Pos}
theorem ce_var (i : Nat) {x : Str} {pos : Pos} (hN : X.N[i]? = some x := by rfl) (hv : Vis X.env.scope x := by first | exact Or.inl rfl | exact Or.inr (Or.inl rfl) | exact Or.inr (Or.inr rfl)) (hd : (x == ("__debug__" : Str)) = false := by decide)
    (hcd : (x == ("__classdict__" : Str)) = false := by decide) : CE X (.Name x pos) (tVar i) (dVar i) := ⟨pe_var hN hv hd hcd, sim_var⟩
theorem ce_int {i : Int} {j pos} : CE X (.Constant (.int i) j pos) (tC (.int i)) (dK (.int i)) := ⟨pe_int, sim_c fun _ => .int i⟩
theorem ce_bl {b j pos} : CE X (.Constant (.bool b) j pos) (tC (.bl b)) (dK (.bool b)) := ⟨pe_bl, sim_c fun _ => .bl b⟩
theorem ce_non {j pos} : CE X (.Constant .none j pos) (tC .non) (dK .none) := ⟨pe_non, sim_c fun _ => .non⟩
theorem ce_str {x j pos} : CE X (.Constant (.str x) j pos) (tC (.str x)) (dK (.str x)) := ⟨pe_str, sim_c fun _ => .str x⟩
/-- a module's constant -/
theorem ce_glob {x : Str} {v : V} {d : D} {u : Value} (hg : Gl X x) (hm : X.mg x = some u) (r : RelV v u) (hd : ∀ H, Dq X.K H v d) (hdb : (x == ("__debug__" : Str)) = false := by decide) : CE X (.Name x pos) (tC v) (dK d) := ⟨pe_glob hg hm r hdb, sim_c hd⟩
theorem ce_op {op : Operator} {r : R2} {dr : Z → Z → (Z → Prop) → Prop} (ho : OpR X (binaryOp op) r) (hr : SimR X.K r dr) (ha : CE X a ta da) (hb : CE X b tb db) : CE X (.BinOp a op b pos) (tOp r ta tb) (dOp dr da db) := ⟨pe_op ho ha.pe hb.pe, sim_op hr ha.sim hb.sim⟩
theorem ce_add (ha : CE X a ta da) (hb : CE X b tb db) : CE X (.BinOp a .Add b pos) (tOp (rAny X.K) ta tb) (dOp dAdd da db) := ce_op op_any simR_add ha hb
theorem ce_sub (ha : CE X a ta da) (hb : CE X b tb db) : CE X (.BinOp a .Sub b pos) (tOp rSubI ta tb) (dOp dSub da db) := ce_op op_sub (simR_I0 fun _ _ _ => .int _) ha hb
theorem ce_mul (ha : CE X a ta da) (hb : CE X b tb db) : CE X (.BinOp a .Mult b pos) (tOp rMulI ta tb) (dOp dMul da db) := ce_op op_mul (simR_I fun _ _ _ => .int _) ha hb
theorem ce_fdiv (ha : CE X a ta da) (hb : CE X b tb db) : CE X (.BinOp a .FloorDiv b pos) (tOp rFdivI ta tb) (dOp dFdiv da db) := ce_op op_fdiv (simR_I fun _ _ _ => .int _) ha hb
theorem ce_mod (ha : CE X a ta da) (hb : CE X b tb db) : CE X (.BinOp a .Mod b pos) (tOp rModI ta tb) (dOp dMod da db) := ce_op op_mod (simR_I fun _ _ _ => .int _) ha hb
theorem ce_pow (ha : CE X a ta da) (hb : CE X b tb db) : CE X (.BinOp a .Pow b pos) (tOp rPowI ta tb) (dOp dPow da db) := ce_op op_pow (simR_I fun _ _ _ => .int _) ha hb
theorem ce_neg (ha : CE X a ta da) : CE X (.UnaryOp .USub a pos) (tUn rNegI ta) (dUn dNeg da) := ⟨pe_un un_neg ha.pe, sim_un simU_neg ha.sim⟩
theorem ce_cmp {op : CmpOp} {r : R2} {dr : Z → Z → (Z → Prop) → Prop} (ho : OpR X (compareOp op) r) (hr : SimR X.K r dr) (ha : CE X a ta da) (hb : CE X b tb db) (hm : behindInMarks op b = false) : CE X (.Compare a [op] [b] pos) (tOp r ta tb) (dOp dr da db) := ⟨pe_cmpR ho ha.pe hb.pe hm, sim_op hr ha.sim hb.sim⟩
theorem ct_cmp {op : CmpOp} {r : R2} {dr : Z → Z → (Z → Prop) → Prop} (ho : OpR X (compareOp op) r) (hr : SimR X.K r dr) (ha : CE X a ta da) (hb : CE X b tb db) (hm : behindInMarks op b = false) : CT X (.Compare a [op] [b] pos) (tTest (tOp r ta tb)) (dTst (dOp dr da db)) := ⟨pt_cmpR ho ha.pe hb.pe hm, sim_tst (sim_op hr ha.sim hb.sim)⟩
theorem ce_lt (ha : CE X a ta da) (hb : CE X b tb db) : CE X (.Compare a [.Lt] [b] pos) (tOp rLtA ta tb) (dOp dLt da db) := ce_cmp op_ltA simR_lt ha hb (nomark _)
theorem ce_le (ha : CE X a ta da) (hb : CE X b tb db) : CE X (.Compare a [.LtE] [b] pos) (tOp rLeI ta tb) (dOp dLe da db) := ce_cmp op_le (simR_I0 fun _ _ _ => .bl _) ha hb (nomark _)
theorem ce_gt (ha : CE X a ta da) (hb : CE X b tb db) : CE X (.Compare a [.Gt] [b] pos) (tOp rGtI ta tb) (dOp dGt da db) := ce_cmp op_gt (simR_I0 fun _ _ _ => .bl _) ha hb (nomark _)
theorem ce_ge (ha : CE X a ta da) (hb : CE X b tb db) : CE X (.Compare a [.GtE] [b] pos) (tOp rGeI ta tb) (dOp dGe da db) := ce_cmp op_ge (simR_I0 fun _ _ _ => .bl _) ha hb (nomark _)
theorem ce_eq (hu : X.A.units + 64 < cLine) (ha : CE X a ta da) (hb : CE X b tb db) : CE X (.Compare a [.Eq] [b] pos) (tOp (rEqA X.K) ta tb) (dOp dEq da db) := ce_cmp (op_eqA hu) simR_eq ha hb (nomark _)
theorem ce_ne (hu : X.A.units + 64 < cLine) (ha : CE X a ta da) (hb : CE X b tb db) : CE X (.Compare a [.NotEq] [b] pos) (tOp (rNeA X.K) ta tb) (dOp dNe da db) := ce_cmp (op_neA hu) simR_ne ha hb (nomark _)
theorem ce_is (ha : CE X a ta da) (hb : CE X b tb db) : CE X (.Compare a [.Is] [b] pos) (tOp rIsA ta tb) (dOp (dIs false) da db) := ce_cmp op_isA simR_is ha hb (nomark _)
theorem ce_isnot (ha : CE X a ta da) (hb : CE X b tb db) : CE X (.Compare a [.IsNot] [b] pos) (tOp rIsA' ta tb) (dOp (dIs true) da db) := ce_cmp op_isA' simR_isnot ha hb (nomark _)
theorem ce_in (ha : CE X a ta da) (hb : CE X b tb db) (hm : behindInMarks .In b = false := by rfl) : CE X (.Compare a [.In] [b] pos) (tOp (rIn X.K false) ta tb) (dOp (dIn false) da db) := ce_cmp op_in_seq simR_in ha hb hm
theorem ce_notin (ha : CE X a ta da) (hb : CE X b tb db) (hm : behindInMarks .NotIn b = false := by rfl) : CE X (.Compare a [.NotIn] [b] pos) (tOp (rIn X.K true) ta tb) (dOp (dIn true) da db) := ce_cmp op_notIn_seq simR_in ha hb hm
theorem ct_lt (ha : CE X a ta da) (hb : CE X b tb db) : CT X (.Compare a [.Lt] [b] pos) (tTest (tOp rLtA ta tb)) (dTst (dOp dLt da db)) := ct_cmp op_ltA simR_lt ha hb (nomark _)
theorem ct_le (ha : CE X a ta da) (hb : CE X b tb db) : CT X (.Compare a [.LtE] [b] pos) (tTest (tOp rLeI ta tb)) (dTst (dOp dLe da db)) := ct_cmp op_le (simR_I0 fun _ _ _ => .bl _) ha hb (nomark _)
theorem ct_gt (ha : CE X a ta da) (hb : CE X b tb db) : CT X (.Compare a [.Gt] [b] pos) (tTest (tOp rGtI ta tb)) (dTst (dOp dGt da db)) := ct_cmp op_gt (simR_I0 fun _ _ _ => .bl _) ha hb (nomark _)
theorem ct_ge (ha : CE X a ta da) (hb : CE X b tb db) : CT X (.Compare a [.GtE] [b] pos) (tTest (tOp rGeI ta tb)) (dTst (dOp dGe da db)) := ct_cmp op_ge (simR_I0 fun _ _ _ => .bl _) ha hb (nomark _)
theorem ct_eq (hu : X.A.units + 64 < cLine) (ha : CE X a ta da) (hb : CE X b tb db) : CT X (.Compare a [.Eq] [b] pos) (tTest (tOp (rEqA X.K) ta tb)) (dTst (dOp dEq da db)) := ct_cmp (op_eqA hu) simR_eq ha hb (nomark _)
theorem ct_ne (hu : X.A.units + 64 < cLine) (ha : CE X a ta da) (hb : CE X b tb db) : CT X (.Compare a [.NotEq] [b] pos) (tTest (tOp (rNeA X.K) ta tb)) (dTst (dOp dNe da db)) := ct_cmp (op_neA hu) simR_ne ha hb (nomark _)
theorem ct_is (ha : CE X a ta da) (hb : CE X b tb db) : CT X (.Compare a [.Is] [b] pos) (tTest (tOp rIsA ta tb)) (dTst (dOp (dIs false) da db)) := ct_cmp op_isA simR_is ha hb (nomark _)
theorem ct_isnot (ha : CE X a ta da) (hb : CE X b tb db) : CT X (.Compare a [.IsNot] [b] pos) (tTest (tOp rIsA' ta tb)) (dTst (dOp (dIs true) da db)) := ct_cmp op_isA' simR_isnot ha hb (nomark _)
theorem ct_in (ha : CE X a ta da) (hb : CE X b tb db) (hm : behindInMarks .In b = false := by rfl) : CT X (.Compare a [.In] [b] pos) (tTest (tOp (rIn X.K false) ta tb)) (dTst (dOp (dIn false) da db)) := ct_cmp op_in_seq simR_in ha hb hm
theorem ct_notin (ha : CE X a ta da) (hb : CE X b tb db) (hm : behindInMarks .NotIn b = false := by rfl) : CT X (.Compare a [.NotIn] [b] pos) (tTest (tOp (rIn X.K true) ta tb)) (dTst (dOp (dIn true) da db)) := ct_cmp op_notIn_seq simR_in ha hb hm
theorem ct_tru {te : TE} {de : dE} (h : CE X e te de) (he : ∀ whole, isTrue e X.env whole = (do let v ← whole; standAt e.pos; holding [v] (truthy v)) := by intro _; rfl) : CT X e (fun σ H Q => te σ H fun x H' => ∃ k, TruV X.K x H' k ∧ Q k H') (dTru de) := ⟨pt_truth h.pe he, sim_tru h.sim⟩
theorem ct_not {t : TT} {d : dT} (h : CT X a t d) : CT X (.UnaryOp .Not a pos) (tNot t) (dNotT d) := ⟨pt_not h.pt, sim_notT h.sim⟩
theorem ct_of_w {t : TT} {d : dT} (h : CW X e t d) : CT X e t d := ⟨h.pw.pt, h.sim⟩
theorem cw_and1 {t : TT} {d : dT} (h : CT X a t d) : CW X (.BoolOp .And [a] pos) t d := ⟨pw_and1 h.pt, h.sim⟩
theorem cw_or1 {t : TT} {d : dT} (h : CT X a t d) : CW X (.BoolOp .Or [a] pos) t d := ⟨pw_or1 h.pt, h.sim⟩
theorem cw_and {t u : TT} {d d' : dT} {rest : List Expr} (h : CT X a t d) (h' : CW X (.BoolOp .And (b :: rest) pos) u d') : CW X (.BoolOp .And (a :: b :: rest) pos) (tAnd t u) (dAndT d d') := ⟨pw_and h.pt h'.pw, sim_andT h.sim h'.sim⟩
theorem cw_or {t u : TT} {d d' : dT} {rest : List Expr} (h : CT X a t d) (h' : CW X (.BoolOp .Or (b :: rest) pos) u d') : CW X (.BoolOp .Or (a :: b :: rest) pos) (tOr t u) (dOrT d d') := ⟨pw_or h.pt h'.pw, sim_orT h.sim h'.sim⟩
theorem ce_one {op} (h : CE X a ta da) : CE X (.BoolOp op [a] pos) ta da := ⟨pe_one h.pe, h.sim⟩
theorem ce_and {rest : List Expr} (ha : CE X a ta da) (hb : CE X (.BoolOp .And (b :: rest) pos) tb db) : CE X (.BoolOp .And (a :: b :: rest) pos) (tAndV ta tb) (dAndE da db) := ⟨pe_and ha.pe hb.pe, sim_andE ha.sim hb.sim⟩
theorem ce_or {rest : List Expr} (ha : CE X a ta da) (hb : CE X (.BoolOp .Or (b :: rest) pos) tb db) : CE X (.BoolOp .Or (a :: b :: rest) pos) (tOrV ta tb) (dOrE da db) := ⟨pe_or ha.pe hb.pe, sim_orE ha.sim hb.sim⟩
theorem ce_not (ha : CE X a ta da) : CE X (.UnaryOp .Not a pos) (tNotV ta) (dNotE da) := ⟨pe_not ha.pe, sim_notE ha.sim⟩
theorem ce_if {t : TT} {d : dT} (hc : CT X c t d) (ha : CE X a ta da) (hb : CE X b tb db) : CE X (.IfExp c a b pos) (tIf t ta tb) (dIfE d da db) := ⟨pe_ifExp hc.pt ha.pe hb.pe, sim_ifE hc.sim ha.sim hb.sim⟩
theorem ce_ix (ha : CE X a ta da) (hb : CE X b tb db) (hs : PlainIx b := by exact fun _ _ => rfl) : CE X (.Subscript a b pos) (tOp (rIx X.K) ta tb) (dOp dIx da db) := ⟨pe_ix ix_seq ha.pe hb.pe hs, sim_op simR_ix ha.sim hb.sim⟩
theorem ce_slice {lo hi : Option Expr} {tl th : TO} {dl dh : dO} {p2 : Pos} (ha : CE X a ta da) (hl : CO X lo tl dl) (hh : CO X hi th dh) : CE X (.Subscript a (.Slice lo hi none p2) pos) (tSl (rSl X.K) ta tl th) (dSl da dl dh) := ⟨pe_slice sl_any ha.pe hl.po hh.po, sim_sl ha.sim hl.sim hh.sim⟩
theorem ca_nil : CA X [] tNil dNil := ⟨pa_nil, sim_nil⟩
theorem ca_cons {t : TA} {d : dA} (ha : CE X e te de) (hr : CA X es t d) (hs : starEach (e :: es) X.env = (false, eval e X.env) :: starEach es X.env := by rfl) : CA X (e :: es) (tCons te t) (dCons de d) := ⟨pa_cons ha.pe hr.pa hs, sim_cons ha.sim hr.sim⟩
theorem cc_nil : CC X [] tNil dCnil := ⟨pa_nil, sim_cnil⟩
theorem cc_cons {t : TA} {d : dC} (ha : CE X e te de) (hr : CC X es t d) (hs : starEach (e :: es) X.env = (false, eval e X.env) :: starEach es X.env := by rfl) : CC X (e :: es) (tCons te t) (dCcons de d) := ⟨pa_cons ha.pe hr.pa hs, sim_ccons ha.sim hr.sim⟩
theorem ce_tup {t : TA} {d : dC} {x1} (h : CC X es t d) : CE X (.Tuple es x1 pos) (tTup t) (dTupD d) := ⟨pe_tup h.pa, sim_tup h.sim⟩
theorem ce_lst {t : TA} {d : dC} (h : CC X es t d) : CE X (.List es pos) (tLst t) (dLstD d) := ⟨pe_lst h.pa, sim_lst h.sim⟩
/-- built-in functions and classes by name -/
theorem ce_cb {x : Str} {id : String} {r : List V → Hp → VK → Prop} {dr : List Z → (Z → Prop) → Prop} {t : TA} {d : dA} {p : Pos} (hc : CallR X (.builtin id) r) (hr : SimL X.K r dr) (hv : bootBuiltins x = some (.builtin id)) (hm : X.mg x = none) (ha : CA X (e :: es) t d)
    (hg : Gl X x := by rfl) (hn : x ≠ "__name__" := by decide) (hdb : (x == ("__debug__" : Str)) = false := by decide)
    (he : starEach (e :: es) X.env = (false, eval e X.env) :: starEach es X.env := by rfl) (hpl : (backTo pos (starEach es X.env)).any (·.1) = false := by rfl) : CE X (.Call (.Name x p) (e :: es) [] pos) (tCB r t) (dCall dr d) :=
  ⟨pe_callB hc hg hm hv ha.pa hn hdb he hpl, sim_cb hr ha.sim⟩
theorem ce_ct {x : Str} {T : String} {r : List V → Hp → VK → Prop} {dr : List Z → (Z → Prop) → Prop} {t : TA} {d : dA} {p : Pos} (hc : CallR X (.type T) r) (hr : SimL X.K r dr) (hv : bootBuiltins x = some (.type T)) (hm : X.mg x = none) (ha : CA X (e :: es) t d)
    (hg : Gl X x := by rfl) (hn : x ≠ "__name__" := by decide) (hdb : (x == ("__debug__" : Str)) = false := by decide)
    (he : starEach (e :: es) X.env = (false, eval e X.env) :: starEach es X.env := by rfl) (hpl : (backTo pos (starEach es X.env)).any (·.1) = false := by rfl) : CE X (.Call (.Name x p) (e :: es) [] pos) (tCB r t) (dCall dr d) :=
  ⟨pe_callTy hc hg hm hv ha.pa hn hdb he hpl, sim_cb hr ha.sim⟩
theorem bt_len : bootBuiltins "len" = some (.builtin "len") := by decide +kernel
theorem bt_abs : bootBuiltins "abs" = some (.builtin "abs") := by decide +kernel
theorem bt_max : bootBuiltins "max" = some (.builtin "max") := by decide +kernel
theorem bt_min : bootBuiltins "min" = some (.builtin "min") := by decide +kernel
theorem bt_isi : bootBuiltins "isinstance" = some (.builtin "isinstance") := by decide +kernel
theorem bt_int : bootBuiltins "int" = some (.type "int") := by decide +kernel
theorem bt_str : bootBuiltins "str" = some (.type "str") := by decide +kernel
theorem bt_bool : bootBuiltins "bool" = some (.type "bool") := by decide +kernel
theorem bt_list : bootBuiltins "list" = some (.type "list") := by decide +kernel
theorem bt_tuple : bootBuiltins "tuple" = some (.type "tuple") := by decide +kernel
theorem bt_dict : bootBuiltins "dict" = some (.type "dict") := by decide +kernel
theorem ce_isi {y : Str} {ty : String} {p p2 : Pos} (hi : X.mg "isinstance" = none) (hv : bootBuiltins y = some (.type ty)) (hm : X.mg y = none) (ha : CE X e te de) (hg : Gl X "isinstance" := by rfl) (hg2 : Gl X y := by rfl) (hn : y ≠ "__name__" := by decide) (hdb : (y == ("__debug__" : Str)) = false := by decide)
    (h1 : starEach [e, Expr.Name y p2] X.env = (false, eval e X.env) :: starEach [Expr.Name y p2] X.env := by rfl) (h2 : starEach [Expr.Name y p2] X.env = (false, eval (Expr.Name y p2) X.env) :: starEach [] X.env := by rfl) (hpl : (backTo pos (starEach [Expr.Name y p2] X.env)).any (·.1) = false := by rfl) :
    CE X (.Call (.Name "isinstance" p) [e, .Name y p2] [] pos) (tCB (rIsi X.K) (tCons te (tCons (tC (.ty ty)) tNil))) (dIsi ty de) :=
  ⟨pe_callB call_isi hg hi bt_isi (pa_cons ha.pe (pa_cons (pe_bltn hg2 hm hv rfl hn hdb) pa_nil h2) h1) (by decide) (by decide) h1 hpl, sim_isi ha.sim⟩
/-- a def of the text -/
theorem ce_def {k : Nat} {f : Addr} {fd : FuncData} {ps : List Str} {F : FD} {dvs : List V} {dds : List D} {ds : List Value} {x : Str} {p : Pos} {t : TA} {d : dC} (hm' : Mon F) (G : FnOk X.prog X.w X.K X.mg X.base CX0 k f fd ps (spV X.K F)) (hr : Room k X.A) (hm : X.mg x = some (.ref f)) (hk : PySem.W.keepIn X.K (.ref f) = true) (hb : Binds X.K fd ps ds) (hd : Vals dvs ds)
    (hdd : ∀ B, DqAll X.K B dvs dds) (ha : CC X (e :: es) t d) (hg : Gl X x := by rfl) (hdb : (x == ("__debug__" : Str)) = false := by decide) (he : starEach (e :: es) X.env = (false, eval e X.env) :: starEach es X.env := by rfl) (hpl : (backTo pos (starEach es X.env)).any (·.1) = false := by rfl) :
    CE X (.Call (.Name x p) (e :: es) [] pos) (tCall (spV X.K F) dvs E0 t) (dCallF F dds d) := ⟨pe_call G hr hg hm hk hb hd pass0 ha.pa hdb he hpl, sim_call hm' hdd ha.sim⟩
/-! comprehensions -/
theorem ce_lc {elt tg iter : Expr} {ifs : List Expr} {scope : Scope} {own : List (Str × Nat)} {wi : TI} {di : dI_} {js : List Nat} {g : TG} {dg : dG} {tt : TT} {dt : dT} {te : TE} {de : dE} (hc : X.calm = true) (hN : X.N.Nodup) (hi : CI X tg iter wi di) (ok : BlkOk X.N X.env.scope scope own)
    (hg : ∀ (s : Shared) (H : Hp) (C : Addr) (cl : List (Str × Addr)) (fp : List Addr), CG (X.blk s H scope (compEnvC scope cl C X.env) fp) tg js g dg) (ht : ∀ (s : Shared) (H : Hp) (C : Addr) (cl : List (Str × Addr)) (fp : List Addr), PTs (X.blk s H scope (compEnvC scope cl C X.env) fp) ifs tt ∧ SimT X.K tt dt)
    (he : ∀ (s : Shared) (H : Hp) (C : Addr) (cl : List (Str × Addr)) (fp : List Addr), CE (X.blk s H scope (compEnvC scope cl C X.env) fp) elt te de) (hj : ∀ j ∈ js, j ∈ own.map (·.2) := by decide) (hs : ∀ x, foldedSetIterable iter X.env x = pure x := by intro _; rfl) :
    CE X (.ListComp elt [⟨tg, iter, ifs, 0⟩] scope pos) (tLc wi g tt te (own.map (·.2))) (dLc di dg dt de (own.map (·.2))) :=
  ⟨pe_lc hc hN hi.pi ok (fun s H C cl fp => (hg s H C cl fp).pg) (fun s H C cl fp => (ht s H C cl fp).1) (fun s H C cl fp => (he s H C cl fp).pe) hs,
    sim_lc hi.sim (hg X.s_0 X.H_0 0 [] []).sim (ht X.s_0 X.H_0 0 [] []).2 (he X.s_0 X.H_0 0 [] []).sim hj⟩
end
/-! ### statements -/
section
variable {X : Cx} {st : Stmt} {rest : List Stmt} {t u : TS} {d d' : dS} {a b e : Expr} {te ta tb : TE} {de da db : dE} {pos : Pos}
theorem css_nil : CSs X [] tNext dNext := ⟨pss_nil, sim_next⟩
theorem css_cons (h1 : CS X st t d) (h2 : CSs X rest u d') : CSs X (st :: rest) (tSeq t u) (dSeq d d') := ⟨pss_cons h1.ps h2.ps, sim_seq h1.sim h2.sim⟩
theorem css_one (h1 : CS X st t d) : CSs X [st] t d := ⟨pss_one h1.ps, h1.sim⟩
theorem css_frz (i : Nat) {sts : List Stmt} (h : CSs X sts t d) : CSs X sts t (dFrz i d) := ⟨h.ps, sim_frz h.sim⟩
theorem css_never {sts : List Stmt} : CSs X sts tNever dNever := ⟨pss_never, sim_never⟩
theorem cs_never : CS X st tNever dNever := ⟨ps_never, sim_never⟩
theorem cs_pass : CS X (.Pass pos) tNext dNext := ⟨ps_pass, sim_next⟩
theorem cs_break : CS X (.Break pos) tBreak dBreak := ⟨ps_break, sim_brk⟩
theorem cs_continue : CS X (.Continue pos) tCont dCont := ⟨ps_continue, sim_cont⟩
theorem cs_expr (h : CE X e te de) (hs : swapsWith e none pos.line X.env = pure false := by rfl) : CS X (.Expr e pos) (tDrop te) (dDrop de) := ⟨ps_expr h.pe hs, sim_drop h.sim⟩
theorem cs_ret (h : CE X e te de) : CS X (.Return (some e) pos) (tRet te) (dRet de) := ⟨ps_ret h.pe, sim_ret h.sim⟩
theorem cs_retN : CS X (.Return none pos) tRetN dRetN := ⟨ps_retN, sim_retN⟩
theorem cs_if {c : Expr} {x y : List Stmt} {tc : TT} {dc : dT} (h : CT X c tc dc) (h1 : CSs X x t d) (h2 : CSs X y u d') : CS X (.If c x y pos) (tIfS tc t u) (dIf dc d d') := ⟨ps_if h.pt h1.ps h2.ps, sim_if h.sim h1.sim h2.sim⟩
theorem cs_set (i : Nat) {x : Str} {pos' : Pos} (hN : X.N.Nodup) (h : CE X e te de) (hi : X.N[i]? = some x := by rfl) (hx : Loc X.env.scope x := by first | exact .inl rfl | exact .inr rfl) (hs : swapsWith e (some (.Name x pos')) pos.line X.env = pure false := by rfl)
    (hf : X.fn x = true ∨ X.env.scope.names.lookup x = some .local := by first | exact .inl rfl | exact .inr rfl) : CS X (.Assign [.Name x pos'] e pos) (tAsg te (gName i)) (dSet i de) := ⟨ps_set hN hi hx h.pe hs hf, sim_set h.sim⟩
theorem cs_unp {tg : Expr} {js : List Nat} {g : TG} {dg : dG} (h : CE X e te de) (hg : CG X tg js g dg) (hs : swapsWithSole [tg] e pos.line X.env = pure false := by rfl) (hw : swappedStores [tg] e X.env = pure none := by rfl)
    (h1 : (assignEach [tg] X.env).map (·.2) = [assign tg X.env] := by rfl) : CS X (.Assign [tg] e pos) (tAsg te g) (dUnp de dg) := ⟨ps_asg h.pe hg.pg hs hw h1, sim_unp h.sim hg.sim⟩
theorem cs_aug (i : Nat) {x : Str} {op : Operator} {ti : TIp} {dr : Z → Z → (Z → Prop) → Prop} {pos' : Pos} (hN : X.N.Nodup) (ho : PIp X op ti) (hr : SimR X.K ti dr) (h : CE X e te de) (hi : X.N[i]? = some x := by rfl) (hx : Loc X.env.scope x := by first | exact .inl rfl | exact .inr rfl)
    (hf : X.fn x = true ∨ X.env.scope.names.lookup x = some .local := by first | exact .inl rfl | exact .inr rfl) : CS X (.AugAssign (.Name x pos') op e pos) (tAug i te ti) (dAug i dr de) := ⟨ps_aug hN hi hx h.pe ho hf, sim_aug hr h.sim⟩
theorem cs_augI (i : Nat) {x : Str} {pos' : Pos} (hN : X.N.Nodup) (h : CE X e te de) (hi : X.N[i]? = some x := by rfl) (hx : Loc X.env.scope x := by first | exact .inl rfl | exact .inr rfl)
    (hf : X.fn x = true ∨ X.env.scope.names.lookup x = some .local := by first | exact .inl rfl | exact .inr rfl) : CS X (.AugAssign (.Name x pos') .Add e pos) (tAug i te (ipI fun i j => i + j)) (dAug i dAddI de) :=
  cs_aug i hN ip_add (simR_I0 (g := fun i j => .int (i + j)) fun _ _ _ => .int _) h hi hx hf
theorem cs_app (i : Nat) {x : Str} {px apos cpos : Pos} (h : CE X e te de) (hN : X.N[i]? = some x := by rfl) (hv : Vis X.env.scope x := by first | exact Or.inl rfl | exact Or.inr (Or.inl rfl) | exact Or.inr (Or.inr rfl)) (hd : (x == ("__debug__" : Str)) = false := by decide) (hcd : (x == ("__classdict__" : Str)) = false := by decide)
    (hbase : attributeBase (.Name x px) "append" X.env (eval (.Name x px) X.env) = eval (.Name x px) X.env := by rfl)
    (hfew : ((backTo cpos (starEach [e] X.env)).all (fun x => !x.1) && (backToKw cpos (keywordEach [] X.env)).all (fun x => x.1.isSome)
      && decide ([e].length + ([] : List Keyword).length + (if ([] : List Keyword).isEmpty then 0 else 1) < 30)) = true := by rfl)
    (hline : (apos.endLine == cpos.line) = true := by rfl) (hs : starEach [e] X.env = (false, eval e X.env) :: starEach [] X.env := by rfl) (hplain : (backTo cpos (starEach [] X.env)).any (·.1) = false := by rfl)
    (hsw : swapsWith (.Call (.Attribute (.Name x px) "append" apos) [e] [] cpos) none pos.line X.env = pure false := by rfl) :
    CS X (.Expr (.Call (.Attribute (.Name x px) "append" apos) [e] [] cpos) pos) (tDrop (tBM X.K "list" rAppend (tVar i) (tCons te tNil))) (dApp i de) :=
  ⟨ps_expr (pe_bm PySem.F.plainAttrs_list PySem.F.slot_list_append PySem.F.type_list_append mt_append (pe_var hN hv hd hcd) (pa_cons h.pe pa_nil hs) hbase hfew hline hs hplain) hsw, sim_app h.sim⟩
theorem ci_seq {tg iter : Expr} (h : CE X iter te de) : CI X tg iter (iSeq X.K te) (dItems de) := ⟨pi_seq h.pe, sim_seqI h.sim⟩
theorem ci_rng1 {tg : Expr} {ta : TA} {da : dA} {p : Pos} (hm : X.mg "range" = none) (h : CA X [a] ta da) (hg : Gl X "range" := by rfl) (hs : starEach [a] X.env = [(false, eval a X.env)] := by rfl) : CI X tg (.Call (.Name "range" p) [a] [] pos) (iRng1 ta) (dRng1 da) := ⟨pi_range1 hg hm h.pa hs, sim_rng1 h.sim⟩
theorem ci_rng2 {tg : Expr} {ta : TA} {da : dA} {p : Pos} (hm : X.mg "range" = none) (h : CA X [a, b] ta da) (hg : Gl X "range" := by rfl) (hs : starEach [a, b] X.env = [(false, eval a X.env), (false, eval b X.env)] := by rfl) (hs2 : starEach [b] X.env = [(false, eval b X.env)] := by rfl) :
    CI X tg (.Call (.Name "range" p) [a, b] [] pos) (iRng2 ta) (dRng2 da) := ⟨pi_range2 hg hm h.pa hs hs2, sim_rng2 h.sim⟩
theorem cs_for {tg iter : Expr} {body : List Stmt} {wi : TI} {di : dI_} {js : List Nat} {g : TG} {dg : dG} (hp : PassesOwn (model X.prog X.w) X.A X.env X.xe) (hc : X.calm = true) (hi : CI X tg iter wi di) (hg : CG X tg js g dg) (hb : CSs X body t d)
    (hs : ∀ x, foldedSetIterable iter X.env x = pure x := by intro _; rfl) : CS X (.For tg iter body [] pos) (tFor wi g t) (dFor di dg d) := ⟨ps_for hp hc hi.pi hg.pg hb.ps hs, sim_for hi.sim hg.sim hb.sim⟩
theorem cs_while {c : Expr} {body : List Stmt} {tc : TT} {dc : dT} (hp : PassesOwn (model X.prog X.w) X.A X.env X.xe) (hc : CT X c tc dc) (hb : CSs X body t d) : CS X (.While c body [] pos) (tWhile tc t) (dWhile dc d) := ⟨ps_while hp hc.pt hb.ps, sim_while hc.sim hb.sim⟩
end
end Dl
namespace Dl
open PySem L2
/-! ### more rules -/
section
variable {X : Cx} {pos : Pos}
/-- name = [..] -/
theorem cs_setLc (i : Nat) {y : Str} {py spos : Pos} {elt tg iter : Expr} {ifs : List Expr} {scope : Scope} {own : List (Str × Nat)} {wi : TI} {di : dI_} {js : List Nat} {g : TG} {dg : dG} {tt : TT} {dt : dT} {te : TE} {de : dE} (hc : X.calm = true) (hN : X.N.Nodup) (hi : CI X tg iter wi di) (ok : BlkOk X.N X.env.scope scope own)
    (hg : ∀ (s : Shared) (H : Hp) (C : Addr) (cl : List (Str × Addr)) (fp : List Addr), CG (X.blk s H scope (compEnvC scope cl C X.env) fp) tg js g dg) (ht : ∀ (s : Shared) (H : Hp) (C : Addr) (cl : List (Str × Addr)) (fp : List Addr), PTs (X.blk s H scope (compEnvC scope cl C X.env) fp) ifs tt ∧ SimT X.K tt dt)
    (he : ∀ (s : Shared) (H : Hp) (C : Addr) (cl : List (Str × Addr)) (fp : List Addr), CE (X.blk s H scope (compEnvC scope cl C X.env) fp) elt te de) (hsw : swapsWith (.ListComp elt [⟨tg, iter, ifs, 0⟩] scope pos) (some (.Name y py)) spos.line X.env = pure true)
    (hy : X.N[i]? = some y := by rfl) (hyl : X.env.scope.names.lookup y = some .local := by rfl) (hj : ∀ j ∈ js, j ∈ own.map (·.2) := by decide) (hs : ∀ x, foldedSetIterable iter X.env x = pure x := by intro _; rfl) :
    CS X (.Assign [.Name y py] (.ListComp elt [⟨tg, iter, ifs, 0⟩] scope pos) spos) (tAsg (tLc wi g tt te (own.map (·.2))) (gName i)) (dSet i (dLc di dg dt de (own.map (·.2)))) :=
  ⟨ps_setLc hc hN hy hyl hsw hi.pi ok (fun s H C cl fp => (hg s H C cl fp).pg) (fun s H C cl fp => (ht s H C cl fp).1) (fun s H C cl fp => (he s H C cl fp).pe) hs,
    sim_set (sim_lc hi.sim (hg X.s_0 X.H_0 0 [] []).sim (ht X.s_0 X.H_0 0 [] []).2 (he X.s_0 X.H_0 0 [] []).sim hj)⟩
theorem pts1 {c : Expr} {t : TT} {d : dT} (h : CT X c t d) : PTs X [c] t ∧ SimT X.K t d := ⟨pts_one h.pt, h.sim⟩
theorem pts0 : PTs X [] tYes ∧ SimT X.K tYes dYes := ⟨pts_nil, sim_yes⟩
/-- xs[j] = e -/
theorem cs_setL (i : Nat) {x : Str} {px p2 : Pos} {e j : Expr} {te tj : TE} {de dj : dE} (h : CE X e te de) (hj : CE X j tj dj) (hN : X.N[i]? = some x := by rfl) (hv : Vis X.env.scope x := by first | exact Or.inl rfl | exact Or.inr (Or.inl rfl) | exact Or.inr (Or.inr rfl)) (hd : (x == ("__debug__" : Str)) = false := by decide) (hcd : (x == ("__classdict__" : Str)) = false := by decide)
    (ha : ∀ v, assign (.Subscript (.Name x px) j p2) X.env v = (do
      let ov ← holding [v] (eval (.Name x px) X.env)
      let iv ← holding [v, ov] (eval j X.env)
      standAt p2
      holding [v, ov, iv] (setItem ov iv v)
      release [v, ov, iv] []) := by intro _; rfl)
    (hs : swapsWithSole [.Subscript (.Name x px) j p2] e pos.line X.env = pure false := by rfl) (hw : swappedStores [.Subscript (.Name x px) j p2] e X.env = pure none := by rfl)
    (h1 : (assignEach [.Subscript (.Name x px) j p2] X.env).map (·.2) = [assign (.Subscript (.Name x px) j p2) X.env] := by rfl) :
    CS X (.Assign [.Subscript (.Name x px) j p2] e pos) (tAsg te (gSub (tVar i) tj rSetL)) (dSetL i de dj) := ⟨ps_asg h.pe (pg_sub (pe_var hN hv hd hcd) hj.pe set_list ha) hs hw h1, sim_setL h.sim hj.sim⟩
end
/-! ### a def of the text that stands -/
structure Has (P : Program) (w : World) (K : PySem.W.Frag) (mg : Str → Option Value) (base : Heap) (k : Nat) (x : Str) (ps : List Str) (F : FD) (dvs : List V) (dds : List D) : Prop where
  ex : ∃ f fd ds, FnOk P w K mg base CX0 k f fd ps (spV K F) ∧ mg x = some (.ref f) ∧ PySem.W.keepIn K (.ref f) = true ∧ Binds K fd ps ds ∧ Vals dvs ds
  dq : ∀ B, DqAll K B dvs dds
  mon : Mon F
theorem ce_has {X : Cx} {k k' : Nat} {ps : List Str} {F : FD} {dvs : List V} {dds : List D} {x : Str} {p pos : Pos} {e : Expr} {es : List Expr} {t : TA} {d : dC} (h : Has X.prog X.w X.K X.mg X.base k x ps F dvs dds) (hr : Room k' X.A) (hk : k ≤ k') (ha : CC X (e :: es) t d)
    (hg : Gl X x := by rfl) (hdb : (x == ("__debug__" : Str)) = false := by decide) (he : starEach (e :: es) X.env = (false, eval e X.env) :: starEach es X.env := by rfl) (hpl : (backTo pos (starEach es X.env)).any (·.1) = false := by rfl) :
    CE X (.Call (.Name x p) (e :: es) [] pos) (tCall (spV X.K F) dvs E0 t) (dCallF F dds d) := by
  obtain ⟨f, fd, ds, G, hm, kp, b, v⟩ := h.ex
  exact ce_def h.mon G (hr.mono hk) hm kp b v h.dq ha hg hdb he hpl
/-! ### loops, from the outside -/
/-- unrolled -/
def forGo (g : dG) (body : dS) (E : DE) : List D → List S → Prop
  | [], ρ => E.nx ρ
  | x :: xs, ρ => g x ρ fun ρ1 => body { nx := forGo g body E xs, rt := E.rt, bk := E.nx, ct := forGo g body E xs } ρ1
theorem for_go {g : dG} {body : dS} {E : DE} {items : List D} {ρ : List S} (h : forGo g body E items ρ) : ∃ I : Nat → List S → Prop, I 0 ρ ∧
    (∀ i x ρ', items[i]? = some x → I i ρ' → g x ρ' fun ρ1 => body { nx := I (i + 1), rt := E.rt, bk := E.nx, ct := I (i + 1) } ρ1) ∧ ∀ ρ', I items.length ρ' → E.nx ρ' := by
  refine ⟨fun i ρ' => forGo g body E (items.drop i) ρ', h, fun i x ρ' e h' => ?_, fun ρ' h' => ?_⟩
  · have hi : i < items.length := (List.getElem?_eq_some_iff.mp e).1
    have h' : forGo g body E (items.drop i) ρ' := h'
    rw [List.drop_eq_getElem_cons hi] at h'
    have : items[i] = x := (List.getElem?_eq_some_iff.mp e).2
    rw [this] at h'
    exact h'
  · have h' : forGo g body E (items.drop items.length) ρ' := h'
    rw [List.drop_length] at h'
    exact h'
/-- a comprehension whose turns are known -/
theorem lc_known {dg : dG} {dt : dT} {de : dE} {ρ : List S} {Q : Z → Prop} (p : D → Bool) (f : D → D) : ∀ (xs acc : List D), acc.length + xs.length < sizeLine →
    (∀ x ∈ xs, ∀ (R0 : Prop) (R1 : D → Prop), (p x = false → R0) → (p x = true → R1 (f x)) → dg x ρ fun ρ1 => dt ρ1 fun b => if b = true then de ρ1 fun z => match z.own with
      | some d => R1 d
      | none => False
    else R0) → Q (.n (.l (acc ++ (xs.filter p).map f))) → lcGo dg dt de ρ Q xs acc
  | [], acc, _, _, h => by
    show Q (.n (.l acc))
    simpa using h
  | x :: xs, acc, hl, h1, h => by
    rw [List.length_cons] at hl
    have step := h1 x List.mem_cons_self (lcGo dg dt de ρ Q xs acc) (fun d => acc.length < sizeLine ∧ lcGo dg dt de ρ Q xs (acc ++ [d]))
    refine step (fun hp => ?_) (fun hp => ⟨by omega, ?_⟩)
    · refine lc_known p f xs acc (by omega) (fun y hy => h1 y (List.mem_cons_of_mem _ hy)) ?_
      rw [List.filter_cons, if_neg (by rw [hp]; decide)] at h
      exact h
    · refine lc_known p f xs (acc ++ [f x]) (by rw [List.length_append, List.length_singleton]; omega) (fun y hy => h1 y (List.mem_cons_of_mem _ hy)) ?_
      rw [List.filter_cons, if_pos hp] at h
      rw [List.append_assoc]
      exact h
end Dl
namespace Dl
open PySem L2
/-! ### constants of the module -/
structure Gc (K : PySem.W.Frag) (mg : Str → Option Value) (x : Str) (d : D) : Prop where
  ex : ∃ v u, mg x = some u ∧ RelV v u ∧ ∀ H, Dq K H v d
def tGlob (mg : Str → Option Value) (x : Str) : TE := fun σ H Q => ∀ v u, mg x = some u → RelV v u → Q v H
theorem ce_gl {X : Cx} {x : Str} {d : D} {pos : Pos} (h : Gc X.K X.mg x d) (hg : Gl X x := by rfl) (hdb : (x == ("__debug__" : Str)) = false := by decide) : CE X (.Name x pos) (tGlob X.mg x) (dK d) := by
  obtain ⟨v, u, hm, r, hd⟩ := h.ex
  refine ⟨⟨fun pins s σ H Q I q => (pe_glob hg hm r hdb).run pins s σ H Q I (q v u hm r)⟩, ⟨fun {B H G σ ρ Qd Q} p q k v' u' hm' r' => ?_⟩⟩
  rw [hm] at hm'
  cases hm'
  rw [r'.inj r]
  exact k (.v d) v B H (Gr.refl p.ex) (hd B) q
theorem gc_int {K : PySem.W.Frag} {mg : Str → Option Value} {x : Str} {i : Int} {t : Tok} (h : mg x = some (.int i t)) : Gc K mg x (.int i) := ⟨.int i, _, h, ⟨t, rfl⟩, fun _ => .int i⟩
theorem gc_str {K : PySem.W.Frag} {mg : Str → Option Value} {x : Str} {i : Str} {t : Tok} (h : mg x = some (.str i t)) : Gc K mg x (.str i) := ⟨.str i, _, h, ⟨t, rfl⟩, fun _ => .str i⟩
/-- values of the written part that stand for data -/
inductive KD (K : PySem.W.Frag) : Value → D → Prop
  | non : KD K .none .none
  | bl (b : Bool) : KD K (.bool b) (.bool b)
  | int (i : Int) (t : Tok) : KD K (.int i t) (.int i)
  | str (x : Str) (t : Tok) : KD K (.str x t) (.str x)
inductive KDs (K : PySem.W.Frag) : List Value → List D → Prop
  | nil : KDs K [] []
  | cons {u : Value} {us : List Value} {d : D} {ds : List D} : KD K u d → KDs K us ds → KDs K (u :: us) (d :: ds)
theorem kd_dq {K : PySem.W.Frag} {u : Value} {d : D} (h : KD K u d) : ∃ v, RelV v u ∧ ∀ H, Dq K H v d := by
  cases h with
  | non => exact ⟨.non, rfl, fun _ => .non⟩
  | bl b => exact ⟨.bl b, rfl, fun _ => .bl b⟩
  | int i t => exact ⟨.int i, ⟨t, rfl⟩, fun _ => .int i⟩
  | str x t => exact ⟨.str x, ⟨t, rfl⟩, fun _ => .str x⟩
theorem kds_dq {K : PySem.W.Frag} {us : List Value} {ds : List D} (h : KDs K us ds) : ∃ vs, Vals vs us ∧ ∀ H, DqAll K H vs ds := by
  induction h with
  | nil => exact ⟨[], .nil, fun _ => .nil⟩
  | cons a _ ih =>
    obtain ⟨v, r, q⟩ := kd_dq a
    obtain ⟨vs, rs, qs⟩ := ih
    exact ⟨v :: vs, .cons r rs, fun H => .cons (q H) (qs H)⟩
/-- a tuple of the module, its items plain -/
theorem gc_tup {K : PySem.W.Frag} {mg : Str → Option Value} {x : Str} {a : Addr} {dd : Option Addr} {us : Array Value} {n : Nat} {sl : Array (Option Value)} {ds : List D} (h : mg x = some (.ref a)) (hk : K.lookup a = some ⟨.type "tuple", dd, .seq us n, sl⟩) (hs : us.size ≤ sizeLine) (hd : KDs K us.toList ds) : Gc K mg x (.tuple ds) := by
  obtain ⟨vs, r, q⟩ := kds_dq hd
  exact ⟨.ref a, _, h, rfl, fun H => .tup (.inr ⟨_, us, n, hk, rfl, rfl, hs, r⟩) (q H)⟩
end Dl

set_option maxHeartbeats 2000000
namespace Dl
open PySem L2
/-! ### data that == tells apart as it should -/
def nice (n : Nat) (d : D) : Prop := d.canLay0 = true ∧ d.depth ≤ n
theorem nice_up {n m : Nat} {d : D} (h : nice n d) (l : n ≤ m) : nice m d := ⟨h.1, Nat.le_trans h.2 l⟩
theorem nice_none {n : Nat} : nice n .none := ⟨by simp [PyData.canLay0], by simp [PyData.depth]⟩
theorem nice_bool {n : Nat} {b : Bool} : nice n (.bool b) := ⟨by simp [PyData.canLay0], by simp [PyData.depth]⟩
theorem nice_int {n : Nat} {i : Int} : nice n (.int i) := ⟨by simp [PyData.canLay0], by simp [PyData.depth]⟩
theorem nice_str {n : Nat} {x : Str} (h : PyData.strOk x = true := by decide +kernel) : nice n (.str x) := ⟨by rw [PyData.canLay0]; exact h, by simp [PyData.depth]⟩
theorem nices {n : Nat} : ∀ {xs : List D}, (∀ x ∈ xs, nice n x) → PyData.canLayAll0 xs = true ∧ PyData.depthAll xs ≤ n
  | [], _ => ⟨by simp [PyData.canLayAll0], by simp [PyData.depthAll]⟩
  | x :: xs, h => by
    obtain ⟨a, b⟩ := h x List.mem_cons_self
    obtain ⟨c, d⟩ := nices (xs := xs) fun y hy => h y (List.mem_cons_of_mem _ hy)
    refine ⟨by rw [PyData.canLayAll0, a, c]; rfl, ?_⟩
    rw [PyData.depthAll]
    exact Nat.max_le.mpr ⟨b, d⟩
theorem nice_tuple {n : Nat} {xs : List D} (h : ∀ x ∈ xs, nice n x) : nice (n + 1) (.tuple xs) := by
  obtain ⟨a, b⟩ := nices h
  exact ⟨by rw [PyData.canLay0]; exact a, by rw [PyData.depth]; omega⟩
theorem nice_list {n : Nat} {xs : List D} (h : ∀ x ∈ xs, nice n x) : nice (n + 1) (.list xs) := by
  obtain ⟨a, b⟩ := nices h
  exact ⟨by rw [PyData.canLay0]; exact a, by rw [PyData.depth]; omega⟩
theorem nice_map {α : Type} {n : Nat} {f : α → D} {xs : List α} (h : ∀ x ∈ xs, nice n (f x)) : ∀ y ∈ xs.map f, nice n y := fun y hy => by
  obtain ⟨x, hx, rfl⟩ := List.mem_map.mp hy
  exact h x hx
theorem nice_nil {n : Nat} : ∀ x ∈ ([] : List D), nice n x := fun _ h => nomatch h
theorem nice_cons {n : Nat} {d : D} {xs : List D} (h : nice n d) (t : ∀ x ∈ xs, nice n x) : ∀ x ∈ d :: xs, nice n x := fun x hx => by
  rcases List.mem_cons.mp hx with rfl | hx
  · exact h
  · exact t x hx
theorem shaped_of {n : Nat} {d : D} (h : nice n d) (l : n ≤ 64 := by decide) : SeqAt.shaped d = true := by
  unfold SeqAt.shaped
  rw [h.1, decide_eq_true (Nat.le_trans h.2 l)]
  rfl
/-- a thing is equal to itself -/
theorem eqD_refl {n : Nat} {d : D} {Q : Bool → Prop} (h : nice n d) (l : n ≤ 64 := by decide) (q : Q true) : eqD d d Q := by
  have e := SeqAt.eqv_refl d h.1
  unfold eqD
  split
  · rw [decide_eq_true rfl]; exact q
  · rw [decide_eq_true rfl]; exact q
  · rw [decide_eq_true rfl]; exact q
  · exact ⟨shaped_of h l, shaped_of h l, by rw [e]; exact q⟩
theorem eqD_same {n : Nat} {d e : D} {Q : Bool → Prop} (he : d = e) (h : nice n d) (l : n ≤ 64 := by decide) (q : Q true) : eqD d e Q := by
  subst he
  exact eqD_refl h l q
theorem take_last {α : Type} {xs : List α} {i : Nat} {x : α} (h : xs[i]? = some x) : xs.take (i + 1) = xs.take i ++ [x] := by
  rw [List.take_add_one, h]
  rfl
theorem get_map {α β : Type} {f : α → β} {xs : List α} {i : Nat} {y : β} (h : (xs.map f)[i]? = some y) : ∃ x, xs[i]? = some x ∧ y = f x := by
  rw [List.getElem?_map] at h
  cases e : xs[i]? with
  | none => rw [e] at h; cases h
  | some x => rw [e] at h; exact ⟨x, rfl, (Option.some.inj h).symm⟩
theorem atI_ints {ns : List Int} {k : Int} (h0 : 0 ≤ k) (h1 : k < ns.length) : atI (ns.map PyData.int) k = some (.int (ns.getD k.toNat 0)) := by
  have e : k = ((k.toNat : Nat) : Int) := by omega
  rw [e]
  refine atI_nat (j := k.toNat) ?_
  rw [List.getElem?_map, List.getD_eq_getElem?_getD, show ((k.toNat : Nat) : Int).toNat = k.toNat by omega]
  have hl : k.toNat < ns.length := by omega
  rw [List.getElem?_eq_getElem hl]
  rfl
end Dl
namespace Dl
open PySem L2
theorem eqv_nice {n : Nat} {d : D} (h : nice n d) : PyData.eqv d d = true := SeqAt.eqv_refl d h.1
end Dl
namespace Dl
open PySem L2
theorem p0 {k : Int} (h : decide (0 < k) = true := by rfl) : 0 < k := of_decide_eq_true h
theorem cdiv {i k : Int} (h : (decide (0 < k) && decide (k < 1073741824)) = true := by rfl) : CDiv i k := by
  rw [Bool.and_eq_true] at h
  exact ⟨of_decide_eq_true h.1, of_decide_eq_true h.2⟩
theorem cmulR {i k : Int} (h : (decide (-(2 ^ 64) < k) && decide (k < 2 ^ 64)) = true := by rfl) : CMul i k := by
  rw [Bool.and_eq_true] at h
  exact .inr ⟨of_decide_eq_true h.1, of_decide_eq_true h.2⟩
theorem cmulL {i k : Int} (h : (decide (-(2 ^ 64) < i) && decide (i < 2 ^ 64)) = true := by rfl) : CMul i k := by
  rw [Bool.and_eq_true] at h
  exact .inl ⟨of_decide_eq_true h.1, of_decide_eq_true h.2⟩
theorem cpow {i k : Int} (h : (decide (0 ≤ k) && decide (k ≤ 1000000) && decide (i.natAbs < 2 ^ 64)) = true := by rfl) : CPow i k := by
  rw [Bool.and_eq_true, Bool.and_eq_true] at h
  exact ⟨of_decide_eq_true h.1.1, of_decide_eq_true h.1.2, of_decide_eq_true h.2⟩
theorem rngOk {j : Int} (h0 : 0 ≤ j) (h1 : j ≤ 1000000) : -(2 ^ 62) ≤ j ∧ j < 2 ^ 62 := ⟨by omega, by omega⟩
theorem szOk {n : Nat} (h : n ≤ 100000) : n ≤ sizeLine := Nat.le_trans h (by decide)
theorem szLt {n : Nat} (h : n < 100000) : n < sizeLine := Nat.lt_of_lt_of_le h (by decide)
theorem zz (i : Int) : (0 : Int) + i = i := Int.zero_add i
end Dl
namespace Dl
open PySem L2
theorem sk {n : Nat} (h : decide (n ≤ 100000) = true := by rfl) : n ≤ sizeLine := szOk (of_decide_eq_true h)
end Dl
namespace Dl
open PySem L2
theorem isi_any {T : String} (h : (["NoneType", "bool", "int", "str", "list", "tuple", "dict"].all fun a => decide (kitB a T = some (isiB a T))) = true) : ∀ d : D, kitB (dTy d) T = some (isiB (dTy d) T) := fun d => by
  rw [List.all_eq_true] at h
  refine of_decide_eq_true (h (dTy d) ?_)
  cases d <;> simp [dTy]
theorem isi_tuple (d : D) : kitB (dTy d) "tuple" = some (isiB (dTy d) "tuple") := isi_any (by decide +kernel) d
theorem isi_list (d : D) : kitB (dTy d) "list" = some (isiB (dTy d) "list") := isi_any (by decide +kernel) d
theorem isi_int (d : D) : kitB (dTy d) "int" = some (isiB (dTy d) "int") := isi_any (by decide +kernel) d
theorem isi_str (d : D) : kitB (dTy d) "str" = some (isiB (dTy d) "str") := isi_any (by decide +kernel) d
theorem isi_bool (d : D) : kitB (dTy d) "bool" = some (isiB (dTy d) "bool") := isi_any (by decide +kernel) d
theorem isi_dict (d : D) : kitB (dTy d) "dict" = some (isiB (dTy d) "dict") := isi_any (by decide +kernel) d
end Dl

set_option maxHeartbeats 2000000
namespace Dl
open PySem L2
/-- the script, as data -/
abbrev scrD (ns : List Int) : D := .dict [(.none, .list (ns.map PyData.int))]
theorem law_start {K : PySem.W.Frag} {F : FD} {H : Hp} {a : Addr} {ns : List Int} {E : XK} (hS : SqL K H a (ns.map V.int)) (h : F [scrD ns] fun z => z = .v (.bool true)) (hm : Mon F) : spV K F [.ref a] H (fun v _ => v = .bl true) E :=
  ⟨H, fun _ => False, [scrD ns], ⟨Ex.refl H, fun _ z => z.elim, fun _ z => z.elim⟩, .cons (.scr hS dps_ints) .nil, hm _ _ _ (fun z hz v B' H' g zi => by
    subst hz
    exact dp_bl zi) h⟩
/-- the law's own promise -/
def F_law : FD := fun as Q => ∃ (ns : List Int), as = [scrD ns] ∧ ns.length ≤ 63 ∧ Q (.v (.bool true))
theorem mon_law : Mon F_law := by
  rintro as Q Q' h ⟨ns, e, l, q⟩
  exact ⟨ns, e, l, h _ q⟩
theorem walk {l : PySem.W.OpenLaw} {k : Nat} {q : Program} {loose : List Str} {XP : (Str → Option Value) → Heap → Prop} {YP : World → Heap → Prop} {d : DefRec} {K : Params → PySem.W.Frag} {x : Str} (hn : l.most = some 63) (hdf : d.params.defaults = []) (hr : Room k PySem.callerA)
    (hY : ∀ (w : World) (h : Heap), YP w h → (K w.params).In h)
    (F : ∀ (w : World) (mg : Str → Option Value) (fa : Addr) (h : Heap), (K w.params).In h → h.Ns mainGlobals mg → mg d.name = some (.ref fa) →
      ∃ fd : FuncData, (∀ (s : Shared) (u : Value), BindsTo s fd ⟨[u], []⟩ [(x, u)]) ∧ ∀ base : Heap, (K w.params).In base → base.Ns mainGlobals mg → FnOk l.prog w (K w.params) mg base CX0 k fa fd [x] (spV (K w.params) F_law)) :
    PySem.W.WalkO q loose XP YP l.row.toRowW d [] (fun f vs => PySem.call f vs) :=
  L2.walk_of (n := 63) (k := k) (x := x) (CX := fun _ => CX0) (sp := fun w => spV (K w.params) F_law) hn (by decide) hdf hr hY F (fun _ _ a ns hl _ hS => law_start hS ⟨ns, rfl, hl, rfl⟩ mon_law) fun _ _ _ _ _ z => z
end Dl
namespace Dl
open PySem L2
/-- a promise by its answer -/
def det (n : Nat) (P : List D → Z → Prop) : FD := fun as Q => as.length = n ∧ ∃ z, P as z ∧ Q z
theorem mon_det {n : Nat} {P : List D → Z → Prop} : Mon (det n P) := by
  rintro as Q Q' h ⟨l, z, p, q⟩
  exact ⟨l, z, p, h _ q⟩
theorem len_det {n : Nat} {P : List D → Z → Prop} : ∀ as Q, det n P as Q → as.length = n := fun _ _ h => h.1
theorem len_law : ∀ as Q, F_law as Q → as.length = 1 := by
  rintro as Q ⟨ns, rfl, _⟩
  rfl
/-- the script's cell, or 0 -/
def cell (ns : List Int) (k : Int) : Int := if k < ns.length then ns.getD k.toNat 0 else 0
def P_cell (as : List D) (z : Z) : Prop := ∃ (ns : List Int) (k : Int), as = [scrD ns, .int k] ∧ 0 ≤ k ∧ z = .v (.int (cell ns k))
def P_isint (as : List D) (z : Z) : Prop := ∃ i : Int, as = [.int i] ∧ z = .v (.bool true)
end Dl
namespace Dl
open PySem L2
abbrev fE (Q : Z → Prop) : DE := { nx := fun _ => Q (.v .none), rt := fun z => Q z.fin }
theorem iteY {p A B : Prop} [Decidable p] (h : p) (q : A) : if decide p = true then A else B := by
  rw [if_pos (decide_eq_true h)]
  exact q
theorem iteN {p A B : Prop} [Decidable p] (h : ¬ p) (q : B) : if decide p = true then A else B := by
  rw [if_neg (fun z => h (of_decide_eq_true z))]
  exact q
theorem ite3 {p A B : Prop} [Decidable p] (h1 : p → A) (h2 : ¬ p → B) : if decide p = true then A else B := by
  by_cases h : p
  · exact iteY h (h1 h)
  · exact iteN h (h2 h)
theorem ite3N {p A B : Prop} [Decidable p] (h1 : ¬ p → A) (h2 : p → B) : if (!decide p) = true then A else B := by
  by_cases h : p
  · rw [decide_eq_true h]
    exact iteF (h2 h)
  · rw [decide_eq_false h]
    exact iteT (h1 h)
end Dl
namespace Dl
open PySem L2
/-- a slice that is not the whole -/
theorem cutk {n : Nat} {lo hi : Option Int} (h : decide (¬ (HT.sIx n 0 lo = 0 ∧ HT.sIx n n hi = n)) = true := by rfl) : ¬ (HT.sIx n 0 lo = 0 ∧ HT.sIx n n hi = n) := of_decide_eq_true h
end Dl
namespace Dl
open PySem L2
/-- a comprehension without a test, its turns known -/
theorem lc_map {dg : dG} {de : dE} {ρ : List S} {Q : Z → Prop} {xs : List D} (f : D → D) (hl : xs.length < sizeLine)
    (h1 : ∀ x ∈ xs, ∀ (R1 : D → Prop), R1 (f x) → dg x ρ fun ρ1 => de ρ1 fun z => match z.own with
      | some d => R1 d
      | none => False) (h : Q (.n (.l (xs.map f)))) : lcGo dg dYes de ρ Q xs [] := by
  refine lc_known (fun _ => true) f xs [] (by simpa using hl) (fun x hx R0 R1 _ k1 => ?_) ?_
  · exact h1 x hx R1 (k1 rfl)
  · have e : xs.filter (fun _ => true) = xs := List.filter_eq_self.mpr fun _ _ => rfl
    rw [List.nil_append, e]
    exact h
theorem upFrom_mem {lo : Int} {n : Nat} {d : D} (h : d ∈ upFrom lo n) : ∃ i : Nat, i < n ∧ d = .int (lo + (i : Int)) := by
  obtain ⟨i, hi⟩ := List.mem_iff_getElem?.mp h
  obtain ⟨a, b⟩ := upFrom_get hi
  exact ⟨i, a, b⟩
end Dl
namespace Dl
open PySem L2
theorem len41 : ∀ k : Fin 64, ((toString ((k.val : Nat) : Int) : Str)).length ≤ 2 := by decide +kernel
theorem str_small {k : Int} (h0 : 0 ≤ k) (h1 : k < 64) : k.natAbs.log2 < 1920 ∧ (toString k : Str).length ≤ 2 := by
  obtain ⟨n, rfl⟩ : ∃ n : Nat, k = (n : Int) := ⟨k.toNat, by omega⟩
  refine ⟨?_, len41 ⟨n, by omega⟩⟩
  rw [Int.natAbs_natCast]
  by_cases h : n = 0
  · subst h; decide
  · exact (Nat.log2_lt h).mpr (Nat.lt_of_lt_of_le (show n < 2 ^ 6 by omega) (Nat.pow_le_pow_right (by decide) (by decide)))
end Dl

set_option maxHeartbeats 2000000
namespace Dl
open PySem L2
/-! ### comprehensions, their parts known up to projections -/
theorem ce_lcX {X : Cx} {pos : Pos} {elt tg iter : Expr} {ifs : List Expr} {scope : Scope} {own : List (Str × Nat)} {wi : TI} {di : dI_} {js : List Nat} {g : TG} {dg : dG} {tt : TT} {dt : dT} {te : TE} {de : dE} (hc : X.calm = true) (hN : X.N.Nodup) (hi : CI X tg iter wi di) (ok : BlkOk X.N X.env.scope scope own)
    (hg : ∀ (s : Shared) (H : Hp) (C : Addr) (cl : List (Str × Addr)) (fp : List Addr), ∃ g', CG (X.blk s H scope (compEnvC scope cl C X.env) fp) tg js g' dg ∧ g' = g) (ht : ∀ (s : Shared) (H : Hp) (C : Addr) (cl : List (Str × Addr)) (fp : List Addr), ∃ tt', (PTs (X.blk s H scope (compEnvC scope cl C X.env) fp) ifs tt' ∧ SimT X.K tt' dt) ∧ tt' = tt)
    (he : ∀ (s : Shared) (H : Hp) (C : Addr) (cl : List (Str × Addr)) (fp : List Addr), ∃ te', CE (X.blk s H scope (compEnvC scope cl C X.env) fp) elt te' de ∧ te' = te) (hj : ∀ j ∈ js, j ∈ own.map (·.2) := by decide) (hs : ∀ x, foldedSetIterable iter X.env x = pure x := by intro _; rfl) :
    CE X (.ListComp elt [⟨tg, iter, ifs, 0⟩] scope pos) (tLc wi g tt te (own.map (·.2))) (dLc di dg dt de (own.map (·.2))) :=
  ce_lc hc hN hi ok (fun s H C cl fp => by obtain ⟨_, h, rfl⟩ := hg s H C cl fp; exact h) (fun s H C cl fp => by obtain ⟨_, h, rfl⟩ := ht s H C cl fp; exact h) (fun s H C cl fp => by obtain ⟨_, h, rfl⟩ := he s H C cl fp; exact h) hj hs
theorem cs_setLcX {X : Cx} (i : Nat) {y : Str} {py spos : Pos} {pos : Pos} {elt tg iter : Expr} {ifs : List Expr} {scope : Scope} {own : List (Str × Nat)} {wi : TI} {di : dI_} {js : List Nat} {g : TG} {dg : dG} {tt : TT} {dt : dT} {te : TE} {de : dE} (hc : X.calm = true) (hN : X.N.Nodup) (hi : CI X tg iter wi di) (ok : BlkOk X.N X.env.scope scope own)
    (hg : ∀ (s : Shared) (H : Hp) (C : Addr) (cl : List (Str × Addr)) (fp : List Addr), ∃ g', CG (X.blk s H scope (compEnvC scope cl C X.env) fp) tg js g' dg ∧ g' = g) (ht : ∀ (s : Shared) (H : Hp) (C : Addr) (cl : List (Str × Addr)) (fp : List Addr), ∃ tt', (PTs (X.blk s H scope (compEnvC scope cl C X.env) fp) ifs tt' ∧ SimT X.K tt' dt) ∧ tt' = tt)
    (he : ∀ (s : Shared) (H : Hp) (C : Addr) (cl : List (Str × Addr)) (fp : List Addr), ∃ te', CE (X.blk s H scope (compEnvC scope cl C X.env) fp) elt te' de ∧ te' = te) (hsw : swapsWith (.ListComp elt [⟨tg, iter, ifs, 0⟩] scope pos) (some (.Name y py)) spos.line X.env = pure true)
    (hy : X.N[i]? = some y := by rfl) (hyl : X.env.scope.names.lookup y = some .local := by rfl) (hj : ∀ j ∈ js, j ∈ own.map (·.2) := by decide) (hs : ∀ x, foldedSetIterable iter X.env x = pure x := by intro _; rfl) :
    CS X (.Assign [.Name y py] (.ListComp elt [⟨tg, iter, ifs, 0⟩] scope pos) spos) (tAsg (tLc wi g tt te (own.map (·.2))) (gName i)) (dSet i (dLc di dg dt de (own.map (·.2)))) :=
  cs_setLc i hc hN hi ok (fun s H C cl fp => by obtain ⟨_, h, rfl⟩ := hg s H C cl fp; exact h) (fun s H C cl fp => by obtain ⟨_, h, rfl⟩ := ht s H C cl fp; exact h) (fun s H C cl fp => by obtain ⟨_, h, rfl⟩ := he s H C cl fp; exact h) hsw hy hyl hj hs
end Dl

set_option maxHeartbeats 2000000
namespace Dl
open PySem L2
/-! ### < of tuples -/
def ltOk (d e : D) : Bool := PySem.W.alike d e && d.canLay0 && e.canLay0 && decide (d.depth ≤ 60)
def rLtDD (K : PySem.W.Frag) : R2 := fun x y H Q => ∃ d e, Dp K H x d ∧ Dp K H y e ∧ PySem.W.alike d e = true ∧ d ≠ .none ∧ d.depth ≤ 60 ∧ Q (.bl (PySem.W.dataLt d e)) H
theorem op_ltDD {X : Cx} (hu : X.A.units + 64 < cLine) : OpR X (compareOp .Lt) (rLtDD X.K) := by
  intro pins s σ H x y v u Q I rx ry h
  obtain ⟨d, e, hd, he, ha, hn, hz, q⟩ := h
  obtain ⟨as, r1⟩ := Dp.reads I d x v hd rx
  obtain ⟨bs, r2⟩ := Dp.reads I e y u he ry
  exact PySem.W.rcLt_alike d e X.A s v u as bs r1 r2 ha hn (by have := Nat.min_le_left d.depth e.depth; omega) X.prog X.w X.xe _ ⟨.bl _, H, I, rfl, q⟩
def rLtB (K : PySem.W.Frag) : R2 := fun x y H Q => rLtA x y H Q ∨ rLtDD K x y H Q
theorem op_ltB {X : Cx} (hu : X.A.units + 64 < cLine) : OpR X (compareOp .Lt) (rLtB X.K) := OpR.or op_ltA (op_ltDD hu)
def dLtB (x y : Z) (Q : Z → Prop) : Prop := match x.data, y.data with
  | some (.int i), some (.int j) => Q (.v (.bool (decide (i < j))))
  | some (.str i), some (.str j) => Q (.v (.bool (decide (i.cps.toList < j.cps.toList))))
  | some (.tuple xs), some (.tuple ys) => ltOk (.tuple xs) (.tuple ys) = true ∧ Q (.v (.bool (PySem.W.dataLt (.tuple xs) (.tuple ys))))
  | _, _ => False
theorem ltOk_of {d e : D} (h : ltOk d e = true) : PySem.W.alike d e = true ∧ d.canLay0 = true ∧ e.canLay0 = true ∧ d.depth ≤ 60 := by
  unfold ltOk at h
  rw [Bool.and_eq_true, Bool.and_eq_true, Bool.and_eq_true, decide_eq_true_eq] at h
  exact ⟨h.1.1.1, h.1.1.2, h.1.2, h.2⟩
theorem simR_ltB {K : PySem.W.Frag} : SimR K (rLtB K) dLtB := by
  intro B H G H_0 x y v w Qd Q ok zx zy h k
  unfold dLtB at h
  split at h
  · rename_i i j e1 e2
    exact .inl (.inl ⟨i, j, dp_int (zx.dp ok.ex e1), dp_int (zy.dp ok.ex e2), k (.v (.bool _)) _ B H (Gr.refl ok.ex) (.bl _) h⟩)
  · rename_i i j e1 e2
    exact .inl (.inr ⟨i, j, dp_str (zx.dp ok.ex e1), dp_str (zy.dp ok.ex e2), k (.v (.bool _)) _ B H (Gr.refl ok.ex) (.bl _) h⟩)
  · rename_i xs ys e1 e2
    obtain ⟨h1, h2, h3, h4⟩ := ltOk_of h.1
    exact .inr ⟨_, _, dq_dp _ _ h2 (zx.dp ok.ex e1), dq_dp _ _ h3 (zy.dp ok.ex e2), h1, (fun z => by cases z), h4, k (.v (.bool _)) _ B H (Gr.refl ok.ex) (.bl _) h.2⟩
  · exact h.elim
section
variable {X : Cx} {a b : Expr} {ta tb : TE} {da db : dE} {pos : Pos}
theorem ce_ltB (hu : X.A.units + 64 < cLine) (ha : CE X a ta da) (hb : CE X b tb db) : CE X (.Compare a [.Lt] [b] pos) (tOp (rLtB X.K) ta tb) (dOp dLtB da db) := ce_cmp (op_ltB hu) simR_ltB ha hb (nomark _)
theorem ct_ltB (hu : X.A.units + 64 < cLine) (ha : CE X a ta da) (hb : CE X b tb db) : CT X (.Compare a [.Lt] [b] pos) (tTest (tOp (rLtB X.K) ta tb)) (dTst (dOp dLtB da db)) := ct_cmp (op_ltB hu) simR_ltB ha hb (nomark _)
end
/-! ### sorted -/
def sortD (ds : List D) : List D := ds.mergeSort (PySem.W.dataLe false id)
structure SortOk (ds : List D) : Prop where
  al : PySem.W.AllAlike ds
  so : PySem.W.Sortable ds
  cl : ∀ d ∈ ds, d.canLay0 = true ∧ d.depth ≤ 60
  sz : ds.length ≤ sizeLine
def rSortD (K : PySem.W.Frag) : List V → Hp → VK → Prop := fun vs H Q => ∃ (B : Hp) (a : Addr) (xs : List V) (ds : List D), vs = [.ref a] ∧ SqL K H a xs ∧ Ex B H ∧ DqAll K B xs ds ∧ SortOk ds ∧
  ∀ xs' p, DqAll K B xs' (sortD ds) → H p = none → Q (.ref p) (upd H p (.lst xs'))
theorem each_of {K : PySem.W.Frag} {B : Hp} : ∀ {xs : List V} {us : List Value} {ds : List D}, Vals xs us → DqAll K B xs ds → PySem.W.EachIs (fun (v : Value) (d : D) => ∃ x, RelV x v ∧ Dq K B x d) us ds
  | _, _, _, .nil, h => by cases h; exact .nil
  | _, _, _, .cons r rs, h => by
    cases h with
    | cons h1 h2 => exact .cons ⟨_, r, h1⟩ (each_of rs h2)
theorem of_each {K : PySem.W.Frag} {B : Hp} : ∀ {us : List Value} {ds : List D}, PySem.W.EachIs (fun (v : Value) (d : D) => ∃ x, RelV x v ∧ Dq K B x d) us ds → ∃ xs, Vals xs us ∧ DqAll K B xs ds
  | _, _, .nil => ⟨[], .nil, .nil⟩
  | _, _, .cons ⟨x, r, h⟩ t => by
    obtain ⟨xs, a, b⟩ := of_each t
    exact ⟨x :: xs, .cons r a, .cons h b⟩
theorem each_reads {K : PySem.W.Frag} {H : Hp} {us : List Value} {ds : List D} {h : Heap} (hr : ∀ (d : D) (x : V) (v : Value), Dp K H x d → RelV x v → ∃ as, Reads h v d as) :
    ∀ {xs : List V} {us : List Value} {ds : List D}, Vals xs us → DqAll K H xs ds → (∀ d ∈ ds, d.canLay0 = true ∧ d.depth ≤ 60) → PySem.W.EachIs (fun (v : Value) (d : D) => ∃ as, Reads h v (id d) as) us ds
  | _, _, _, .nil, h, _ => by cases h; exact .nil
  | _, _, _, .cons r rs, h, c => by
    cases h with
    | cons h1 h2 => exact .cons (hr _ _ _ (dq_dp _ _ (c _ (.head _)).1 h1) r) (each_reads (us := []) (ds := []) hr rs h2 fun d hd => c d (.tail _ hd))
theorem cr_sortD {X : Cx} (hu : X.A.units + 64 < cLine) : CallR X (.builtin "sorted") (rSortD X.K) := by
  intro pins s σ H vs us Q I r h
  obtain ⟨B, a, xs, ds, rfl, hs, ex, hd, so, q⟩ := h
  obtain ⟨its, rv, hl, _⟩ := I.list hs
  rw [Vals.ref1 r]
  have e1 : ds.map id = ds := List.map_id ds
  have er : PySem.W.EachIs (fun (v : Value) (d : D) => ∃ as, Reads s.heap v (id d) as) its ds :=
    each_reads (us := []) (ds := []) (fun d x v h1 h2 => Dp.reads I d x v h1 h2) rv (dps_mono ex ds xs hd) so.cl
  refine PySem.W.sorted_data (enc := id) hl.isList (each_of rv hd) er (by rw [e1]; exact so.al) (by rw [e1]; exact so.so) so.sz (fun b hb => by have := (so.cl b hb).2; show X.A.units + 2 + b.depth < cLine; omega) fun out h1 h2 => ?_
  obtain ⟨xs', v', q'⟩ := of_each h2
  obtain ⟨ep, he'⟩ := PyProof.Rows.sortedAll_at s.heap its out.toArray
  have hlen : xs'.length ≤ sizeLine := by
    rw [dps_len q', List.length_mergeSort]
    exact so.sz
  exact ⟨.ref _, upd H (s.heap.objs.size + 1) (.lst xs'), I.laid (t' := s.toks) (fun _ _ => PyProof.Rows.sortedAll_old) (Nat.le_succ _) ⟨hlen, out, ep, v', he'⟩, rfl, q xs' _ q' (I.hok.fresh (Nat.le_succ _))⟩
def fSort : D → (Z → Prop) → Prop
  | .list xs, Q => SortOk xs ∧ Q (.n (.l (sortD xs)))
  | _, _ => False
theorem sim_sorted {K : PySem.W.Frag} : SimL K (rSortD K) (dL1 fSort) := simL_1 fun {B H G H_0 z v d Qd Q} ok za e q k => by
  unfold fSort at q
  split at q
  · rename_i xs
    obtain ⟨a, vs, rfl, r, qq⟩ := za.items ok (items_of e)
    refine ⟨B, a, vs, xs, rfl, r, ok.ex, qq, q.1, fun xs' l hd hl => ?_⟩
    obtain ⟨g, z⟩ := new_list ok hl hd
    exact k _ _ _ _ g z q.2
  · exact q.elim
theorem bt_sorted : bootBuiltins "sorted" = some (.builtin "sorted") := by decide +kernel
end Dl

set_option maxHeartbeats 2000000
namespace Dl
open PySem L2
/-- a comprehension over things of one kind -/
theorem lc_mapF {α : Type} {dg : dG} {dt : dT} {de : dE} {ρ : List S} {Q : Z → Prop} (enc : α → D) (p : α → Bool) (f : α → D) : ∀ (xs : List α) (acc : List D), acc.length + xs.length < sizeLine →
    (∀ x ∈ xs, ∀ (R0 : Prop) (R1 : D → Prop), (p x = false → R0) → (p x = true → R1 (f x)) → dg (enc x) ρ fun ρ1 => dt ρ1 fun b => if b = true then de ρ1 fun z => match z.own with
      | some d => R1 d
      | none => False
    else R0) → Q (.n (.l (acc ++ (xs.filter p).map f))) → lcGo dg dt de ρ Q (xs.map enc) acc
  | [], acc, _, _, h => by
    show Q (.n (.l acc))
    simpa using h
  | x :: xs, acc, hl, h1, h => by
    rw [List.length_cons] at hl
    have step := h1 x List.mem_cons_self (lcGo dg dt de ρ Q (xs.map enc) acc) (fun d => acc.length < sizeLine ∧ lcGo dg dt de ρ Q (xs.map enc) (acc ++ [d]))
    refine step (fun hp => ?_) (fun hp => ⟨by omega, ?_⟩)
    · refine lc_mapF enc p f xs acc (by omega) (fun y hy => h1 y (List.mem_cons_of_mem _ hy)) ?_
      rw [List.filter_cons, if_neg (by rw [hp]; decide)] at h
      exact h
    · refine lc_mapF enc p f xs (acc ++ [f x]) (by rw [List.length_append, List.length_singleton]; omega) (fun y hy => h1 y (List.mem_cons_of_mem _ hy)) ?_
      rw [List.filter_cons, if_pos hp] at h
      rw [List.append_assoc]
      exact h
theorem lc_filter {α : Type} {dg : dG} {dt : dT} {de : dE} {ρ : List S} {Q : Z → Prop} (enc : α → D) (p : α → Bool) (f : α → D) {xs : List α} (hl : xs.length < sizeLine)
    (h1 : ∀ x ∈ xs, ∀ (R0 : Prop) (R1 : D → Prop), (p x = false → R0) → (p x = true → R1 (f x)) → dg (enc x) ρ fun ρ1 => dt ρ1 fun b => if b = true then de ρ1 fun z => match z.own with
      | some d => R1 d
      | none => False
    else R0) (h : Q (.n (.l ((xs.filter p).map f)))) : lcGo dg dt de ρ Q (xs.map enc) [] :=
  lc_mapF enc p f xs [] (by simpa using hl) h1 h
theorem lc_each {α : Type} {dg : dG} {de : dE} {ρ : List S} {Q : Z → Prop} (enc : α → D) (f : α → D) {xs : List α} (hl : xs.length < sizeLine)
    (h1 : ∀ x ∈ xs, ∀ (R1 : D → Prop), R1 (f x) → dg (enc x) ρ fun ρ1 => de ρ1 fun z => match z.own with
      | some d => R1 d
      | none => False) (h : Q (.n (.l (xs.map f)))) : lcGo dg dYes de ρ Q (xs.map enc) [] := by
  refine lc_filter enc (fun _ => true) f hl (fun x hx R0 R1 _ k1 => h1 x hx R1 (k1 rfl)) ?_
  have e : xs.filter (fun _ => true) = xs := List.filter_eq_self.mpr fun _ _ => rfl
  rw [e]
  exact h
theorem len_map {α : Type} {f : α → D} {xs : List α} {n : Nat} (h : xs.length ≤ n) : (xs.map f).length ≤ n := by rw [List.length_map]; exact h
theorem upFrom_eq (lo : Int) (n : Nat) : upFrom lo n = (List.range n).map fun (i : Nat) => PyData.int (lo + (i : Int)) := by
  unfold upFrom
  rfl
end Dl

set_option maxHeartbeats 2000000
namespace Dl
open PySem L2
/-- a promise by what holds of its answer -/
def dem (n : Nat) (P : List D → (Z → Prop) → Prop) : FD := fun as Q => as.length = n ∧ ∃ R, P as R ∧ ∀ z, R z → Q z
theorem mon_dem {n : Nat} {P : List D → (Z → Prop) → Prop} : Mon (dem n P) := by
  rintro as Q Q' h ⟨l, R, p, q⟩
  exact ⟨l, R, p, fun z r => h _ (q z r)⟩
theorem len_dem {n : Nat} {P : List D → (Z → Prop) → Prop} : ∀ as Q, dem n P as Q → as.length = n := fun _ _ h => h.1
theorem take_len {α : Type} {xs : List α} {k : Nat} (h : k ≤ xs.length) : (xs.take k).length = k := by rw [List.length_take]; omega
theorem cut_map {α β : Type} (f : α → β) (xs : List α) (lo hi : Option Int) : cutD (xs.map f) lo hi = (cutD xs lo hi).map f := by
  unfold cutD
  rw [List.length_map, List.map_take, List.map_drop]
theorem cut_sub {α : Type} {xs : List α} {lo hi : Option Int} : ∀ x ∈ cutD xs lo hi, x ∈ xs := fun x hx => List.mem_of_mem_drop (List.mem_of_mem_take hx)
theorem cut_len {α : Type} {xs : List α} {lo hi : Option Int} : (cutD xs lo hi).length ≤ xs.length := by
  unfold cutD
  rw [List.length_take, List.length_drop]
  omega
theorem ints_snoc {p : Int → Prop} {xs : List Int} {x : Int} (h : ∀ y ∈ xs, p y) (hx : p x) : ∀ y ∈ xs ++ [x], p y := fun y hy => by
  rcases List.mem_append.mp hy with z | z
  · exact h y z
  · rw [List.mem_singleton.mp z]; exact hx
theorem app_int (xs : List Int) (x : Int) : xs.map PyData.int ++ [.int x] = (xs ++ [x]).map PyData.int := by rw [List.map_append]; rfl
end Dl

set_option maxHeartbeats 2000000
namespace Dl
open PySem L2
/-! ### list * int (a list of our own) -/
def Z.ownL : Z → Option (List D)
  | .b (.l xs) => some xs
  | .n (.l xs) => some xs
  | _ => none
theorem ZIs.ownL {K : PySem.W.Frag} {B H H_0 : Hp} {G : Addr → Prop} {z : Z} {v : V} {xs : List D} (h : ZIs K B H G H_0 z v) (e : z.ownL = some xs) : ∃ a vs, v = .ref a ∧ H a = some (.lst vs) ∧ DqAll K B vs xs := by
  cases z with
  | v d => cases e
  | b s =>
    cases s with
    | no => cases e
    | v d => cases e
    | l ys =>
      cases e
      obtain ⟨R, _, _, a, vs, h1, _, h3, h4⟩ := h
      exact ⟨a, vs, h1, h3, h4⟩
  | n s =>
    cases s with
    | no => cases e
    | v d => cases e
    | l ys =>
      cases e
      obtain ⟨R, _, _, a, vs, h1, _, h3, h4⟩ := h
      exact ⟨a, vs, h1, h3, h4⟩
def dMulA (x y : Z) (Q : Z → Prop) : Prop := match x.ownL, y.data with
  | some xs, some (.int k) => (-(2 ^ 63) ≤ k ∧ k < 2 ^ 63) ∧ xs.length * k.toNat ≤ sizeLine ∧ Q (.n (.l (List.replicate k.toNat xs).flatten))
  | _, _ => dMul x y Q
def rMulA : R2 := fun x y H Q => rMulI x y H Q ∨ rRep x y H Q
theorem op_mulA {X : Cx} : OpR X (binaryOp .Mult) rMulA := OpR.or op_mul op_rep
theorem dps_flat {K : PySem.W.Frag} {B : Hp} {vs : List V} {ds : List D} (h : DqAll K B vs ds) : ∀ n, DqAll K B (List.replicate n vs).flatten (List.replicate n ds).flatten
  | 0 => .nil
  | n + 1 => by
    show DqAll K B (vs ++ (List.replicate n vs).flatten) (ds ++ (List.replicate n ds).flatten)
    exact dps_app h (dps_flat h n)
theorem simR_mulA {K : PySem.W.Frag} : SimR K rMulA dMulA := by
  intro B H G H_0 x y v w Qd Q ok zx zy h k
  unfold dMulA at h
  split at h
  · rename_i xs j e1 e2
    obtain ⟨a, vs, rfl, h1, h2⟩ := zx.ownL e1
    refine .inr ⟨a, j, vs, rfl, dp_int (zy.dp ok.ex e2), h1, h.1.1, h.1.2, by rw [dps_len h2]; exact h.2.1, fun p hp => ?_⟩
    obtain ⟨g, z⟩ := new_list ok hp (dps_flat h2 j.toNat)
    exact k _ _ _ _ g z h.2.2
  · exact .inl (simR_I (fun _ _ _ => .int _) ok zx zy h k)
theorem ce_mulA {X : Cx} {a b : Expr} {ta tb : TE} {da db : dE} {pos : Pos} (ha : CE X a ta da) (hb : CE X b tb db) : CE X (.BinOp a .Mult b pos) (tOp rMulA ta tb) (dOp dMulA da db) := ce_op op_mulA simR_mulA ha hb
/-! ### defs with defaults -/
/-- a value of the written part and its datum -/
def KX (K : PySem.W.Frag) (u : Value) (d : D) : Prop := ∃ v, RelV v u ∧ ∀ H, Dq K H v d
def KXs (K : PySem.W.Frag) (us : List Value) (ds : List D) : Prop := ∃ vs, Vals vs us ∧ ∀ H, DqAll K H vs ds
section
variable {K : PySem.W.Frag}
theorem kx_of {u : Value} {d : D} (h : KD K u d) : KX K u d := kd_dq h
theorem kxs_nil : KXs K [] [] := ⟨[], .nil, fun _ => .nil⟩
theorem kxs_cons {u : Value} {us : List Value} {d : D} {ds : List D} (h : KX K u d) (t : KXs K us ds) : KXs K (u :: us) (d :: ds) := by
  obtain ⟨v, r, q⟩ := h
  obtain ⟨vs, rs, qs⟩ := t
  exact ⟨v :: vs, .cons r rs, fun H => .cons (q H) (qs H)⟩
theorem kx_tup {a : Addr} {dd : Option Addr} {us : Array Value} {n : Nat} {sl : Array (Option Value)} {ds : List D} (hk : K.lookup a = some ⟨.type "tuple", dd, .seq us n, sl⟩) (hs : us.size ≤ sizeLine) (hd : KXs K us.toList ds) : KX K (.ref a) (.tuple ds) := by
  obtain ⟨vs, r, q⟩ := hd
  exact ⟨.ref a, rfl, fun H => .tup (.inr ⟨_, us, n, hk, rfl, rfl, hs, r⟩) (q H)⟩
end
section
variable {P : Program} {w : World} {K : PySem.W.Frag} {mg : Str → Option Value} {base : Heap} {x qual : Str} {st : Stmt} {f : Addr} {fd : FuncData}
/-- a def of the text whose defaults stand for data -/
structure FunX (K : PySem.W.Frag) (x qual : Str) (st : Stmt) (dds : List D) (f : Addr) (fd : FuncData) : Prop where
  ex : ∃ dvs, FunD K x qual (defArgs st) (defBody st) (defScope st) dvs [] f fd ∧ dvs ≠ [] ∧ ∀ H, DqAll K H dvs dds
theorem funx_mk {oc : Value} {od an td : Option Addr} {osl ts : Array (Option Value)} {kV doc pm cdv ct : Value} {T : Addr} {us : Array Value} {n : Nat} {dds : List D}
    (l : K.lookup f = some ⟨oc, od, .func (PySem.W.fnOf x qual (defArgs st) (defBody st) (defScope st) (.ref T) kV doc pm an cdv ct), osl⟩)
    (c : PySem.W.codeIn K cdv qual = true) (k : PySem.W.keepIn K (.ref f) = true) (t : K.lookup T = some ⟨.type "tuple", td, .seq us n, ts⟩) (hd : KXs K us.toList dds) (ne : dds ≠ []) : FunX K x qual st dds f (PySem.W.fnOf x qual (defArgs st) (defBody st) (defScope st) (.ref T) kV doc pm an cdv ct) := by
  obtain ⟨vs, r, q⟩ := hd
  have ne' : vs ≠ [] := fun e => by
    subst e
    have := q (fun _ => none)
    cases this
    exact ne rfl
  exact ⟨vs, ⟨⟨oc, od, .ref T, kV, doc, pm, an, cdv, ct, osl, rfl, l, c, .inr ⟨ne', T, _, us.toList, n, rfl, t, by simp, r⟩, .inl rfl⟩, k⟩, ne', q⟩
theorem FunX.kp {dds : List D} (F : FunX K x qual st dds f fd) : PySem.W.keepIn K (.ref f) = true := by
  obtain ⟨_, h, _⟩ := F.ex
  exact h.kp
theorem fn_dataX {dds : List D} {N ps : List Str} {k : Nat} {F : FD} {ds : dS} (Fn : FunX K x qual st dds f fd) (Sc : FnScope N ps (defScope st))
    (hb : ∀ (cdv : Value) (A : Around) (outer : List Env) (s : Shared) (H : Hp) (E : XK), Room k (A.deeper (PyProof.Rows.envOfC qual (defScope st) s.heap.objs.size f cdv)) → ∃ ts, CSs (cxOf CX0 P w K mg base N qual (defScope st) f cdv A outer s H E).nox (defBody st) ts ds)
    (len : ∀ as Q, F as Q → as.length = ps.length)
    (ok : ∀ as Q, F as Q → ds { nx := fun _ => Q (.v .none), rt := fun z => Q z.fin } (args N.length as)) : FnOk P w K mg base CX0 (k + 1) f fd ps (spV K F) := by
  obtain ⟨dvs, FD0, _, _⟩ := Fn.ex
  obtain ⟨oc, od, dV, kV, doc, pm, an, cdv0, ct, osl, rfl, lk, hcd, _, _⟩ := FD0.ex
  refine fn_of lk hcd Sc (fun vs H Q E h => ?_) fun A outer s H vs Q E hr h => ?_
  · obtain ⟨B, G, as, _, hv, hf⟩ := h
    rw [dps_len hv]
    exact len _ _ hf
  · obtain ⟨B, G, as, o, hv, hf⟩ := h
    obtain ⟨ts, c⟩ := hb cdv0 A outer s H E hr
    refine ⟨ts, c.ps.nox, c.sim.run (rep_start o.ex hv) (ok as _ hf) (fun B' H' G' σ' ρ' x p q => ?_) (fun B' H' G' z v x ex r q => ?_) (fun _ _ _ _ _ _ _ z => z.elim) (fun _ _ _ _ _ _ _ z => z.elim)⟩
    · exact q .non B' H' ⟨x.b, fun a o h => x.keep a o (fun z => z) h, p.ex, fun a h => (x.nw a h).elim .inl fun z => z.elim .inr fun z => z.elim⟩ .non
    · have gr : Gr B H B' H' := ⟨x.b, fun a o h => x.keep a o (fun z => z) h, ex, fun a h => (x.nw a h).elim .inl fun z => z.elim .inr fun z => z.elim⟩
      refine q v B' H' gr ?_
      cases z with
      | v d => exact r
      | b s => obtain ⟨R, r1, n, q1⟩ := r; exact ⟨R, fun a ra => ⟨(r1 a ra).1.elim (fun z => z) (fun z => z.elim), (r1 a ra).2⟩, n, q1⟩
      | n s => obtain ⟨R, r1, n, q1⟩ := r; exact ⟨R, fun a ra => ⟨(r1 a ra).1.elim (fun z => z) (fun z => z.elim), (r1 a ra).2⟩, n, q1⟩
theorem FunX.binds {dds : List D} {ps : List Str} (F : FunX K x qual st dds f fd) (m j : Nat) (hn : m + (dds.length - j) = ps.length)
    (h : ∀ (T : Addr) (kV doc pm : Value) (an : Option Addr) (cdv ct : Value) (us its : List Value), us.length = m → its.length = dds.length →
      ∃ k, bindArgs (PySem.W.fnOf x qual (defArgs st) (defBody st) (defScope st) (.ref T) kV doc pm an cdv ct) ⟨us, []⟩ = seqItems? (.ref T) >>= k ∧ k (some its.toArray) = pure (ps.zip (us ++ its.drop j))) :
    ∃ vs ds, Vals vs ds ∧ Binds K fd ps ds ∧ ∀ H, DqAll K H vs (dds.drop j) := by
  obtain ⟨dvs, F0, ne, q⟩ := F.ex
  have hl : dvs.length = dds.length := dps_len (q fun _ => none)
  obtain ⟨ds, v, b⟩ := F0.binds1 m j ne (by rw [hl]; exact hn) fun T kV doc pm an cdv ct us its h1 h2 => h T kV doc pm an cdv ct us its h1 (by rw [← hl]; exact h2)
  exact ⟨_, _, v, b, fun H => dps_drop _ (q H)⟩
end
end Dl

set_option maxHeartbeats 2000000
namespace Dl
open PySem L2
/-! ### calls with keywords, named in the parameters' order -/
structure CK (X : Cx) (kws : List Keyword) (ta : TA) (dc : dC) : Prop where
  pk : PK X kws ta
  sim : SimC X.K ta dc
theorem ck_nil {X : Cx} : CK X [] tNil dCnil := ⟨pk_nil, sim_cnil⟩
theorem ck_cons {X : Cx} {e : Expr} {te : TE} {de : dE} {kws : List Keyword} {t : TA} {d : dC} {nm} {kpos : Pos} (ha : CE X e te de) (hr : CK X kws t d) : CK X (⟨nm, e, kpos⟩ :: kws) (tCons te t) (dCcons de d) := ⟨pk_cons ha.pe hr.pk, sim_ccons ha.sim hr.sim⟩
def dCallK (f : FD) (n m : Nat) (dc dk : dC) : dE := fun ρ Q => dc ρ fun ds => dk ρ fun es => ds.length = n ∧ es.length = m ∧ f (ds ++ es) Q
theorem sim_callK {K : PySem.W.Frag} {f : FD} {n m : Nat} {E : XK} {ta tk : TA} {dc dk : dC} (hm : Mon f) (h : SimC K ta dc) (hk : SimC K tk dk) : SimE K (tCallN n m (spV K f) (fun vs zs => vs ++ zs) E ta tk) (dCallK f n m dc dk) := by
  refine ⟨fun {B H G σ ρ Qd Q} p q k => ?_⟩
  refine h.run p q fun ds vs B1 H1 g1 z1 h1 => ?_
  refine hk.run (p.gr g1) h1 fun es zs B2 H2 g2 z2 h2 => ?_
  refine ⟨(dps_len z1).trans h2.1, (dps_len z2).trans h2.2.1, B2, G, ds ++ es, (p.gr g1).ok.gr g2, dps_app (dps_mono g2.b _ _ z1) z2, hm _ _ _ (fun z hz => fun v B' H' g' z' => ?_) h2.2.2⟩
  exact k z v B' H' ((g1.trans g2).trans g') (z'.early (g1.trans g2).h) hz
structure HasK (P : Program) (w : World) (K : PySem.W.Frag) (mg : Str → Option Value) (base : Heap) (k : Nat) (x : Str) (ps : List Str) (F : FD) (n : Nat) (ks : List Str) : Prop where
  ex : ∃ f fd, FnOk P w K mg base CX0 k f fd ps (spV K F) ∧ mg x = some (.ref f) ∧ PySem.W.keepIn K (.ref f) = true ∧ KBn K fd ps n ks (fun us ws => us ++ ws) (fun vs zs => vs ++ zs)
  mon : Mon F
theorem ce_hasK {X : Cx} {k k' n m : Nat} {ps ks : List Str} {F : FD} {x : Str} {p pos : Pos} {e : Expr} {es : List Expr} {kws : List Keyword} {t tk : TA} {d dk : dC} (h : HasK X.prog X.w X.K X.mg X.base k x ps F n ks) (hr : Room k' X.A) (hk : k ≤ k') (ha : CC X (e :: es) t d) (hkw : CK X kws tk dk)
    (hm : ks.length = m := by rfl) (hg : Gl X x := by rfl) (hall : (backToKw pos (keywordEach kws X.env)).all (·.1.isSome) = true := by rfl) (hks : (backToKw pos (keywordEach kws X.env)).filterMap (·.1) = ks := by rfl)
    (hdb : (x == ("__debug__" : Str)) = false := by decide) (he : starEach (e :: es) X.env = (false, eval e X.env) :: starEach es X.env := by rfl)
    (hpl : ((backTo pos (starEach (e :: es) X.env)).any (·.1) || (backToKw pos (keywordEach kws X.env)).any (·.1.isNone)) = false := by rfl) :
    CE X (.Call (.Name x p) (e :: es) kws pos) (tCallN n m (spV X.K F) (fun vs zs => vs ++ zs) E0 t tk) (dCallK F n m d dk) := by
  subst hm
  obtain ⟨f, fd, G, hm, kp, b⟩ := h.ex
  exact ⟨pe_callN G (hr.mono hk) hg hm kp b pass0 ha.pa hkw.pk hall hks hdb he hpl, sim_callK h.mon ha.sim hkw.sim⟩
section
variable {K : PySem.W.Frag} {x qual : Str} {st : Stmt} {f : Addr} {fd : FuncData}
theorem FunX.kbn {dds : List D} {ps : List Str} (F : FunX K x qual st dds f fd) (n : Nat) (ks : List Str)
    (h : ∀ (T : Addr) (kV doc pm : Value) (an : Option Addr) (cdv ct : Value) (us its ws : List Value), us.length = n → its.length = dds.length → ws.length = ks.length →
      ∃ k, bindArgs (PySem.W.fnOf x qual (defArgs st) (defBody st) (defScope st) (.ref T) kV doc pm an cdv ct) ⟨us, ks.zip ws⟩ = seqItems? (.ref T) >>= k ∧ k (some its.toArray) = pure (ps.zip (us ++ ws))) :
    KBn K fd ps n ks (fun us ws => us ++ ws) (fun vs zs => vs ++ zs) := by
  obtain ⟨dvs, F0, ne, q⟩ := F.ex
  have hl : dvs.length = dds.length := dps_len (q fun _ => none)
  obtain ⟨oc, od, dV, kV, doc, pm, an, cdv, ct, osl, rfl, lk, hcd, hD, hK⟩ := F0.ex
  rcases hD with ⟨e, _⟩ | ⟨_, T, o, its, m, rfl, lT, oT, rT⟩
  · exact absurd e ne
  · refine ⟨fun s us ws X l1 l2 => ?_, fun r1 r2 => r1.append r2⟩
    obtain ⟨k, e1, e2⟩ := h T kV doc pm an cdv ct us its ws l1 (rT.length.symm.trans hl) l2
    refine BindsTo.of_looks fun M => ?_
    rw [e1]
    exact looks_items X lT oT (.of_pure e2)
end
end Dl

set_option maxHeartbeats 4000000
namespace My
open PySem L2 Dl
def topS (i : Nat) : Stmt := PySem.Challenge.pw_majordomo_k02_checksum_of_joined_rows.main.body.getD i (.Pass ⟨0, 0, 0, 0⟩)
abbrev s_checksum : Stmt := topS 2
abbrev n_checksum : List Str := ["row", "start", "first", "second", "byte"]
abbrev p_checksum : List Str := ["row", "start"]
theorem sc_checksum : FnScope n_checksum p_checksum (defScope s_checksum) := ⟨rfl, rfl, rfl, by decide +kernel, rfl, by decide +kernel, by decide +kernel⟩
abbrev dd_checksum : List D := []
abbrev dx_checksum : List D := [(.tuple [(.int 1), (.int 1)])]
abbrev dd_checksum_0 : List D := []
abbrev dd_checksum_1 : List D := [(.tuple [(.int 1), (.int 1)])]
abbrev s_check_bytes : Stmt := topS 3
abbrev n_check_bytes : List Str := ["pair", "first", "second"]
abbrev p_check_bytes : List Str := ["pair"]
theorem sc_check_bytes : FnScope n_check_bytes p_check_bytes (defScope s_check_bytes) := ⟨rfl, rfl, rfl, by decide +kernel, rfl, by decide +kernel, by decide +kernel⟩
abbrev dd_check_bytes : List D := []
abbrev s__law_is_integer : Stmt := topS 5
abbrev n__law_is_integer : List Str := ["_law_actual"]
abbrev p__law_is_integer : List Str := ["_law_actual"]
theorem sc__law_is_integer : FnScope n__law_is_integer p__law_is_integer (defScope s__law_is_integer) := ⟨rfl, rfl, rfl, by decide +kernel, rfl, by decide +kernel, by decide +kernel⟩
abbrev dd__law_is_integer : List D := []
abbrev s__law_draws : Stmt := topS 6
abbrev n__law_draws : List Str := ["_law_script", "_law_many", "_law_draws_here", "_law_mixed", "_law_k", "_law_cell", "_law_rest", "_law_turn"]
abbrev p__law_draws : List Str := ["_law_script", "_law_many"]
theorem sc__law_draws : FnScope n__law_draws p__law_draws (defScope s__law_draws) := ⟨rfl, rfl, rfl, by decide +kernel, rfl, by decide +kernel, by decide +kernel⟩
abbrev dd__law_draws : List D := []
abbrev s__law_sums : Stmt := topS 7
abbrev n__law_sums : List Str := ["_law_row", "_law_first", "_law_second", "_law_byte"]
abbrev p__law_sums : List Str := ["_law_row", "_law_first", "_law_second"]
theorem sc__law_sums : FnScope n__law_sums p__law_sums (defScope s__law_sums) := ⟨rfl, rfl, rfl, by decide +kernel, rfl, by decide +kernel, by decide +kernel⟩
abbrev dd__law_sums : List D := []
abbrev s__law_equal : Stmt := topS 8
abbrev n__law_equal : List Str := ["_law_actual", "_law_expected"]
abbrev p__law_equal : List Str := ["_law_actual", "_law_expected"]
theorem sc__law_equal : FnScope n__law_equal p__law_equal (defScope s__law_equal) := ⟨rfl, rfl, rfl, by decide +kernel, rfl, by decide +kernel, by decide +kernel⟩
abbrev dd__law_equal : List D := []
abbrev s_law : Stmt := topS 9
abbrev n_law : List Str := ["_law_script", "_law_draws_here", "_law_one", "_law_draw", "_law_two", "_law_passed", "_law_first", "_law_second", "_law_third", "_law_sums_here", "_law_joined", "_law_actual", "_law_byte"]
abbrev p_law : List Str := ["_law_script"]
theorem sc_law : FnScope n_law p_law (defScope s_law) := ⟨rfl, rfl, rfl, by decide +kernel, rfl, by decide +kernel, by decide +kernel⟩
abbrev dd_law : List D := []

abbrev c_MODULUS : D := (.int 65521)
/-- what the walk asks of the top -/
structure Txt (K : PySem.W.Frag) (mg : Str → Option Value) : Prop where
  b_abs : mg "abs" = none
  b_bool : mg "bool" = none
  b_int : mg "int" = none
  b_isinstance : mg "isinstance" = none
  b_len : mg "len" = none
  b_list : mg "list" = none
  b_range : mg "range" = none
  b_tuple : mg "tuple" = none
  c_MODULUS : Gc K mg "MODULUS" c_MODULUS

abbrev okD (xs : List Int) : Prop := ∀ x ∈ xs, 0 ≤ x ∧ x < 997
def P_draws (as : List D) (R : Z → Prop) : Prop := ∃ (ns : List Int) (m : Int), as = [scrD ns, .int m] ∧ ns.length ≤ 63 ∧ (0 ≤ m ∧ m ≤ 1000) ∧ R = fun z => ∃ xs : List Int, xs.length = m.toNat ∧ okD xs ∧ z = .n (.l (xs.map .int))
def F__law_draws : FD := dem 2 P_draws
def b__law_draws_L26 : dS := (dApp 2 (dOp dMod (dOp dMod (dCall (dL1 fInt) (dCons (dOp dAdd (dOp dMulA (dVar 3) (dK (.int 69621))) (dK (.int 5))) dNil)) (dK (.int 65521))) (dK (.int 997))))
def b__law_draws_L30 : dS := (dSet 6 (dOp dFdiv (dVar 6) (dK (.int 997))))
def b__law_draws_B27 : dS := (dIf (dTst (dOp dGt (dVar 6) (dK (.int 0)))) (dSeq (dApp 2 (dOp dMod (dCall (dL1 fInt) (dCons (dVar 6) dNil)) (dK (.int 997)))) b__law_draws_L30) dNext)
def b__law_draws_L27 : dS := (dFor (dRng1 (dCons (dK (.int 60)) dNil)) (dgName 7) b__law_draws_B27)
def b__law_draws_L22 : dS := (dSeq (dIf (dTst (dOp dGe (dVar 5) (dOp dPow (dK (.int 10)) (dK (.int 18))))) (dSet 6 (dVar 5)) (dSeq (dApp 2 (dOp dMod (dVar 5) (dK (.int 997)))) b__law_draws_L26)) b__law_draws_L27)
def b__law_draws_L21 : dS := (dSeq (dSet 6 (dK (.int 0))) b__law_draws_L22)
def b__law_draws_L20 : dS := (dSeq (dSet 3 (dOp dMod (dCall (dL1 fInt) (dCons (dOp dAdd (dOp dAdd (dOp dMulA (dVar 3) (dK (.int 48271))) (dOp dMod (dVar 5) (dK (.int 1000003)))) (dVar 4)) dNil)) (dK (.int 65537)))) b__law_draws_L21)
def b__law_draws_B18 : dS := (dSeq (dSet 5 (dCall (dL1 fAbs) (dCons (dCall (dL1 fInt) (dCons (dOp dIx (dVar 0) (dVar 4)) dNil)) dNil))) b__law_draws_L20)
def b__law_draws_L33 : dS := (dApp 2 (dOp dMod (dCall (dL1 fInt) (dCons (dVar 3) dNil)) (dK (.int 997))))
def b__law_draws_B31 : dS := (dSeq (dSet 3 (dOp dMod (dCall (dL1 fInt) (dCons (dOp dAdd (dOp dAdd (dOp dMulA (dVar 3) (dK (.int 16807))) (dVar 4)) (dK (.int 1))) dNil)) (dK (.int 65537)))) b__law_draws_L33)
def b__law_draws_L34 : dS := (dRet (dSl (dVar 2) dOnone (dOsome (dVar 1))))
def b__law_draws_L31 : dS := (dSeq (dFor (dRng1 (dCons (dVar 1) dNil)) (dgName 4) b__law_draws_B31) b__law_draws_L34)
def b__law_draws_L18 : dS := (dSeq (dFor (dRng1 (dCons (dCall (dL1 fLen) (dCons (dVar 0) dNil)) dNil)) (dgName 4) b__law_draws_B18) b__law_draws_L31)
def b__law_draws_L17 : dS := (dSeq (dSet 3 (dK (.int 7))) b__law_draws_L18)
def b__law_draws : dS := (dSeq (dSet 2 (dLstD dCnil)) b__law_draws_L17)

theorem mod997 (x : Int) : 0 ≤ x % 997 ∧ x % 997 < 997 := ⟨Int.emod_nonneg _ (by decide), Int.emod_lt_of_pos _ (by decide)⟩
theorem szI {xs : List Int} (h : xs.length ≤ 50000) : (xs.map PyData.int).length < sizeLine := by rw [List.length_map]; exact szLt (by omega)
theorem dr48 (E : DE) (sc s3 s4 s5 : S) (m r : Int) (xs : List Int) (s7 : S) (hx : okD xs) (hl : xs.length ≤ 40000) (h : ∀ xs' s6' s7', okD xs' → xs'.length ≤ xs.length + 60 → E.nx [sc, .v (.int m), .l (xs'.map .int), s3, s4, s5, s6', s7']) :
    b__law_draws_L27 E [sc, .v (.int m), .l (xs.map .int), s3, s4, s5, .v (.int r), s7] := by
  refine ⟨⟨by decide, by decide⟩, fun i ρ => i ≤ 60 ∧ ∃ ys r s7, okD ys ∧ ys.length ≤ xs.length + i ∧ ρ = [sc, .v (.int m), .l (ys.map .int), s3, s4, s5, .v (.int r), s7], ⟨by omega, _, _, _, hx, by omega, rfl⟩, ?_, ?_⟩
  · rintro i x ρ hx ⟨h60, ys, r, s7, hy, hyl, rfl⟩
    obtain ⟨hi, rfl⟩ := upFrom_get hx
    have hi : i < 60 := hi
    refine ite3 (fun h1 => ⟨p0, szI (by omega), cdiv, ?_⟩) (fun h1 => ?_)
    · exact ⟨by omega, ys ++ [r % 997], _, _, ints_snoc hy (mod997 r), by rw [List.length_append, List.length_singleton]; omega, by rw [← app_int]; rfl⟩
    · exact ⟨by omega, ys, _, _, hy, by omega, rfl⟩
  · rintro ρ ⟨h60, ys, r, s7, hy, hyl, rfl⟩
    refine h ys _ _ hy ?_
    have : (upFrom 0 (60 : Int).toNat).length = 60 := upFrom_length
    omega
theorem dr41 (E : DE) (sc : S) (m k c mx : Int) (xs : List Int) (s6 s7 : S) (hx : okD xs) (hl : xs.length ≤ 30000) (h : ∀ xs' mx' s6' s7', okD xs' → xs'.length ≤ xs.length + 62 → E.nx [sc, .v (.int m), .l (xs'.map .int), .v (.int mx'), .v (.int k), .v (.int c), s6', s7']) :
    b__law_draws_L20 E [sc, .v (.int m), .l (xs.map .int), .v (.int mx), .v (.int k), .v (.int c), s6, s7] := by
  refine ⟨cmulR, p0, p0, ?_⟩
  show b__law_draws_L21 E [sc, .v (.int m), .l (xs.map .int), .v (.int ((mx * 48271 + c % 1000003 + k) % 65537)), .v (.int k), .v (.int c), s6, s7]
  generalize (mx * 48271 + c % 1000003 + k) % 65537 = mx
  refine ⟨cpow, ite3 (fun h1 => ?_) (fun h1 => ⟨p0, szI (by omega), cmulR, p0, p0, ?_⟩)⟩
  · exact dr48 E sc _ _ _ m c xs s7 hx (by omega) fun xs' s6' s7' a b => h xs' _ _ _ a (by omega)
  · refine ⟨by rw [List.length_append, List.length_singleton, List.length_map]; exact szLt (by omega), ?_⟩
    show b__law_draws_L27 E [sc, .v (.int m), .l ((xs.map PyData.int ++ [.int (c % 997)]) ++ [.int ((mx * 69621 + 5) % 65521 % 997)]), .v (.int mx), .v (.int k), .v (.int c), .v (.int 0), s7]
    rw [app_int, app_int]
    exact dr48 E sc _ _ _ m 0 _ s7 (ints_snoc (ints_snoc hx (mod997 _)) (mod997 _)) (by simp; omega) fun xs' s6' s7' a b => h xs' _ _ _ a (by simp at b; omega)
theorem sem__law_draws : ∀ as Q, F__law_draws as Q → b__law_draws (fE Q) (args n__law_draws.length as) := by
  rintro as Q ⟨_, _, ⟨ns, m, rfl, hn, hm, rfl⟩, h⟩
  refine ⟨sk, ⟨by rw [List.length_map]; omega, by rw [List.length_map]; omega⟩, fun i ρ => ∃ xs mx s4 s5 s6 s7, okD xs ∧ xs.length ≤ 62 * i ∧ ρ = [.v (scrD ns), .v (.int m), .l (xs.map .int), .v (.int mx), s4, s5, s6, s7], ⟨[], _, _, _, _, _, (fun _ h => nomatch h), Nat.le_refl _, rfl⟩, ?_, ?_⟩
  · rintro i x ρ hx ⟨xs, mx, s4, s5, s6, s7, hxs, hxl, rfl⟩
    obtain ⟨hi, rfl⟩ := upFrom_get hx
    rw [List.length_map] at hi
    have hi : i < ns.length := by simpa using hi
    refine ⟨_, atI_ints (by omega) (by omega), ?_⟩
    exact dr41 _ _ m _ _ mx xs s6 s7 hxs (by omega) fun xs' mx' s6' s7' a b => ⟨xs', _, _, _, _, _, a, by omega, rfl⟩
  · rintro ρ ⟨xs, mx, s4, s5, s6, s7, hxs, hxl, rfl⟩
    have hxl : xs.length ≤ 62 * ns.length := by
      rw [upFrom_length, List.length_map] at hxl
      simpa using hxl
    refine ⟨⟨by omega, by omega⟩, fun i ρ => i ≤ m.toNat ∧ ∃ ys mx s4, okD ys ∧ ys.length = xs.length + i ∧ ρ = [.v (scrD ns), .v (.int m), .l (ys.map .int), .v (.int mx), s4, s5, s6, s7], ⟨by omega, xs, _, _, hxs, rfl, rfl⟩, ?_, ?_⟩
    · rintro i x ρ hx ⟨h60, ys, mx, s4, hy, hyl, rfl⟩
      obtain ⟨hi, rfl⟩ := upFrom_get hx
      refine ⟨cmulR, p0, p0, szI (by omega), ?_⟩
      exact ⟨by omega, ys ++ [_ % 997], _, _, ints_snoc hy (mod997 _), by rw [List.length_append, List.length_singleton]; omega, by rw [← app_int]; rfl⟩
    · rintro ρ ⟨h60, ys, mx, s4, hy, hyl, rfl⟩
      rw [upFrom_length] at hyl
      refine h _ ⟨ys.take m.toNat, take_len (by omega), fun x hx => hy x (List.mem_of_mem_take hx), ?_⟩
      show Z.n (.l (cutD (ys.map PyData.int) none (some m))) = _
      rw [cut_map]
      unfold cutD
      rw [show (some m : Option Int) = some ((m.toNat : Nat) : Int) by rw [show ((m.toNat : Nat) : Int) = m by omega], HT.sIx_nat, HT.sIx_none, List.drop_zero, Nat.min_eq_left (by omega)]
      rfl

/-- checksum's steps -/
def cstep (s : Int × Int) (x : Int) : Int × Int := ((s.1 + x + 1) % 65521, (s.2 + (s.1 + x + 1) % 65521) % 65521)
def chk (a b : Int) (xs : List Int) : Int × Int := xs.foldl cstep (a, b)
theorem chk_snoc (a b : Int) (xs : List Int) (x : Int) : chk a b (xs ++ [x]) = cstep (chk a b xs) x := by unfold chk; rw [List.foldl_append]; rfl
def F_checksum : FD := det 2 fun as z => ∃ (xs : List Int) (a b : Int), as = [.list (xs.map .int), .tuple [.int a, .int b]] ∧ z = .v (.tuple [.int (chk a b xs).1, .int (chk a b xs).2])
def b_checksum_L7 : dS := (dSet 3 (dOp dMod (dOp dAdd (dVar 3) (dVar 2)) (dK c_MODULUS)))
def b_checksum_B5 : dS := (dSeq (dSet 2 (dOp dMod (dOp dAdd (dOp dAdd (dVar 2) (dVar 4)) (dK (.int 1))) (dK c_MODULUS))) b_checksum_L7)
def b_checksum_L8 : dS := (dRet (dTupD (dCcons (dVar 2) (dCcons (dVar 3) dCnil))))
def b_checksum_L5 : dS := (dSeq (dFor (dItems (dVar 0)) (dgName 4) b_checksum_B5) b_checksum_L8)
def b_checksum : dS := (dSeq (dUnp (dVar 1) (dgTup 2 (dgCons (dgName 2) (dgCons (dgName 3) dgNil)))) b_checksum_L5)

theorem sem_checksum : ∀ as Q, F_checksum as Q → b_checksum (fE Q) (args n_checksum.length as) := by
  rintro as Q ⟨_, _, ⟨xs, a, b, rfl, rfl⟩, h⟩
  refine ⟨rfl, rfl, fun i ρ => ∃ s4, ρ = [.v (.list (xs.map .int)), .v (.tuple [.int a, .int b]), .v (.int (chk a b (xs.take i)).1), .v (.int (chk a b (xs.take i)).2), s4], ⟨_, rfl⟩, ?_, ?_⟩
  · rintro i x ρ hx ⟨s4, rfl⟩
    obtain ⟨c, hc, rfl⟩ := get_map hx
    exact ⟨p0, p0, _, by rw [take_last hc, chk_snoc]; rfl⟩
  · rintro ρ ⟨s4, rfl⟩
    rw [List.length_map, List.take_length]
    exact ⟨sk, h⟩

abbrev tp (p : Int × Int) : D := .tuple [.int p.1, .int p.2]
def four (p : Int × Int) : List Int := [p.1 % 256, p.1 / 256, p.2 % 256, p.2 / 256]
def F_check_bytes : FD := det 1 fun as z => ∃ p : Int × Int, as = [tp p] ∧ z = .n (.l ((four p).map .int))
def b_check_bytes_L11 : dS := (dRet (dLstD (dCcons (dOp dMod (dVar 1) (dK (.int 256))) (dCcons (dOp dFdiv (dVar 1) (dK (.int 256))) (dCcons (dOp dMod (dVar 2) (dK (.int 256))) (dCcons (dOp dFdiv (dVar 2) (dK (.int 256))) dCnil))))))
def b_check_bytes : dS := (dSeq (dUnp (dVar 0) (dgTup 2 (dgCons (dgName 1) (dgCons (dgName 2) dgNil)))) b_check_bytes_L11)

theorem sem_check_bytes : ∀ as Q, F_check_bytes as Q → b_check_bytes (fE Q) (args n_check_bytes.length as) := by
  rintro as Q ⟨_, _, ⟨p, rfl, rfl⟩, h⟩
  exact ⟨rfl, rfl, p0, cdiv, p0, cdiv, sk, h⟩
def F__law_is_integer : FD := det 1 P_isint
def b__law_is_integer : dS := (dRet (dAndE (dIsi "int" (dVar 0)) (dNotE (dIsi "bool" (dVar 0)))))

theorem sem__law_is_integer : ∀ as Q, F__law_is_integer as Q → b__law_is_integer (fE Q) (args n__law_is_integer.length as) := by
  rintro as Q ⟨_, _, ⟨n, rfl, rfl⟩, h⟩
  exact ⟨isi_int _, isi_bool _, h⟩
def F__law_sums : FD := det 3 fun as z => ∃ (xs : List Int) (a b : Int), as = [.list (xs.map .int), .int a, .int b] ∧ z = .v (tp (chk a b xs))
def b__law_sums_L38 : dS := (dSet 2 (dOp dMod (dCall (dL1 fInt) (dCons (dOp dAdd (dVar 2) (dVar 1)) dNil)) (dK (.int 65521))))
def b__law_sums_B36 : dS := (dSeq (dSet 1 (dOp dMod (dCall (dL1 fInt) (dCons (dOp dAdd (dOp dAdd (dVar 1) (dVar 3)) (dK (.int 1))) dNil)) (dK (.int 65521)))) b__law_sums_L38)
def b__law_sums_L39 : dS := (dRet (dTupD (dCcons (dVar 1) (dCcons (dVar 2) dCnil))))
def b__law_sums : dS := (dSeq (dFor (dItems (dVar 0)) (dgName 3) b__law_sums_B36) b__law_sums_L39)

theorem sem__law_sums : ∀ as Q, F__law_sums as Q → b__law_sums (fE Q) (args n__law_sums.length as) := by
  rintro as Q ⟨_, _, ⟨xs, a, b, rfl, rfl⟩, h⟩
  refine ⟨fun i ρ => ∃ s3, ρ = [.v (.list (xs.map .int)), .v (.int (chk a b (xs.take i)).1), .v (.int (chk a b (xs.take i)).2), s3], ⟨_, rfl⟩, ?_, ?_⟩
  · rintro i x ρ hx ⟨s3, rfl⟩
    obtain ⟨c, hc, rfl⟩ := get_map hx
    exact ⟨p0, p0, _, by rw [take_last hc, chk_snoc]; rfl⟩
  · rintro ρ ⟨s3, rfl⟩
    rw [List.length_map, List.take_length]
    exact ⟨sk, h⟩
theorem nice_ints (xs : List Int) : nice 1 (.list (xs.map .int)) := nice_list (nice_map fun _ _ => nice_int)
theorem nice_pair (p : Int × Int) : nice 1 (tp p) := nice_tuple (nice_cons nice_int (nice_cons nice_int nice_nil))
def F__law_equal : FD := det 2 fun as z => ∃ p : Int × Int, as = [tp p, tp p] ∧ z = .v (.bool true)
def b__law_equal_L43 : dS := (dRet (dAndE (dCallF F__law_is_integer dd__law_is_integer (dCcons (dOp dIx (dVar 0) (dK (.int 0))) dCnil)) (dAndE (dCallF F__law_is_integer dd__law_is_integer (dCcons (dOp dIx (dVar 0) (dK (.int 1))) dCnil)) (dOp dEq (dVar 0) (dVar 1)))))
def b__law_equal : dS := (dSeq (dIf (dOrT (dNotT (dTru (dIsi "tuple" (dVar 0)))) (dTst (dOp dNe (dCall (dL1 fLen) (dCons (dVar 0) dNil)) (dK (.int 2))))) (dRet (dK (.bool false))) dNext) b__law_equal_L43)

theorem sem__law_equal : ∀ as Q, F__law_equal as Q → b__law_equal (fE Q) (args n__law_equal.length as) := by
  rintro as Q ⟨_, _, ⟨p, rfl, rfl⟩, h⟩
  refine ⟨isi_tuple _, _, rfl, rfl, _, ⟨_, rfl, rfl⟩, _, rfl, rfl, _, ⟨_, rfl, rfl⟩, shaped_of (nice_pair _), shaped_of (nice_pair _), ?_⟩
  rw [eqv_nice (nice_pair _)]
  exact h
def b_law_B65 : dS := (dIf (dNotT (dTru (dCallF F__law_is_integer dd__law_is_integer (dCcons (dVar 12) dCnil)))) (dRet (dK (.bool false))) dNext)
def b_law_L68 : dS := (dRet (dOp dEq (dVar 11) (dLstD (dCcons (dOp dMod (dOp dIx (dVar 10) (dK (.int 0))) (dK (.int 256))) (dCcons (dOp dFdiv (dOp dIx (dVar 10) (dK (.int 0))) (dK (.int 256))) (dCcons (dOp dMod (dOp dIx (dVar 10) (dK (.int 1))) (dK (.int 256))) (dCcons (dOp dFdiv (dOp dIx (dVar 10) (dK (.int 1))) (dK (.int 256))) dCnil)))))))
def b_law_L65 : dS := (dSeq (dFor (dItems (dVar 11)) (dgName 12) b_law_B65) b_law_L68)
def b_law_L63 : dS := (dSeq (dIf (dOrT (dNotT (dTru (dIsi "list" (dVar 11)))) (dTst (dOp dNe (dCall (dL1 fLen) (dCons (dVar 11) dNil)) (dK (.int 4))))) (dRet (dK (.bool false))) dNext) b_law_L65)
def b_law_L62 : dS := (dSeq (dSet 11 (dCallF F_check_bytes dd_check_bytes (dCcons (dVar 10) dCnil))) (dFrz 11 b_law_L63))
def b_law_L60 : dS := (dSeq (dIf (dOrT (dNotT (dTru (dCallF F__law_equal dd__law_equal (dCcons (dCallF F_checksum dd_checksum_1 (dCcons (dOp dAdd (dVar 2) (dVar 4)) dCnil)) (dCcons (dVar 10) dCnil))))) (dNotT (dTru (dCallF F__law_equal dd__law_equal (dCcons (dVar 8) (dCcons (dCallF F__law_sums dd__law_sums (dCcons (dVar 4) (dCcons (dOp dIx (dVar 1) (dK (.int 2))) (dCcons (dOp dIx (dVar 1) (dK (.int 3))) dCnil)))) dCnil)))))) (dRet (dK (.bool false))) dNext) b_law_L62)
def b_law_L58 : dS := (dSeq (dIf (dOrT (dNotT (dTru (dCallF F__law_equal dd__law_equal (dCcons (dVar 6) (dCcons (dVar 9) dCnil))))) (dNotT (dTru (dCallF F__law_equal dd__law_equal (dCcons (dVar 7) (dCcons (dVar 10) dCnil)))))) (dRet (dK (.bool false))) dNext) b_law_L60)
def b_law_L57 : dS := (dSeq (dSet 10 (dCallF F__law_sums dd__law_sums (dCcons (dOp dAdd (dVar 2) (dVar 4)) (dCcons (dK (.int 1)) (dCcons (dK (.int 1)) dCnil))))) b_law_L58)
def b_law_L56 : dS := (dSeq (dSet 9 (dCallF F__law_sums dd__law_sums (dCcons (dVar 2) (dCcons (dK (.int 1)) (dCcons (dK (.int 1)) dCnil))))) b_law_L57)
def b_law_L54 : dS := (dSeq (dIf (dOrT (dTst (dOp dNe (dOp dIx (dVar 5) (dK (.int 0))) (dVar 2))) (dTst (dOp dNe (dOp dIx (dVar 5) (dK (.int 1))) (dVar 4)))) (dRet (dK (.bool false))) dNext) b_law_L56)
def b_law_L53 : dS := (dSeq (dSet 8 (dCallK F_checksum 1 1 (dCcons (dOp dIx (dVar 5) (dK (.int 1))) dCnil) (dCcons (dTupD (dCcons (dOp dIx (dVar 1) (dK (.int 2))) (dCcons (dOp dIx (dVar 1) (dK (.int 3))) dCnil))) dCnil))) b_law_L54)
def b_law_L52 : dS := (dSeq (dSet 7 (dCallF F_checksum dd_checksum_0 (dCcons (dOp dIx (dVar 5) (dK (.int 1))) (dCcons (dVar 6) dCnil)))) b_law_L53)
def b_law_L51 : dS := (dSeq (dSet 6 (dCallF F_checksum dd_checksum_1 (dCcons (dOp dIx (dVar 5) (dK (.int 0))) dCnil))) b_law_L52)
def b_law_L50 : dS := (dSeq (dSet 5 (dLstD (dCcons (dCall (dL1 fList) (dCons (dVar 2) dNil)) (dCcons (dCall (dL1 fList) (dCons (dVar 4) dNil)) dCnil)))) (dFrz 5 b_law_L51))
def b_law_L48 : dS := (dSeq (dIf (dTst (dOp dEq (dOp dMod (dOp dIx (dVar 1) (dK (.int 2))) (dK (.int 5))) (dK (.int 3)))) (dSet 2 (dOp dMulA (dVar 2) (dOp dAdd (dK (.int 1)) (dOp dMod (dOp dIx (dVar 1) (dK (.int 3))) (dK (.int 100)))))) dNext) (dFrz 2 b_law_L50))
def b_law_L47 : dS := (dSeq (dSet 4 (dLc (dItems (dSl (dVar 1) (dOsome (dK (.int 64))) (dOsome (dOp dAdd (dK (.int 64)) (dOp dMod (dOp dIx (dVar 1) (dK (.int 1))) (dK (.int 60))))))) (dgName 3) dYes (dOp dMod (dCall (dL1 fInt) (dCons (dVar 3) dNil)) (dK (.int 256))) [3])) (dFrz 4 b_law_L48))
def b_law_L46 : dS := (dSeq (dSet 2 (dLc (dItems (dSl (dVar 1) (dOsome (dK (.int 4))) (dOsome (dOp dAdd (dK (.int 4)) (dOp dMod (dOp dIx (dVar 1) (dK (.int 0))) (dK (.int 61))))))) (dgName 3) dYes (dOp dMod (dCall (dL1 fInt) (dCons (dVar 3) dNil)) (dK (.int 256))) [3])) b_law_L47)
def b_law : dS := (dSeq (dSet 1 (dCallF F__law_draws dd__law_draws (dCcons (dVar 0) (dCcons (dK (.int 124)) dCnil)))) (dFrz 1 b_law_L46))

theorem join (xs ys : List Int) : chk 1 1 (xs ++ ys) = chk (chk 1 1 xs).1 (chk 1 1 xs).2 ys := by unfold chk; rw [List.foldl_append]
theorem t62 (Q : Z → Prop) (h : Q (.v (.bool true))) (p : Int × Int) (s0 s1 s2 s3 s4 s5 s6 s7 s8 s9 s11 s12 : S) : b_law_L62 (fE Q) [s0, s1, s2, s3, s4, s5, s6, s7, s8, s9, .v (tp p), s11, s12] := by
  refine ⟨rfl, _, ⟨p, rfl, rfl⟩, isi_list _, ?_⟩
  show b_law_L65 (fE Q) [s0, s1, s2, s3, s4, s5, s6, s7, s8, s9, .v (tp p), .v (.list ((four p).map .int)), s12]
  refine ⟨fun i ρ => ∃ s12, ρ = [s0, s1, s2, s3, s4, s5, s6, s7, s8, s9, .v (tp p), .v (.list ((four p).map .int)), s12], ⟨_, rfl⟩, ?_, ?_⟩
  · rintro i x ρ hx ⟨s12, rfl⟩
    obtain ⟨c, hc, rfl⟩ := get_map hx
    exact ⟨rfl, _, ⟨c, rfl, rfl⟩, _, rfl⟩
  · rintro ρ ⟨s12, rfl⟩
    refine ⟨_, rfl, p0, _, rfl, cdiv, _, rfl, p0, _, rfl, cdiv, sk, shaped_of (nice_ints (four p)), shaped_of (nice_ints (four p)), ?_⟩
    have e := eqv_nice (nice_ints (four p))
    have h' : Q (.v (.bool (PyData.eqv (.list ((four p).map .int)) (.list ((four p).map .int))))) := by rw [e]; exact h
    exact h'
theorem t58 (Q : Z → Prop) (h : Q (.v (.bool true))) (ds xs ys : List Int) (hd : ds.length = 124) (hx : xs.length ≤ 6100) (hy : ys.length ≤ 60) (s0 s3 s5 s11 s12 : S) :
    b_law_L58 (fE Q) [s0, .v (.list (ds.map .int)), .v (.list (xs.map .int)), s3, .v (.list (ys.map .int)), s5, .v (tp (chk 1 1 xs)), .v (tp (chk (chk 1 1 xs).1 (chk 1 1 xs).2 ys)), .v (tp (chk (ds.getD 2 0) (ds.getD 3 0) ys)), .v (tp (chk 1 1 xs)), .v (tp (chk 1 1 (xs ++ ys))), s11, s12] := by
  have a2 : atI (ds.map PyData.int) 2 = some (.int (ds.getD 2 0)) := atI_ints (by decide) (by omega)
  have a3 : atI (ds.map PyData.int) 3 = some (.int (ds.getD 3 0)) := atI_ints (by decide) (by omega)
  have sz : (xs.map PyData.int).length + (ys.map PyData.int).length ≤ sizeLine := szOk (by rw [List.length_map, List.length_map]; omega)
  have sz2 : (xs.map PyData.int).length + (ys.map PyData.int).length ≤ sizeLine := sz
  refine ⟨rfl, _, ⟨chk 1 1 xs, rfl, rfl⟩, rfl, _, ⟨chk 1 1 (xs ++ ys), by rw [join]; rfl, rfl⟩, ?_⟩
  refine ⟨sz, rfl, _, ⟨xs ++ ys, 1, 1, by rw [List.map_append]; rfl, rfl⟩, rfl, _, ⟨chk 1 1 (xs ++ ys), rfl, rfl⟩, _, a2, _, a3, rfl, _, ⟨ys, _, _, rfl, rfl⟩, rfl, _, ⟨_, rfl, rfl⟩, ?_⟩
  exact t62 Q h _ _ _ _ _ _ _ _ _ _ _ _ _
theorem t50 (Q : Z → Prop) (h : Q (.v (.bool true))) (ds xs ys : List Int) (hd : ds.length = 124) (hx : xs.length ≤ 6100) (hy : ys.length ≤ 60) (s0 s3 s5 s6 s7 s8 s9 s10 s11 s12 : S) :
    b_law_L50 (fE Q) [s0, .v (.list (ds.map .int)), .v (.list (xs.map .int)), s3, .v (.list (ys.map .int)), s5, s6, s7, s8, s9, s10, s11, s12] := by
  have a2 : atI (ds.map PyData.int) 2 = some (.int (ds.getD 2 0)) := atI_ints (by decide) (by omega)
  have a3 : atI (ds.map PyData.int) 3 = some (.int (ds.getD 3 0)) := atI_ints (by decide) (by omega)
  have sz : (xs.map PyData.int).length + (ys.map PyData.int).length ≤ sizeLine := szOk (by rw [List.length_map, List.length_map]; omega)
  refine ⟨sk, _, rfl, rfl, _, ⟨xs, 1, 1, rfl, rfl⟩, _, rfl, rfl, _, ⟨ys, _, _, rfl, rfl⟩, _, rfl, _, a2, _, a3, sk, rfl, rfl, rfl, _, ⟨ys, _, _, rfl, rfl⟩, _, rfl, shaped_of (nice_ints _), shaped_of (nice_ints _), ?_⟩
  rw [eqv_nice (nice_ints _)]
  refine ⟨_, rfl, shaped_of (nice_ints _), shaped_of (nice_ints _), ?_⟩
  rw [eqv_nice (nice_ints _)]
  refine ⟨rfl, _, ⟨xs, 1, 1, rfl, rfl⟩, sz, rfl, _, ⟨xs ++ ys, 1, 1, by rw [List.map_append]; rfl, rfl⟩, ?_⟩
  exact t58 Q h ds xs ys hd hx hy _ _ _ _ _
theorem flat_map (k : Nat) (xs : List Int) : (List.replicate k (xs.map PyData.int)).flatten = ((List.replicate k xs).flatten).map PyData.int := by
  rw [List.map_flatten, List.map_replicate]
theorem flat_len (k : Nat) (xs : List Int) : (List.replicate k xs).flatten.length = k * xs.length := by
  simp [List.length_flatten, List.map_replicate]
theorem t48 (Q : Z → Prop) (h : Q (.v (.bool true))) (ds xs ys : List Int) (hd : ds.length = 124) (hx : xs.length ≤ 61) (hy : ys.length ≤ 60) (s0 s3 : S) :
    b_law_L48 (fE Q) [s0, .v (.list (ds.map .int)), .l (xs.map .int), s3, .v (.list (ys.map .int)), .no, .no, .no, .no, .no, .no, .no, .no] := by
  have a2 : atI (ds.map PyData.int) 2 = some (.int (ds.getD 2 0)) := atI_ints (by decide) (by omega)
  have a3 : atI (ds.map PyData.int) 3 = some (.int (ds.getD 3 0)) := atI_ints (by decide) (by omega)
  refine ⟨_, a2, p0, ite3 (fun h1 => ?_) (fun h1 => ?_)⟩
  · have k0 := Int.emod_nonneg (ds.getD 3 0) (show (100 : Int) ≠ 0 by decide)
    have k1 := Int.emod_lt_of_pos (ds.getD 3 0) (show (0 : Int) < 100 by decide)
    refine ⟨_, a3, p0, ⟨by show -(2 ^ 63) ≤ 1 + ds.getD 3 0 % 100; omega, by show 1 + ds.getD 3 0 % 100 < 2 ^ 63; omega⟩, ?_, ?_⟩
    · show (xs.map PyData.int).length * (1 + ds.getD 3 0 % 100).toNat ≤ sizeLine
      rw [List.length_map]
      have h1 := Nat.mul_le_mul hx (show (1 + ds.getD 3 0 % 100).toNat ≤ 100 by omega)
      exact szOk (by omega)
    · show b_law_L50 (fE Q) [s0, .v (.list (ds.map .int)), .v (.list (List.replicate (1 + ds.getD 3 0 % 100).toNat (xs.map PyData.int)).flatten), s3, .v (.list (ys.map .int)), .no, .no, .no, .no, .no, .no, .no, .no]
      generalize hk : (1 + ds.getD 3 0 % 100).toNat = k
      rw [flat_map]
      have h1 := Nat.mul_le_mul (show k ≤ 100 by omega) hx
      exact t50 Q h ds _ ys hd (by rw [flat_len]; omega) hy _ _ _ _ _ _ _ _ _ _
  · exact t50 Q h ds xs ys hd (by omega) hy _ _ _ _ _ _ _ _ _ _
theorem sem_law : ∀ as Q, F_law as Q → b_law (fE Q) (args n_law.length as) := by
  rintro as Q ⟨ns, rfl, hl, h⟩
  refine ⟨rfl, _, ⟨ns, 124, rfl, hl, ⟨by decide, by decide⟩, rfl⟩, ?_⟩
  rintro z ⟨ds, hd, hok, rfl⟩
  have hd : ds.length = 124 := hd
  have a0 : atI (ds.map PyData.int) 0 = some (.int (ds.getD 0 0)) := atI_ints (by decide) (by omega)
  have a1 : atI (ds.map PyData.int) 1 = some (.int (ds.getD 1 0)) := atI_ints (by decide) (by omega)
  refine ⟨_, a0, p0, ?_⟩
  have c0 := Int.emod_nonneg (ds.getD 0 0) (show (61 : Int) ≠ 0 by decide)
  have c1 := Int.emod_lt_of_pos (ds.getD 0 0) (show (0 : Int) < 61 by decide)
  show lcGo _ _ _ _ _ (cutD (ds.map PyData.int) (some 4) (some (4 + ds.getD 0 0 % 61))) []
  rw [cut_map]
  have cl : (cutD ds (some 4) (some (4 + ds.getD 0 0 % 61))).length ≤ 61 := by
    unfold cutD
    rw [show (4 : Int) = ((4 : Nat) : Int) by rfl, show (((4 : Nat) : Int) + ds.getD 0 0 % 61) = (((4 + ds.getD 0 0 % 61).toNat : Nat) : Int) by omega, HT.sIx_nat, HT.sIx_nat, List.length_take, List.length_drop]
    omega
  generalize cutD ds (some 4) (some (4 + ds.getD 0 0 % 61)) = cs at cl
  refine lc_each PyData.int (fun d => .int (d % 256)) (szLt (by omega)) (fun d hd R1 hR => ⟨p0, hR⟩) ?_
  have e : cs.map (fun d => PyData.int (d % 256)) = (cs.map fun d => d % 256).map PyData.int := by rw [List.map_map]; rfl
  rw [e]
  have hx : (cs.map fun d => d % 256).length ≤ 61 := by rw [List.length_map]; exact cl
  generalize (cs.map fun d => d % 256) = xs at hx
  refine ⟨_, a1, p0, ?_⟩
  have q0 := Int.emod_nonneg (ds.getD 1 0) (show (60 : Int) ≠ 0 by decide)
  have q1 := Int.emod_lt_of_pos (ds.getD 1 0) (show (0 : Int) < 60 by decide)
  show lcGo _ _ _ _ _ (cutD (ds.map PyData.int) (some 64) (some (64 + ds.getD 1 0 % 60))) []
  rw [cut_map]
  have cl2 : (cutD ds (some 64) (some (64 + ds.getD 1 0 % 60))).length ≤ 60 := by
    unfold cutD
    rw [show (64 : Int) = ((64 : Nat) : Int) by rfl, show (((64 : Nat) : Int) + ds.getD 1 0 % 60) = (((64 + ds.getD 1 0 % 60).toNat : Nat) : Int) by omega, HT.sIx_nat, HT.sIx_nat, List.length_take, List.length_drop]
    omega
  generalize cutD ds (some 64) (some (64 + ds.getD 1 0 % 60)) = cs2 at cl2
  refine lc_each PyData.int (fun d => .int (d % 256)) (szLt (by omega)) (fun d hd R1 hR => ⟨p0, hR⟩) ?_
  have e2 : cs2.map (fun d => PyData.int (d % 256)) = (cs2.map fun d => d % 256).map PyData.int := by rw [List.map_map]; rfl
  rw [e2]
  exact t48 Q h ds xs _ hd hx (by rw [List.length_map]; exact cl2) _ _

theorem ok_checksum {P : Program} {w : World} {K : PySem.W.Frag} {mg : Str → Option Value} {base : Heap} {f : Addr} {fd : FuncData} (Fn : FunX K "checksum" "checksum" s_checksum dx_checksum f fd) (T : Txt K mg)  : FnOk P w K mg base CX0 1 f fd p_checksum (spV K F_checksum) := by
  have sc := sc_checksum
  refine fn_dataX (ds := b_checksum) Fn sc (fun cdv A outer s H E hr => ?_) len_det sem_checksum
  have hu := hr.units
  exact ⟨_, (css_cons (cs_unp (ce_var 1) (cg_tup rfl (cgs_cons (cg_name (i := 2) sc.nd rfl (by first | exact .inl rfl | exact .inr rfl)) (cgs_cons (cg_name (i := 3) sc.nd rfl (by first | exact .inl rfl | exact .inr rfl)) cgs_nil)))) (css_cons (cs_for PassesOwn.never rfl (ci_seq (ce_var 0)) (cg_name (i := 4) sc.nd rfl (by first | exact .inl rfl | exact .inr rfl)) (css_cons (cs_set 2 sc.nd (ce_mod (ce_add (ce_add (ce_var 2) (ce_var 4)) (ce_int)) (ce_gl T.c_MODULUS))) (css_one (cs_set 3 sc.nd (ce_mod (ce_add (ce_var 3) (ce_var 2)) (ce_gl T.c_MODULUS)))))) (css_one (cs_ret (ce_tup (cc_cons (ce_var 2) (cc_cons (ce_var 3) cc_nil)))))))⟩

theorem ok_check_bytes {P : Program} {w : World} {K : PySem.W.Frag} {mg : Str → Option Value} {base : Heap} {f : Addr} {fd : FuncData} (Fn : Fun K "check_bytes" "check_bytes" s_check_bytes f fd) (T : Txt K mg)  : FnOk P w K mg base CX0 1 f fd p_check_bytes (spV K F_check_bytes) := by
  have sc := sc_check_bytes
  refine fn_data (ds := b_check_bytes) Fn sc (fun cdv A outer s H E hr => ?_) len_det sem_check_bytes
  have hu := hr.units
  exact ⟨_, (css_cons (cs_unp (ce_var 0) (cg_tup rfl (cgs_cons (cg_name (i := 1) sc.nd rfl (by first | exact .inl rfl | exact .inr rfl)) (cgs_cons (cg_name (i := 2) sc.nd rfl (by first | exact .inl rfl | exact .inr rfl)) cgs_nil)))) (css_one (cs_ret (ce_lst (cc_cons (ce_mod (ce_var 1) (ce_int)) (cc_cons (ce_fdiv (ce_var 1) (ce_int)) (cc_cons (ce_mod (ce_var 2) (ce_int)) (cc_cons (ce_fdiv (ce_var 2) (ce_int)) cc_nil))))))))⟩

theorem ok__law_is_integer {P : Program} {w : World} {K : PySem.W.Frag} {mg : Str → Option Value} {base : Heap} {f : Addr} {fd : FuncData} (Fn : Fun K "_law_is_integer" "_law_is_integer" s__law_is_integer f fd) (T : Txt K mg)  : FnOk P w K mg base CX0 1 f fd p__law_is_integer (spV K F__law_is_integer) := by
  have sc := sc__law_is_integer
  refine fn_data (ds := b__law_is_integer) Fn sc (fun cdv A outer s H E hr => ?_) len_det sem__law_is_integer
  have hu := hr.units
  exact ⟨_, (css_one (cs_ret (ce_and (ce_isi T.b_isinstance bt_int T.b_int (ce_var 0)) (ce_one (ce_not (ce_isi T.b_isinstance bt_bool T.b_bool (ce_var 0)))))))⟩

theorem ok__law_draws {P : Program} {w : World} {K : PySem.W.Frag} {mg : Str → Option Value} {base : Heap} {f : Addr} {fd : FuncData} (Fn : Fun K "_law_draws" "_law_draws" s__law_draws f fd) (T : Txt K mg)  : FnOk P w K mg base CX0 1 f fd p__law_draws (spV K F__law_draws) := by
  have sc := sc__law_draws
  refine fn_data (ds := b__law_draws) Fn sc (fun cdv A outer s H E hr => ?_) len_dem sem__law_draws
  have hu := hr.units
  exact ⟨_, (css_cons (cs_set 2 sc.nd (ce_lst cc_nil)) (css_cons (cs_set 3 sc.nd (ce_int)) (css_cons (cs_for PassesOwn.never rfl (ci_rng1 T.b_range (ca_cons (ce_cb call_len sim_len bt_len T.b_len (ca_cons (ce_var 0) ca_nil)) ca_nil)) (cg_name (i := 4) sc.nd rfl (by first | exact .inl rfl | exact .inr rfl)) (css_cons (cs_set 5 sc.nd (ce_cb call_abs sim_abs bt_abs T.b_abs (ca_cons (ce_ct call_int1 sim_int bt_int T.b_int (ca_cons (ce_ix (ce_var 0) (ce_var 4)) ca_nil)) ca_nil))) (css_cons (cs_set 3 sc.nd (ce_mod (ce_ct call_int1 sim_int bt_int T.b_int (ca_cons (ce_add (ce_add (ce_mulA (ce_var 3) (ce_int)) (ce_mod (ce_var 5) (ce_int))) (ce_var 4)) ca_nil)) (ce_int))) (css_cons (cs_set 6 sc.nd (ce_int)) (css_cons (cs_if (ct_ge (ce_var 5) (ce_pow (ce_int) (ce_int))) (css_one (cs_set 6 sc.nd (ce_var 5))) (css_cons (cs_app 2 (ce_mod (ce_var 5) (ce_int))) (css_one (cs_app 2 (ce_mod (ce_mod (ce_ct call_int1 sim_int bt_int T.b_int (ca_cons (ce_add (ce_mulA (ce_var 3) (ce_int)) (ce_int)) ca_nil)) (ce_int)) (ce_int)))))) (css_one (cs_for PassesOwn.never rfl (ci_rng1 T.b_range (ca_cons (ce_int) ca_nil)) (cg_name (i := 7) sc.nd rfl (by first | exact .inl rfl | exact .inr rfl)) (css_one (cs_if (ct_gt (ce_var 6) (ce_int)) (css_cons (cs_app 2 (ce_mod (ce_ct call_int1 sim_int bt_int T.b_int (ca_cons (ce_var 6) ca_nil)) (ce_int))) (css_one (cs_set 6 sc.nd (ce_fdiv (ce_var 6) (ce_int))))) css_nil))))))))) (css_cons (cs_for PassesOwn.never rfl (ci_rng1 T.b_range (ca_cons (ce_var 1) ca_nil)) (cg_name (i := 4) sc.nd rfl (by first | exact .inl rfl | exact .inr rfl)) (css_cons (cs_set 3 sc.nd (ce_mod (ce_ct call_int1 sim_int bt_int T.b_int (ca_cons (ce_add (ce_add (ce_mulA (ce_var 3) (ce_int)) (ce_var 4)) (ce_int)) ca_nil)) (ce_int))) (css_one (cs_app 2 (ce_mod (ce_ct call_int1 sim_int bt_int T.b_int (ca_cons (ce_var 3) ca_nil)) (ce_int)))))) (css_one (cs_ret (ce_slice (ce_var 2) co_none (co_some (ce_var 1)))))))))⟩

theorem ok__law_sums {P : Program} {w : World} {K : PySem.W.Frag} {mg : Str → Option Value} {base : Heap} {f : Addr} {fd : FuncData} (Fn : Fun K "_law_sums" "_law_sums" s__law_sums f fd) (T : Txt K mg)  : FnOk P w K mg base CX0 1 f fd p__law_sums (spV K F__law_sums) := by
  have sc := sc__law_sums
  refine fn_data (ds := b__law_sums) Fn sc (fun cdv A outer s H E hr => ?_) len_det sem__law_sums
  have hu := hr.units
  exact ⟨_, (css_cons (cs_for PassesOwn.never rfl (ci_seq (ce_var 0)) (cg_name (i := 3) sc.nd rfl (by first | exact .inl rfl | exact .inr rfl)) (css_cons (cs_set 1 sc.nd (ce_mod (ce_ct call_int1 sim_int bt_int T.b_int (ca_cons (ce_add (ce_add (ce_var 1) (ce_var 3)) (ce_int)) ca_nil)) (ce_int))) (css_one (cs_set 2 sc.nd (ce_mod (ce_ct call_int1 sim_int bt_int T.b_int (ca_cons (ce_add (ce_var 2) (ce_var 1)) ca_nil)) (ce_int)))))) (css_one (cs_ret (ce_tup (cc_cons (ce_var 1) (cc_cons (ce_var 2) cc_nil))))))⟩

theorem ok__law_equal {P : Program} {w : World} {K : PySem.W.Frag} {mg : Str → Option Value} {base : Heap} {f : Addr} {fd : FuncData} (Fn : Fun K "_law_equal" "_law_equal" s__law_equal f fd) (T : Txt K mg) (h__law_is_integer : Has P w K mg base 1 "_law_is_integer" p__law_is_integer F__law_is_integer [] dd__law_is_integer) : FnOk P w K mg base CX0 2 f fd p__law_equal (spV K F__law_equal) := by
  have sc := sc__law_equal
  refine fn_data (ds := b__law_equal) Fn sc (fun cdv A outer s H E hr => ?_) len_det sem__law_equal
  have hu := hr.units
  exact ⟨_, (css_cons (cs_if (ct_of_w (cw_or (ct_not (ct_tru (ce_isi T.b_isinstance bt_tuple T.b_tuple (ce_var 0)))) (cw_or1 (ct_ne hu (ce_cb call_len sim_len bt_len T.b_len (ca_cons (ce_var 0) ca_nil)) (ce_int))))) (css_one (cs_ret (ce_bl))) css_nil) (css_one (cs_ret (ce_and (ce_has h__law_is_integer hr (by decide) (cc_cons (ce_ix (ce_var 0) (ce_int)) cc_nil)) (ce_and (ce_has h__law_is_integer hr (by decide) (cc_cons (ce_ix (ce_var 0) (ce_int)) cc_nil)) (ce_one (ce_eq hu (ce_var 0) (ce_var 1))))))))⟩

theorem ok_law {P : Program} {w : World} {K : PySem.W.Frag} {mg : Str → Option Value} {base : Heap} {f : Addr} {fd : FuncData} (Fn : Fun K "law" "law" s_law f fd) (T : Txt K mg) (h__law_draws : Has P w K mg base 1 "_law_draws" p__law_draws F__law_draws [] dd__law_draws) (h__law_equal : Has P w K mg base 2 "_law_equal" p__law_equal F__law_equal [] dd__law_equal) (h__law_is_integer : Has P w K mg base 1 "_law_is_integer" p__law_is_integer F__law_is_integer [] dd__law_is_integer) (h__law_sums : Has P w K mg base 1 "_law_sums" p__law_sums F__law_sums [] dd__law_sums) (h_check_bytes : Has P w K mg base 1 "check_bytes" p_check_bytes F_check_bytes [] dd_check_bytes) {v_checksum_0 : List V} (h_checksum_0 : Has P w K mg base 1 "checksum" p_checksum F_checksum v_checksum_0 dd_checksum_0) {v_checksum_1 : List V} (h_checksum_1 : Has P w K mg base 1 "checksum" p_checksum F_checksum v_checksum_1 dd_checksum_1) (h_checksum_k1 : HasK P w K mg base 1 "checksum" p_checksum F_checksum 1 ["start"]) : FnOk P w K mg base CX0 3 f fd p_law (spV K F_law) := by
  have sc := sc_law
  refine fn_data (ds := b_law) Fn sc (fun cdv A outer s H E hr => ?_) len_law sem_law
  have hu := hr.units
  exact ⟨_, (css_cons (cs_set 1 sc.nd (ce_has h__law_draws hr (by decide) (cc_cons (ce_var 0) (cc_cons (ce_int) cc_nil)))) (css_frz 1 (css_cons (cs_setLcX 2 (own := [("_law_draw", 3)]) rfl sc.nd (ci_seq (ce_slice (ce_var 1) (co_some (ce_int)) (co_some (ce_add (ce_int) (ce_mod (ce_ix (ce_var 1) (ce_int)) (ce_int)))))) (blkOk_by (own := [("_law_draw", 3)]) (N := n_law) (sc := defScope s_law) (by decide +kernel)) (fun _ _ _ _ _ => ⟨_, (cg_name (i := 3) sc.nd rfl (by first | exact .inl rfl | exact .inr rfl)), by (try dsimp only [Cx.blk]) <;> exact rfl⟩) (fun _ _ _ _ _ => ⟨_, pts0, by (try dsimp only [Cx.blk]) <;> exact rfl⟩) (fun _ _ _ _ _ => ⟨_, (ce_mod (ce_ct call_int1 sim_int bt_int T.b_int (ca_cons (ce_var 3) ca_nil)) (ce_int)), by (try dsimp only [Cx.blk]) <;> exact rfl⟩) (sw_true rfl rfl rfl (by decide +kernel))) (css_cons (cs_setLcX 4 (own := [("_law_draw", 3)]) rfl sc.nd (ci_seq (ce_slice (ce_var 1) (co_some (ce_int)) (co_some (ce_add (ce_int) (ce_mod (ce_ix (ce_var 1) (ce_int)) (ce_int)))))) (blkOk_by (own := [("_law_draw", 3)]) (N := n_law) (sc := defScope s_law) (by decide +kernel)) (fun _ _ _ _ _ => ⟨_, (cg_name (i := 3) sc.nd rfl (by first | exact .inl rfl | exact .inr rfl)), by (try dsimp only [Cx.blk]) <;> exact rfl⟩) (fun _ _ _ _ _ => ⟨_, pts0, by (try dsimp only [Cx.blk]) <;> exact rfl⟩) (fun _ _ _ _ _ => ⟨_, (ce_mod (ce_ct call_int1 sim_int bt_int T.b_int (ca_cons (ce_var 3) ca_nil)) (ce_int)), by (try dsimp only [Cx.blk]) <;> exact rfl⟩) (sw_true rfl rfl rfl (by decide +kernel))) (css_frz 4 (css_cons (cs_if (ct_eq hu (ce_mod (ce_ix (ce_var 1) (ce_int)) (ce_int)) (ce_int)) (css_one (cs_set 2 sc.nd (ce_mulA (ce_var 2) (ce_add (ce_int) (ce_mod (ce_ix (ce_var 1) (ce_int)) (ce_int)))))) css_nil) (css_frz 2 (css_cons (cs_set 5 sc.nd (ce_lst (cc_cons (ce_ct call_list_of sim_list bt_list T.b_list (ca_cons (ce_var 2) ca_nil)) (cc_cons (ce_ct call_list_of sim_list bt_list T.b_list (ca_cons (ce_var 4) ca_nil)) cc_nil)))) (css_frz 5 (css_cons (cs_set 6 sc.nd (ce_has h_checksum_1 hr (by decide) (cc_cons (ce_ix (ce_var 5) (ce_int)) cc_nil))) (css_cons (cs_set 7 sc.nd (ce_has h_checksum_0 hr (by decide) (cc_cons (ce_ix (ce_var 5) (ce_int)) (cc_cons (ce_var 6) cc_nil)))) (css_cons (cs_set 8 sc.nd (ce_hasK h_checksum_k1 hr (by decide) (cc_cons (ce_ix (ce_var 5) (ce_int)) cc_nil) (ck_cons (ce_tup (cc_cons (ce_ix (ce_var 1) (ce_int)) (cc_cons (ce_ix (ce_var 1) (ce_int)) cc_nil))) ck_nil))) (css_cons (cs_if (ct_of_w (cw_or (ct_ne hu (ce_ix (ce_var 5) (ce_int)) (ce_var 2)) (cw_or1 (ct_ne hu (ce_ix (ce_var 5) (ce_int)) (ce_var 4))))) (css_one (cs_ret (ce_bl))) css_nil) (css_cons (cs_set 9 sc.nd (ce_has h__law_sums hr (by decide) (cc_cons (ce_var 2) (cc_cons (ce_int) (cc_cons (ce_int) cc_nil))))) (css_cons (cs_set 10 sc.nd (ce_has h__law_sums hr (by decide) (cc_cons (ce_add (ce_var 2) (ce_var 4)) (cc_cons (ce_int) (cc_cons (ce_int) cc_nil))))) (css_cons (cs_if (ct_of_w (cw_or (ct_not (ct_tru (ce_has h__law_equal hr (by decide) (cc_cons (ce_var 6) (cc_cons (ce_var 9) cc_nil))))) (cw_or1 (ct_not (ct_tru (ce_has h__law_equal hr (by decide) (cc_cons (ce_var 7) (cc_cons (ce_var 10) cc_nil)))))))) (css_one (cs_ret (ce_bl))) css_nil) (css_cons (cs_if (ct_of_w (cw_or (ct_not (ct_tru (ce_has h__law_equal hr (by decide) (cc_cons (ce_has h_checksum_1 hr (by decide) (cc_cons (ce_add (ce_var 2) (ce_var 4)) cc_nil)) (cc_cons (ce_var 10) cc_nil))))) (cw_or1 (ct_not (ct_tru (ce_has h__law_equal hr (by decide) (cc_cons (ce_var 8) (cc_cons (ce_has h__law_sums hr (by decide) (cc_cons (ce_var 4) (cc_cons (ce_ix (ce_var 1) (ce_int)) (cc_cons (ce_ix (ce_var 1) (ce_int)) cc_nil)))) cc_nil)))))))) (css_one (cs_ret (ce_bl))) css_nil) (css_cons (cs_set 11 sc.nd (ce_has h_check_bytes hr (by decide) (cc_cons (ce_var 10) cc_nil))) (css_frz 11 (css_cons (cs_if (ct_of_w (cw_or (ct_not (ct_tru (ce_isi T.b_isinstance bt_list T.b_list (ce_var 11)))) (cw_or1 (ct_ne hu (ce_cb call_len sim_len bt_len T.b_len (ca_cons (ce_var 11) ca_nil)) (ce_int))))) (css_one (cs_ret (ce_bl))) css_nil) (css_cons (cs_for PassesOwn.never rfl (ci_seq (ce_var 11)) (cg_name (i := 12) sc.nd rfl (by first | exact .inl rfl | exact .inr rfl)) (css_one (cs_if (ct_not (ct_tru (ce_has h__law_is_integer hr (by decide) (cc_cons (ce_var 12) cc_nil)))) (css_one (cs_ret (ce_bl))) css_nil))) (css_one (cs_ret (ce_eq hu (ce_var 11) (ce_lst (cc_cons (ce_mod (ce_ix (ce_var 10) (ce_int)) (ce_int)) (cc_cons (ce_fdiv (ce_ix (ce_var 10) (ce_int)) (ce_int)) (cc_cons (ce_mod (ce_ix (ce_var 10) (ce_int)) (ce_int)) (cc_cons (ce_fdiv (ce_ix (ce_var 10) (ce_int)) (ce_int)) cc_nil)))))))))))))))))))))))))))))⟩

theorem all_mk {l : PySem.W.OpenLaw} {w : World} {K : PySem.W.Frag} {h : Heap} {mg : Str → Option Value} {fa : Addr} (X : K.In h) (G : h.Ns mainGlobals mg) (hfa : mg "law" = some (.ref fa))
    {f0 : Addr} {od0 an0 : Option Addr} {sl0 : Array (Option Value)} {oc0 kV0 dc0 pm0 cd0 ct0 : Value}
    {t0 : Addr} {td0 : Option Addr} {tu0 : Array Value} {tn0 : Nat} {ts0 : Array (Option Value)}
    {f1 : Addr} {od1 an1 : Option Addr} {sl1 : Array (Option Value)} {oc1 kV1 dc1 pm1 cd1 ct1 : Value}
    {f2 : Addr} {od2 an2 : Option Addr} {sl2 : Array (Option Value)} {oc2 kV2 dc2 pm2 cd2 ct2 : Value}
    {f3 : Addr} {od3 an3 : Option Addr} {sl3 : Array (Option Value)} {oc3 kV3 dc3 pm3 cd3 ct3 : Value}
    {f4 : Addr} {od4 an4 : Option Addr} {sl4 : Array (Option Value)} {oc4 kV4 dc4 pm4 cd4 ct4 : Value}
    {f5 : Addr} {od5 an5 : Option Addr} {sl5 : Array (Option Value)} {oc5 kV5 dc5 pm5 cd5 ct5 : Value}
    {f6 : Addr} {od6 an6 : Option Addr} {sl6 : Array (Option Value)} {oc6 kV6 dc6 pm6 cd6 ct6 : Value}
    {t_MODULUS : Tok}
    (a0 : PySem.W.nsIn K mainGlobals "checksum" = some (some (.ref f0)))
    (l0 : K.lookup f0 = some ⟨oc0, od0, .func (PySem.W.fnOf "checksum" "checksum" (defArgs s_checksum) (defBody s_checksum) (defScope s_checksum) (.ref t0) kV0 dc0 pm0 an0 cd0 ct0), sl0⟩)
    (t1_0 : K.lookup t0 = some ⟨.type "tuple", td0, .seq tu0 tn0, ts0⟩)
    (tx_0 : KXs K tu0.toList dx_checksum)
    (c0 : PySem.W.codeIn K cd0 "checksum" = true)
    (k0 : PySem.W.keepIn K (.ref f0) = true)
    (a1 : PySem.W.nsIn K mainGlobals "check_bytes" = some (some (.ref f1)))
    (l1 : K.lookup f1 = some ⟨oc1, od1, .func (PySem.W.fnOf "check_bytes" "check_bytes" (defArgs s_check_bytes) (defBody s_check_bytes) (defScope s_check_bytes) .none kV1 dc1 pm1 an1 cd1 ct1), sl1⟩)
    (c1 : PySem.W.codeIn K cd1 "check_bytes" = true)
    (k1 : PySem.W.keepIn K (.ref f1) = true)
    (a2 : PySem.W.nsIn K mainGlobals "_law_is_integer" = some (some (.ref f2)))
    (l2 : K.lookup f2 = some ⟨oc2, od2, .func (PySem.W.fnOf "_law_is_integer" "_law_is_integer" (defArgs s__law_is_integer) (defBody s__law_is_integer) (defScope s__law_is_integer) .none kV2 dc2 pm2 an2 cd2 ct2), sl2⟩)
    (c2 : PySem.W.codeIn K cd2 "_law_is_integer" = true)
    (k2 : PySem.W.keepIn K (.ref f2) = true)
    (a3 : PySem.W.nsIn K mainGlobals "_law_draws" = some (some (.ref f3)))
    (l3 : K.lookup f3 = some ⟨oc3, od3, .func (PySem.W.fnOf "_law_draws" "_law_draws" (defArgs s__law_draws) (defBody s__law_draws) (defScope s__law_draws) .none kV3 dc3 pm3 an3 cd3 ct3), sl3⟩)
    (c3 : PySem.W.codeIn K cd3 "_law_draws" = true)
    (k3 : PySem.W.keepIn K (.ref f3) = true)
    (a4 : PySem.W.nsIn K mainGlobals "_law_sums" = some (some (.ref f4)))
    (l4 : K.lookup f4 = some ⟨oc4, od4, .func (PySem.W.fnOf "_law_sums" "_law_sums" (defArgs s__law_sums) (defBody s__law_sums) (defScope s__law_sums) .none kV4 dc4 pm4 an4 cd4 ct4), sl4⟩)
    (c4 : PySem.W.codeIn K cd4 "_law_sums" = true)
    (k4 : PySem.W.keepIn K (.ref f4) = true)
    (a5 : PySem.W.nsIn K mainGlobals "_law_equal" = some (some (.ref f5)))
    (l5 : K.lookup f5 = some ⟨oc5, od5, .func (PySem.W.fnOf "_law_equal" "_law_equal" (defArgs s__law_equal) (defBody s__law_equal) (defScope s__law_equal) .none kV5 dc5 pm5 an5 cd5 ct5), sl5⟩)
    (c5 : PySem.W.codeIn K cd5 "_law_equal" = true)
    (k5 : PySem.W.keepIn K (.ref f5) = true)
    (a6 : PySem.W.nsIn K mainGlobals "law" = some (some (.ref f6)))
    (l6 : K.lookup f6 = some ⟨oc6, od6, .func (PySem.W.fnOf "law" "law" (defArgs s_law) (defBody s_law) (defScope s_law) .none kV6 dc6 pm6 an6 cd6 ct6), sl6⟩)
    (c6 : PySem.W.codeIn K cd6 "law" = true)
    (k6 : PySem.W.keepIn K (.ref f6) = true)
    (z_abs : PySem.W.nsIn K mainGlobals "abs" = some none)
    (z_bool : PySem.W.nsIn K mainGlobals "bool" = some none)
    (z_int : PySem.W.nsIn K mainGlobals "int" = some none)
    (z_isinstance : PySem.W.nsIn K mainGlobals "isinstance" = some none)
    (z_len : PySem.W.nsIn K mainGlobals "len" = some none)
    (z_list : PySem.W.nsIn K mainGlobals "list" = some none)
    (z_range : PySem.W.nsIn K mainGlobals "range" = some none)
    (z_tuple : PySem.W.nsIn K mainGlobals "tuple" = some none)
    (q1_MODULUS : PySem.W.nsIn K mainGlobals "MODULUS" = some (some (.int 65521 t_MODULUS)))
    : ∃ fd : FuncData, (∀ (s : Shared) (v : Value), BindsTo s fd ⟨[v], []⟩ [("_law_script", v)]) ∧ ∀ base : Heap, K.In base → base.Ns mainGlobals mg → FnOk l.prog w K mg base CX0 3 fa fd ["_law_script"] (spV K F_law) := by
  have e := hfa.symm.trans (PySem.W.mg_of X G a6)
  cases e
  have T : Txt K mg := { b_abs := PySem.W.mg_none_of X G z_abs, b_bool := PySem.W.mg_none_of X G z_bool, b_int := PySem.W.mg_none_of X G z_int, b_isinstance := PySem.W.mg_none_of X G z_isinstance, b_len := PySem.W.mg_none_of X G z_len, b_list := PySem.W.mg_none_of X G z_list, b_range := PySem.W.mg_none_of X G z_range, b_tuple := PySem.W.mg_none_of X G z_tuple, c_MODULUS := gc_int (PySem.W.mg_of X G q1_MODULUS) }
  have F0 := funx_mk (st := s_checksum) (dds := dx_checksum) l0 c0 k0 t1_0 tx_0 (by decide)
  have F1 := fun_mk (st := s_check_bytes) l1 c1 k1
  have F2 := fun_mk (st := s__law_is_integer) l2 c2 k2
  have F3 := fun_mk (st := s__law_draws) l3 c3 k3
  have F4 := fun_mk (st := s__law_sums) l4 c4 k4
  have F5 := fun_mk (st := s__law_equal) l5 c5 k5
  have F6 := fun_mk (st := s_law) l6 c6 k6
  refine ⟨PySem.W.fnOf "law" "law" (defArgs s_law) (defBody s_law) (defScope s_law) .none kV6 dc6 pm6 an6 cd6 ct6, fun s v => .of_eq rfl, fun base _ _ => ?_⟩
  have h_checksum_k1 : HasK l.prog w K mg base 1 "checksum" p_checksum F_checksum 1 ["start"] := ⟨⟨f0, _, ok_checksum F0 T , PySem.W.mg_of X G a0, F0.kp, F0.kbn (ps := p_checksum) 1 ["start"] fun _ _ _ _ _ _ _ us its ws h1 h2 h3 => match us, its, ws, h1, h2, h3 with | [_], [_], [_], _, _, _ => ⟨_, rfl, rfl⟩⟩, mon_det⟩
  obtain ⟨v_checksum_0, d_checksum_0, b1_checksum_0, b2_checksum_0, b3_checksum_0⟩ := F0.binds (ps := p_checksum) 2 1 (by decide) fun _ _ _ _ _ _ _ us its h1 h2 => match us, its, h1, h2 with | [_, _], [_], _, _ => ⟨_, rfl, rfl⟩
  have h_checksum_0 : Has l.prog w K mg base 1 "checksum" p_checksum F_checksum v_checksum_0 dd_checksum_0 := ⟨⟨f0, _, d_checksum_0, ok_checksum F0 T , PySem.W.mg_of X G a0, F0.kp, b2_checksum_0, b1_checksum_0⟩, b3_checksum_0, mon_det⟩
  obtain ⟨v_checksum_1, d_checksum_1, b1_checksum_1, b2_checksum_1, b3_checksum_1⟩ := F0.binds (ps := p_checksum) 1 0 (by decide) fun _ _ _ _ _ _ _ us its h1 h2 => match us, its, h1, h2 with | [_], [_], _, _ => ⟨_, rfl, rfl⟩
  have h_checksum_1 : Has l.prog w K mg base 1 "checksum" p_checksum F_checksum v_checksum_1 dd_checksum_1 := ⟨⟨f0, _, d_checksum_1, ok_checksum F0 T , PySem.W.mg_of X G a0, F0.kp, b2_checksum_1, b1_checksum_1⟩, b3_checksum_1, mon_det⟩
  have h_check_bytes : Has l.prog w K mg base 1 "check_bytes" p_check_bytes F_check_bytes [] dd_check_bytes := ⟨⟨f1, _, [], ok_check_bytes F1 T , PySem.W.mg_of X G a1, F1.kp, F1.binds (ps := p_check_bytes) fun _ _ _ _ _ _ us hl => match us, hl with | [_], _ => rfl, .nil⟩, fun _ => .nil, mon_det⟩
  have h__law_is_integer : Has l.prog w K mg base 1 "_law_is_integer" p__law_is_integer F__law_is_integer [] dd__law_is_integer := ⟨⟨f2, _, [], ok__law_is_integer F2 T , PySem.W.mg_of X G a2, F2.kp, F2.binds (ps := p__law_is_integer) fun _ _ _ _ _ _ us hl => match us, hl with | [_], _ => rfl, .nil⟩, fun _ => .nil, mon_det⟩
  have h__law_draws : Has l.prog w K mg base 1 "_law_draws" p__law_draws F__law_draws [] dd__law_draws := ⟨⟨f3, _, [], ok__law_draws F3 T , PySem.W.mg_of X G a3, F3.kp, F3.binds (ps := p__law_draws) fun _ _ _ _ _ _ us hl => match us, hl with | [_, _], _ => rfl, .nil⟩, fun _ => .nil, mon_dem⟩
  have h__law_sums : Has l.prog w K mg base 1 "_law_sums" p__law_sums F__law_sums [] dd__law_sums := ⟨⟨f4, _, [], ok__law_sums F4 T , PySem.W.mg_of X G a4, F4.kp, F4.binds (ps := p__law_sums) fun _ _ _ _ _ _ us hl => match us, hl with | [_, _, _], _ => rfl, .nil⟩, fun _ => .nil, mon_det⟩
  have h__law_equal : Has l.prog w K mg base 2 "_law_equal" p__law_equal F__law_equal [] dd__law_equal := ⟨⟨f5, _, [], ok__law_equal F5 T h__law_is_integer, PySem.W.mg_of X G a5, F5.kp, F5.binds (ps := p__law_equal) fun _ _ _ _ _ _ us hl => match us, hl with | [_, _], _ => rfl, .nil⟩, fun _ => .nil, mon_det⟩
  exact ok_law F6 T h__law_draws h__law_equal h__law_is_integer h__law_sums h_check_bytes h_checksum_0 h_checksum_1 h_checksum_k1

end My
open PySem PySem.W PyProof.Rows
set_option maxRecDepth 100000 in
set_option maxHeartbeats 0 in
theorem PySem.Challenge.cw_majordomo_k02_checksum_of_joined_rows_holds : PySem.Challenge.rw_majordomo_k02_checksum_of_joined_rows.Holds := by
  w_on; o_law; k_head; (case hw => w_witness2)
  k_fill
  refine Dl.walk (l := PySem.Challenge.rw_majordomo_k02_checksum_of_joined_rows) (k := 3) (x := "_law_script") rfl rfl ⟨rfl, by decide, by decide⟩ (fun w h Y => PySem.W.kIn_of Y) ?F
  case F =>
    intro w mg fa h KX G hmg
    refine' My.all_mk KX G hmg ?a0 ?l0 ?t1_0 ?tx_0 ?c0 ?k0 ?a1 ?l1 ?c1 ?k1 ?a2 ?l2 ?c2 ?k2 ?a3 ?l3 ?c3 ?k3 ?a4 ?l4 ?c4 ?k4 ?a5 ?l5 ?c5 ?k5 ?a6 ?l6 ?c6 ?k6 ?z_abs ?z_bool ?z_int ?z_isinstance ?z_len ?z_list ?z_range ?z_tuple ?q1_MODULUS
    (case a0 => k_is)
    (case l0 => k_is)
    (case t1_0 => k_is)
    (case tx_0 => repeat (first | exact Dl.kxs_nil | refine Dl.kxs_cons (Dl.kx_of (.int _ _)) ?_ | refine Dl.kxs_cons (Dl.kx_of (.str _ _)) ?_ | refine Dl.kxs_cons (Dl.kx_of (.bl _)) ?_ | refine Dl.kxs_cons (Dl.kx_of .non) ?_ | (refine' Dl.kxs_cons (Dl.kx_tup (by k_is) (by decide) ?_) ?_)))
    (case c0 => k_is)
    (case k0 => k_is)
    (case a1 => k_is)
    (case l1 => k_is)
    (case c1 => k_is)
    (case k1 => k_is)
    (case a2 => k_is)
    (case l2 => k_is)
    (case c2 => k_is)
    (case k2 => k_is)
    (case a3 => k_is)
    (case l3 => k_is)
    (case c3 => k_is)
    (case k3 => k_is)
    (case a4 => k_is)
    (case l4 => k_is)
    (case c4 => k_is)
    (case k4 => k_is)
    (case a5 => k_is)
    (case l5 => k_is)
    (case c5 => k_is)
    (case k5 => k_is)
    (case a6 => k_is)
    (case l6 => k_is)
    (case c6 => k_is)
    (case k6 => k_is)
    (case z_abs => k_is)
    (case z_bool => k_is)
    (case z_int => k_is)
    (case z_isinstance => k_is)
    (case z_len => k_is)
    (case z_list => k_is)
    (case z_range => k_is)
    (case z_tuple => k_is)
    (case q1_MODULUS => k_is)


