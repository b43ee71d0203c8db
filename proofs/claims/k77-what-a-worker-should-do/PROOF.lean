import PyProof.Rows.All
import Wide.All
import OpenK.AllK
import Wide.FinOn
import HandS.ForMost
import HandS.IsInst
import HandS.Style
import HandS.NoneIn
import HandS.ForExc
import HandS.TryMany
import HandS.CallSlots
import HandS.WordsExc
import HandS.Ends
import KE.SortData
import HandS.Defaults
import HandS.Small
import HandS.More
import HandS.Iter
import PySem.Challenge.RW_majordomo_k77_what_a_worker_should_do
set_option Elab.async false
set_option linter.all false
set_option maxRecDepth 100000
set_option maxHeartbeats 2000000
/-! Dl: data-level readings over the hand layer. -/
namespace Dl
open PySem L2

abbrev D := PyData

/-! ### heaps that grow -/
def Ex (H H' : Hp) : Prop := ∀ a o, H a = some o → H' a = some o
theorem Ex.refl (H : Hp) : Ex H H := fun _ _ h => h
theorem Ex.trans {H H1 H2 : Hp} (a : Ex H H1) (b : Ex H1 H2) : Ex H H2 := fun x o h => b x o (a x o h)
theorem Ex.new {H : Hp} {p : Addr} {o : HO} (h : H p = none) : Ex H (upd H p o) := fun a u e => by
  rw [upd_ne (ne_of_none e h)]
  exact e
theorem Ex.back {H H' : Hp} {p : Addr} (e : Ex H H') (h : H' p = none) : H p = none := by
  cases h1 : H p with
  | none => rfl
  | some o =>
    rw [e p o h1] at h
    cases h
theorem Ex.fwd {H H' : Hp} {p : Addr} (e : Ex H H') (h : H p ≠ none) : H' p ≠ none := fun z => h (e.back z)
theorem ex_rd {H H' : Hp} {a : Addr} {u : HO} (e : Ex H H') (h : Rd H a u) : Rd H' a u := by
  rcases h with h | ⟨o, h⟩
  · exact Or.inl (e a _ h)
  · exact Or.inr ⟨o, e a _ h⟩
theorem ex_l {K : PySem.W.Frag} {H H' : Hp} {a : Addr} {xs : List V} (e : Ex H H') (h : SqL K H a xs) : SqL K H' a xs := by
  rcases h with h | h
  · exact Or.inl (ex_rd e h)
  · exact Or.inr h
theorem ex_t {K : PySem.W.Frag} {H H' : Hp} {a : Addr} {xs : List V} (e : Ex H H') (h : SqT K H a xs) : SqT K H' a xs := by
  rcases h with h | h
  · exact Or.inl (ex_rd e h)
  · exact Or.inr h
/-! ### a value stands for data -/
/-- a datum as a key of a dict: a number or a text; a row of such -/
def keyD : D → Option Key
  | .int i => some (.inl i)
  | .str x => some (.inr x)
  | _ => none
def keysD : List D → Option (List Key)
  | [] => some []
  | d :: ds => match keyD d, keysD ds with
    | some k, some ks => some (k :: ks)
    | _, _ => none
def keyT : D → Option (List Key)
  | .tuple ds => keysD ds
  | _ => none
/-- what a datum is as a key -/
def keyA (d : D) : Option (Key ⊕ List Key) := match keyD d with
  | some k => some (.inl k)
  | none => (keyT d).map .inr
mutual
inductive Dq (K : PySem.W.Frag) (H : Hp) : V → PyData → Prop
  | non : Dq K H .non .none
  | bl (b : Bool) : Dq K H (.bl b) (.bool b)
  | int (i : Int) : Dq K H (.int i) (.int i)
  | str (x : Str) : Dq K H (.str x) (.str x)
  | lst {a : Addr} {xs : List V} {ds : List PyData} : Rd H a (.lst xs) → DqAll K H xs ds → Dq K H (.ref a) (.list ds)
  | tup {a : Addr} {xs : List V} {ds : List PyData} : SqT K H a xs → DqAll K H xs ds → Dq K H (.ref a) (.tuple ds)
  /-- a list that may be an object of the module (the script): read, told apart from a list of our own -/
  | scr {a : Addr} {xs : List V} {ds : List PyData} : SqL K H a xs → DqAll K H xs ds → Dq K H (.ref a) (.dict [(.none, .list ds)])
  /-- a dict whose keys are numbers and texts; one whose keys are tuples of such -/
  | dic {a : Addr} {o : Obj} {xs : List (Key × V)} {ds : List (PyData × PyData)} : H a = some (.frz o (.dK xs)) → DqKs K H xs ds → Dq K H (.ref a) (.dict ds)
  | dit {a : Addr} {o : Obj} {xs : List (List Key × V)} {ds : List (PyData × PyData)} : H a = some (.frz o (.dT xs)) → ds ≠ [] → DqTs K H xs ds → Dq K H (.ref a) (.dict ds)
inductive DqAll (K : PySem.W.Frag) (H : Hp) : List V → List PyData → Prop
  | nil : DqAll K H [] []
  | cons {v : V} {vs : List V} {d : PyData} {ds : List PyData} : Dq K H v d → DqAll K H vs ds → DqAll K H (v :: vs) (d :: ds)
inductive DqKs (K : PySem.W.Frag) (H : Hp) : List (Key × V) → List (PyData × PyData) → Prop
  | nil : DqKs K H [] []
  | cons {k : Key} {v : V} {vs : List (Key × V)} {c d : PyData} {ds : List (PyData × PyData)} : keyD c = some k → Dq K H v d → DqKs K H vs ds → DqKs K H ((k, v) :: vs) ((c, d) :: ds)
inductive DqTs (K : PySem.W.Frag) (H : Hp) : List (List Key × V) → List (PyData × PyData) → Prop
  | nil : DqTs K H [] []
  | cons {k : List Key} {v : V} {vs : List (List Key × V)} {c d : PyData} {ds : List (PyData × PyData)} : keyT c = some k → Dq K H v d → DqTs K H vs ds → DqTs K H ((k, v) :: vs) ((c, d) :: ds)
end
mutual
theorem dq_dp {K : PySem.W.Frag} {H : Hp} : ∀ (d : D) (v : V), d.canLay0 = true → Dq K H v d → Dp K H v d
  | .none, _, _, h => by cases h; exact .non
  | .bool b, _, _, h => by cases h; exact .bl b
  | .int i, _, _, h => by cases h; exact .int i
  | .str x, _, _, h => by cases h; exact .str x
  | .list ds, _, c, h => by
    cases h with
    | lst hs ha => exact .lst (.inl hs) (dqs_dps ds _ (by rw [PyData.canLay0] at c; exact c) ha)
  | .tuple ds, _, c, h => by
    cases h with
    | tup hs ha => exact .tup hs (dqs_dps ds _ (by rw [PyData.canLay0] at c; exact c) ha)
  | .dict _, _, c, _ => by simp [PyData.canLay0] at c
theorem dqs_dps {K : PySem.W.Frag} {H : Hp} : ∀ (ds : List D) (vs : List V), PyData.canLayAll0 ds = true → DqAll K H vs ds → DpAll K H vs ds
  | [], _, _, h => by cases h; exact .nil
  | d :: ds, _, c, h => by
    rw [PyData.canLayAll0, Bool.and_eq_true] at c
    cases h with
    | cons h1 h2 => exact .cons (dq_dp d _ c.1 h1) (dqs_dps ds _ c.2 h2)
end
section
variable {K : PySem.W.Frag} {H H' : Hp}
mutual
theorem dp_mono1 (e : Ex H H') : ∀ {v : V} {d : D}, Dq K H v d → Dq K H' v d
  | _, _, .non => .non
  | _, _, .bl b => .bl b
  | _, _, .int i => .int i
  | _, _, .str x => .str x
  | _, _, .lst hs ha => .lst (ex_rd e hs) (dps_mono1 e ha)
  | _, _, .tup hs ha => .tup (ex_t e hs) (dps_mono1 e ha)
  | _, _, .scr hs ha => .scr (ex_l e hs) (dps_mono1 e ha)
  | _, _, .dic hs ha => .dic (e _ _ hs) (dks_mono e ha)
  | _, _, .dit hs hn ha => .dit (e _ _ hs) hn (dts_mono e ha)
theorem dps_mono1 (e : Ex H H') : ∀ {vs : List V} {ds : List D}, DqAll K H vs ds → DqAll K H' vs ds
  | _, _, .nil => .nil
  | _, _, .cons h1 h2 => .cons (dp_mono1 e h1) (dps_mono1 e h2)
theorem dks_mono (e : Ex H H') : ∀ {vs : List (Key × V)} {ds : List (D × D)}, DqKs K H vs ds → DqKs K H' vs ds
  | _, _, .nil => .nil
  | _, _, .cons h0 h1 h2 => .cons h0 (dp_mono1 e h1) (dks_mono e h2)
theorem dts_mono (e : Ex H H') : ∀ {vs : List (List Key × V)} {ds : List (D × D)}, DqTs K H vs ds → DqTs K H' vs ds
  | _, _, .nil => .nil
  | _, _, .cons h0 h1 h2 => .cons h0 (dp_mono1 e h1) (dts_mono e h2)
end
theorem dp_mono (e : Ex H H') (d : D) (v : V) (h : Dq K H v d) : Dq K H' v d := dp_mono1 e h
theorem dps_mono (e : Ex H H') (ds : List D) (vs : List V) (h : DqAll K H vs ds) : DqAll K H' vs ds := dps_mono1 e h
end
section
variable {K : PySem.W.Frag} {H H' : Hp} {v w : V} {vs ws : List V} {d : D} {ds es : List D}
theorem dps_len : ∀ {vs : List V} {ds : List D}, DqAll K H vs ds → vs.length = ds.length
  | _, _, .nil => rfl
  | _, _, .cons _ t => by rw [List.length_cons, List.length_cons, dps_len t]
theorem dps_get : ∀ {vs : List V} {ds : List D} {i : Nat} {d : D}, DqAll K H vs ds → ds[i]? = some d → ∃ v, vs[i]? = some v ∧ Dq K H v d
  | _, _, i, d, .nil, h => by simp at h
  | _, _, 0, d, .cons (v := v) a t, h => by
    have e : _ = d := Option.some.inj h
    subst e
    exact ⟨v, rfl, a⟩
  | _, _, i + 1, d, .cons a t, h => by
    obtain ⟨v, e, q⟩ := dps_get (i := i) (d := d) t h
    exact ⟨v, e, q⟩
theorem dps_getV : ∀ {vs : List V} {ds : List D} {i : Nat} {v : V}, DqAll K H vs ds → vs[i]? = some v → ∃ d, ds[i]? = some d ∧ Dq K H v d
  | _, _, i, v, .nil, h => by simp at h
  | _, _, 0, v, .cons (d := d) a t, h => by
    have e : _ = v := Option.some.inj h
    subst e
    exact ⟨d, rfl, a⟩
  | _, _, i + 1, v, .cons a t, h => by
    obtain ⟨d, e, q⟩ := dps_getV (i := i) (v := v) t h
    exact ⟨d, e, q⟩
theorem dps_app : ∀ {vs : List V} {ds : List D}, DqAll K H vs ds → DqAll K H ws es → DqAll K H (vs ++ ws) (ds ++ es)
  | _, _, .nil, h => h
  | _, _, .cons a t, h => .cons a (dps_app t h)
theorem dps_take : ∀ {vs : List V} {ds : List D} (n : Nat), DqAll K H vs ds → DqAll K H (vs.take n) (ds.take n)
  | _, _, 0, _ => .nil
  | _, _, _ + 1, .nil => .nil
  | _, _, n + 1, .cons a t => .cons a (dps_take n t)
theorem dps_drop : ∀ {vs : List V} {ds : List D} (n : Nat), DqAll K H vs ds → DqAll K H (vs.drop n) (ds.drop n)
  | _, _, 0, h => h
  | _, _, _ + 1, .nil => .nil
  | _, _, n + 1, .cons a t => dps_drop n t
theorem dps_set : ∀ {vs : List V} {ds : List D} (n : Nat), DqAll K H vs ds → Dq K H v d → DqAll K H (vs.set n v) (ds.set n d)
  | _, _, _, .nil, _ => .nil
  | _, _, 0, .cons a t, h => .cons h t
  | _, _, n + 1, .cons a t, h => .cons a (dps_set n t h)
theorem dp_int {i : Int} (h : Dq K H v (.int i)) : v = .int i := by cases h; rfl
theorem dp_bl {b : Bool} (h : Dq K H v (.bool b)) : v = .bl b := by cases h; rfl
theorem dp_str {x : Str} (h : Dq K H v (.str x)) : v = .str x := by cases h; rfl
theorem dp_non (h : Dq K H v .none) : v = .non := by cases h; rfl
theorem dp_lst (h : Dq K H v (.list ds)) : ∃ a vs, v = .ref a ∧ Rd H a (.lst vs) ∧ DqAll K H vs ds := by
  cases h with
  | lst hs ha => exact ⟨_, _, rfl, hs, ha⟩
theorem dp_scr (h : Dq K H v (.dict [(.none, .list ds)])) : ∃ a vs, v = .ref a ∧ SqL K H a vs ∧ DqAll K H vs ds := by
  cases h with
  | scr hs ha => exact ⟨_, _, rfl, hs, ha⟩
  | dic hs ha => cases ha with | cons z _ _ => cases z
  | dit hs _ ha => cases ha with | cons z _ _ => cases z
theorem dp_dic {ds : List (D × D)} (h : Dq K H v (.dict ds)) (hn : ∀ xs, ds ≠ [(.none, .list xs)]) : (∃ a o xs, v = .ref a ∧ H a = some (.frz o (.dK xs)) ∧ DqKs K H xs ds) ∨ ∃ a o xs, v = .ref a ∧ H a = some (.frz o (.dT xs)) ∧ ds ≠ [] ∧ DqTs K H xs ds := by
  cases h with
  | scr hs ha => exact absurd rfl (hn _)
  | dic hs ha => exact .inl ⟨_, _, _, rfl, hs, ha⟩
  | dit hs hn ha => exact .inr ⟨_, _, _, rfl, hs, hn, ha⟩
theorem dp_tup (h : Dq K H v (.tuple ds)) : ∃ a vs, v = .ref a ∧ SqT K H a vs ∧ DqAll K H vs ds := by
  cases h with
  | tup hs ha => exact ⟨_, _, rfl, hs, ha⟩
theorem dps_ints : ∀ {ns : List Int}, DqAll K H (ns.map V.int) (ns.map PyData.int)
  | [] => .nil
  | n :: ns => .cons (.int n) dps_ints
end

/-! ### trees: what a local name holds -/
/-- the world by names, and the slots whose things may have second names -/
structure Kx where
  f : PySem.W.Frag
  cl : Nat → Addr
  nm : Nat → Str
instance : Coe Kx PySem.W.Frag := ⟨Kx.f⟩
/-- what a def's text says: how many names it has; those whose things may have second names; the names of the classes, of the attributes -/
structure Ax where
  n : Nat
  A : Nat → Bool
  cn : List Str
  fn : List Str
mutual
inductive S where
  /-- nothing known -/
  | no
  /-- data that never changes -/
  | v (d : D)
  /-- a list, a dict of our own, of data -/
  | l (xs : List D)
  | dc (t : Bool) (kvs : List (D × D))
  /-- a dict while a loop walks it -/
  | lk (t : Bool) (od : Obj) (kvs : List (D × D))
  /-- a second name of what stands in slot i at p; the same, of a known value (a ghost) -/
  | al (i : Nat) (p : List Nat)
  | gh (w : V) (i : Nat) (p : List Nat)
  /-- a list, a tuple, a dict of things of our own -/
  | nl (cs : SF)
  | nt (cs : SF)
  | nd (cs : SF)
  /-- an instance of our own: its class, its attributes -/
  | ob (C : Nat) (cs : SF)
inductive SF where
  | nil
  | cons (n : D) (s : S) (t : SF)
end
def S.live : S → Bool
  | .no => false
  | .gh _ _ _ => false
  | _ => true
/-- a thing, not a name -/
def S.tru : S → Bool
  | .no => false
  | .gh _ _ _ => false
  | .al _ _ => false
  | _ => true
/-- no second name -/
def S.noT : S → Bool
  | .gh _ _ _ => false
  | .al _ _ => false
  | _ => true
theorem S.noT_cases {s : S} (h : s.noT = true) : s = .no ∨ s.tru = true := by cases s <;> first | exact .inl rfl | exact .inr rfl | cases h
theorem S.tru_noT {s : S} (h : s.tru = true) : s.noT = true := by cases s <;> first | rfl | cases h
theorem S.tru_live {s : S} (h : s.tru = true) : s.live = true := by cases s <;> first | rfl | cases h
theorem S.tru_al {s : S} (h : s.tru = true) : ∀ j q, s ≠ .al j q := fun j q z => by subst z; cases h
theorem S.tru_gh {s : S} (h : s.tru = true) : ∀ w j q, s ≠ .gh w j q := fun w j q z => by subst z; cases h
def SF.len : SF → Nat
  | .nil => 0
  | .cons _ _ t => t.len + 1
def SF.get : SF → Nat → S
  | .nil, _ => .no
  | .cons _ s _, 0 => s
  | .cons _ _ t, n + 1 => t.get n
def SF.set : SF → Nat → S → SF
  | .nil, _, _ => .nil
  | .cons n _ t, 0, s => .cons n s t
  | .cons n s t, k + 1, u => .cons n s (t.set k u)
def SF.labs : SF → List D
  | .nil => []
  | .cons n _ t => n :: t.labs
def SF.app : SF → D → S → SF
  | .nil, n, s => .cons n s .nil
  | .cons m u t, n, s => .cons m u (t.app n s)
/-- the place of an attribute, by its number -/
def SF.pos : SF → Nat → Option Nat
  | .nil, _ => none
  | .cons n _ t, k => match n with
    | .int i => if i = (k : Int) then some 0 else (t.pos k).map (· + 1)
    | _ => (t.pos k).map (· + 1)
/-- the place of a key -/
def SF.posK : SF → Option (Key ⊕ List Key) → Option Nat
  | .nil, _ => none
  | .cons n _ t, m => if keyA n = m then some 0 else (t.posK m).map (· + 1)
def S.kids : S → Option SF
  | .nl c => some c
  | .nt c => some c
  | .nd c => some c
  | .ob _ c => some c
  | _ => none
def S.wth : S → SF → S
  | .nl _, c => .nl c
  | .nt _, c => .nt c
  | .nd _, c => .nd c
  | .ob C _, c => .ob C c
  | s, _ => s
def S.at : S → List Nat → S
  | s, [] => s
  | s, n :: p => match s.kids with
    | some cs => (cs.get n).at p
    | none => .no
def S.put : S → List Nat → S → S
  | _, [], t => t
  | s, n :: p, t => match s.kids with
    | some cs => s.wth (cs.set n ((cs.get n).put p t))
    | none => s
theorem SF.set_len : ∀ (cs : SF) (n : Nat) (s : S), (cs.set n s).len = cs.len
  | .nil, _, _ => rfl
  | .cons _ _ t, 0, s => rfl
  | .cons _ _ t, n + 1, s => by show (t.set n s).len + 1 = t.len + 1; rw [SF.set_len]
theorem SF.set_labs : ∀ (cs : SF) (n : Nat) (s : S), (cs.set n s).labs = cs.labs
  | .nil, _, _ => rfl
  | .cons _ _ t, 0, s => rfl
  | .cons m _ t, n + 1, s => by show m :: (t.set n s).labs = m :: t.labs; rw [SF.set_labs]
theorem SF.get_set : ∀ (cs : SF) (n : Nat) (s : S), n < cs.len → (cs.set n s).get n = s
  | .nil, _, _, h => absurd h (Nat.not_lt_zero _)
  | .cons _ _ t, 0, s, _ => rfl
  | .cons _ _ t, n + 1, s, h => SF.get_set t n s (Nat.lt_of_succ_lt_succ h)
theorem SF.get_set_ne : ∀ (cs : SF) (n m : Nat) (s : S), n ≠ m → (cs.set n s).get m = cs.get m
  | .nil, _, _, _, _ => rfl
  | .cons _ _ t, 0, 0, s, h => absurd rfl h
  | .cons _ _ t, 0, m + 1, s, h => rfl
  | .cons _ _ t, n + 1, 0, s, h => rfl
  | .cons _ _ t, n + 1, m + 1, s, h => SF.get_set_ne t n m s fun z => h (congrArg (· + 1) z)
theorem SF.set_set : ∀ (cs : SF) (n : Nat) (s u : S), (cs.set n s).set n u = cs.set n u
  | .nil, _, _, _ => rfl
  | .cons _ _ t, 0, s, u => rfl
  | .cons _ _ t, n + 1, s, u => by show SF.cons _ _ ((t.set n s).set n u) = SF.cons _ _ (t.set n u); rw [SF.set_set]
theorem SF.get_ge : ∀ (cs : SF) (n : Nat), cs.len ≤ n → cs.get n = .no
  | .nil, _, _ => rfl
  | .cons _ _ t, 0, h => absurd h (Nat.not_succ_le_zero _)
  | .cons _ _ t, n + 1, h => SF.get_ge t n (Nat.le_of_succ_le_succ h)
theorem S.kids_wth {s : S} {cs ds : SF} (h : s.kids = some cs) : (s.wth ds).kids = some ds := by
  cases s <;> first | rfl | cases h
theorem S.wth_wth {s : S} {ds es : SF} : (s.wth ds).wth es = s.wth es := by cases s <;> rfl
theorem S.put_put : ∀ (p : List Nat) (s t u : S), (s.put p t).put p u = s.put p u
  | [], _, _, _ => rfl
  | n :: p, s, t, u => by
    show S.put (match s.kids with
      | some cs => s.wth (cs.set n ((cs.get n).put p t))
      | none => s) (n :: p) u = match s.kids with
      | some cs => s.wth (cs.set n ((cs.get n).put p u))
      | none => s
    cases e : s.kids with
    | none =>
      show (match s.kids with
      | some cs => s.wth (cs.set n ((cs.get n).put p u))
      | none => s) = s
      rw [e]
    | some cs =>
      show (match (s.wth (cs.set n ((cs.get n).put p t))).kids with
      | some cs' => (s.wth (cs.set n ((cs.get n).put p t))).wth (cs'.set n ((cs'.get n).put p u))
      | none => _) = s.wth (cs.set n ((cs.get n).put p u))
      rw [S.kids_wth e]
      show (s.wth (cs.set n ((cs.get n).put p t))).wth ((cs.set n ((cs.get n).put p t)).set n (((cs.set n ((cs.get n).put p t)).get n).put p u)) = _
      rw [S.wth_wth, SF.set_set]
      by_cases hn : n < cs.len
      · rw [SF.get_set _ _ _ hn, S.put_put p]
      · have hg : cs.get n = .no := SF.get_ge _ _ (by omega)
        have : ∀ x y, cs.set n x = cs.set n y := fun x y => by
          have go : ∀ (cs : SF) (n : Nat), cs.len ≤ n → ∀ x, cs.set n x = cs := by
            intro cs
            induction cs using SF.rec (motive_1 := fun _ => True) with
            | nil => intros; rfl
            | cons m s t _ ih =>
              intro n h x
              cases n with
              | zero => exact absurd h (Nat.not_succ_le_zero _)
              | succ n => show SF.cons m s (t.set n x) = _; rw [ih n (Nat.le_of_succ_le_succ h)]
            | _ => trivial
          rw [go cs n (by omega), go cs n (by omega)]
        rw [this _ ((cs.get n).put p u)]

/-- a dict at a, in H, its values standing in B -/
def DicAt (K : PySem.W.Frag) (B H : Hp) (a : Addr) (t : Bool) (kvs : List (D × D)) : Prop := (t = false ∧ ∃ xs, H a = some (.dK xs) ∧ DqKs K B xs kvs) ∨ (t = true ∧ ∃ xs, H a = some (.dT xs) ∧ DqTs K B xs kvs)
def LckAt (K : PySem.W.Frag) (B H : Hp) (od : Obj) (a : Addr) (t : Bool) (kvs : List (D × D)) : Prop := (t = false ∧ ∃ xs, H a = some (.frz od (.dK xs)) ∧ DqKs K B xs kvs) ∨ (t = true ∧ ∃ xs, H a = some (.frz od (.dT xs)) ∧ DqTs K B xs kvs)
def kidsH : HO → List V
  | .lst xs => xs
  | .tup xs => xs
  | .ins _ _ fs => fs.map (·.2)
  | .dK kvs => kvs.map (·.2)
  | .dT kvs => kvs.map (·.2)
  | _ => []
def labN (K : Kx) : D → Str
  | .int (.ofNat k) => K.nm k
  | _ => ""
/-- the node s at a: its children vs, its addresses N -/
def Node (K : Kx) (H : Hp) : S → Addr → List V → (Addr → Prop) → Prop
  | .nl _, a, vs, N => H a = some (.lst vs) ∧ ∀ x, N x ↔ x = a
  | .nt _, a, vs, N => H a = some (.tup vs) ∧ ∀ x, N x ↔ x = a
  | .nd cs, a, vs, N => ((∃ kvs : List (Key × V), H a = some (.dK kvs) ∧ vs = kvs.map (·.2) ∧ cs.labs.map keyD = kvs.map fun kv => some kv.1) ∨
      ∃ kvs : List (List Key × V), H a = some (.dT kvs) ∧ vs = kvs.map (·.2) ∧ cs.labs.map keyT = kvs.map fun kv => some kv.1) ∧ ∀ x, N x ↔ x = a
  | .ob C cs, a, vs, N => ∃ (dx : Addr) (fs : List (Str × V)), H a = some (.ins (K.cl C) dx fs) ∧ H dx = some (.own a) ∧ a ≠ dx ∧ vs = fs.map (·.2) ∧ (cs.labs.map (labN K) = fs.map (·.1) ∧ (fs.map (·.1)).Nodup) ∧
      Cls K.f (K.cl C) ∧ (∀ kv ∈ fs, NoAttr K.f (K.cl C) kv.1) ∧ ∀ x, N x ↔ x = a ∨ x = dx
  | _, _, _, _ => False
def OwnN (nd : Addr → List V → (Addr → Prop) → Prop) (of : List V → (Addr → Prop) → Prop) (v : V) (F : Addr → Prop) : Prop :=
  ∃ (a : Addr) (vs : List V) (N R : Addr → Prop), v = .ref a ∧ N a ∧ nd a vs N ∧ (∀ x, N x → F x) ∧ (∀ x, R x → F x ∧ ¬ N x) ∧ of vs R
mutual
/-- the tree s at the value v, its own objects within F -/
def Own (K : Kx) (B H : Hp) : S → V → (Addr → Prop) → Prop
  | .v d, v, _ => Dq K.f B v d
  | .l xs, v, F => ∃ a vs, v = .ref a ∧ F a ∧ H a = some (.lst vs) ∧ DqAll K.f B vs xs
  | .dc t kvs, v, F => ∃ a, v = .ref a ∧ F a ∧ DicAt K.f B H a t kvs
  | .lk t od kvs, v, F => ∃ a, v = .ref a ∧ F a ∧ LckAt K.f B H od a t kvs
  | .nl cs, v, F => OwnN (Node K H (.nl cs)) (fun vs R => OwnF K B H cs vs R) v F
  | .nt cs, v, F => OwnN (Node K H (.nt cs)) (fun vs R => OwnF K B H cs vs R) v F
  | .nd cs, v, F => OwnN (Node K H (.nd cs)) (fun vs R => OwnF K B H cs vs R) v F
  | .ob C cs, v, F => OwnN (Node K H (.ob C cs)) (fun vs R => OwnF K B H cs vs R) v F
  | .no, _, _ => True
  | .al _ _, _, _ => True
  | .gh _ _ _, _, _ => True
def OwnF (K : Kx) (B H : Hp) : SF → List V → (Addr → Prop) → Prop
  | .nil, vs, _ => vs = []
  | .cons _ s t, vs, F => ∃ v ws, ∃ R1 R2 : Addr → Prop, vs = v :: ws ∧ (∀ x, R1 x → F x) ∧ (∀ x, R2 x → F x) ∧ (∀ x, R1 x → R2 x → False) ∧ Own K B H s v R1 ∧ OwnF K B H t ws R2
end
section
variable {K : PySem.W.Frag} {B B' H H' : Hp}
theorem DicAt.frame {a : Addr} {t : Bool} {kvs : List (D × D)} (h : DicAt K B H a t kvs) (eb : Ex B B') (eh : ∀ o, H a = some o → H' a = some o) : DicAt K B' H' a t kvs := by
  rcases h with ⟨ht, xs, e, q⟩ | ⟨ht, xs, e, q⟩
  · exact .inl ⟨ht, xs, eh _ e, dks_mono eb q⟩
  · exact .inr ⟨ht, xs, eh _ e, dts_mono eb q⟩
theorem LckAt.frame {od : Obj} {a : Addr} {t : Bool} {kvs : List (D × D)} (h : LckAt K B H od a t kvs) (eb : Ex B B') (eh : ∀ o, H a = some o → H' a = some o) : LckAt K B' H' od a t kvs := by
  rcases h with ⟨ht, xs, e, q⟩ | ⟨ht, xs, e, q⟩
  · exact .inl ⟨ht, xs, eh _ e, dks_mono eb q⟩
  · exact .inr ⟨ht, xs, eh _ e, dts_mono eb q⟩
end
section
variable {K : Kx} {B B' H H' : Hp}
theorem Node.frame {a : Addr} {vs : List V} {N : Addr → Prop} {s : S} (h : Node K H s a vs N) (e : ∀ x o, N x → H x = some o → H' x = some o) : Node K H' s a vs N := by
  cases s with
  | nl c => exact ⟨e a _ ((h.2 a).mpr rfl) h.1, h.2⟩
  | nt c => exact ⟨e a _ ((h.2 a).mpr rfl) h.1, h.2⟩
  | nd c =>
    obtain ⟨h1, n⟩ := h
    refine ⟨?_, n⟩
    rcases h1 with ⟨kvs, h, q⟩ | ⟨kvs, h, q⟩
    · exact .inl ⟨kvs, e a _ ((n a).mpr rfl) h, q⟩
    · exact .inr ⟨kvs, e a _ ((n a).mpr rfl) h, q⟩
  | ob C c =>
    obtain ⟨dx, fs, h1, h2, h3, h4, h5, h6, h7, n⟩ := h
    exact ⟨dx, fs, e a _ ((n a).mpr (.inl rfl)) h1, e dx _ ((n dx).mpr (.inr rfl)) h2, h3, h4, h5, h6, h7, n⟩
  | _ => exact h.elim
theorem Node.kids {a : Addr} {vs : List V} {N : Addr → Prop} {s : S} (h : Node K H s a vs N) : ∃ o, H a = some o ∧ kidsH o = vs := by
  cases s with
  | nl c => exact ⟨_, h.1, rfl⟩
  | nt c => exact ⟨_, h.1, rfl⟩
  | nd c =>
    obtain ⟨h1, n⟩ := h
    rcases h1 with ⟨kvs, h, q, _⟩ | ⟨kvs, h, q, _⟩
    · exact ⟨_, h, q.symm⟩
    · exact ⟨_, h, q.symm⟩
  | ob C c =>
    obtain ⟨dx, fs, h1, h2, h3, h4, _⟩ := h
    exact ⟨_, h1, h4.symm⟩
  | _ => exact h.elim
theorem Node.on {a : Addr} {vs : List V} {N : Addr → Prop} {s : S} (h : Node K H s a vs N) : ∀ x, N x → H x ≠ none := by
  cases s with
  | nl c => exact fun x q z => by rw [(h.2 x).mp q, h.1] at z; cases z
  | nt c => exact fun x q z => by rw [(h.2 x).mp q, h.1] at z; cases z
  | nd c =>
    obtain ⟨h1, n⟩ := h
    rcases h1 with ⟨kvs, h, q, _⟩ | ⟨kvs, h, q, _⟩
    · exact fun x q z => by rw [(n x).mp q, h] at z; cases z
    · exact fun x q z => by rw [(n x).mp q, h] at z; cases z
  | ob C c =>
    obtain ⟨dx, fs, h1, h2, h3, h4, _, _, _, n⟩ := h
    intro x q z
    rcases (n x).mp q with rfl | rfl
    · rw [h1] at z; cases z
    · rw [h2] at z; cases z
  | _ => exact h.elim
/-- the same node with other things at the same labels -/
theorem Node.wth {a : Addr} {vs : List V} {N : Addr → Prop} {ds cs : SF} {s : S} (e : s.kids = some cs) (l : ds.labs = cs.labs) (h : Node K H s a vs N) : Node K H (s.wth ds) a vs N := by
  cases s with
  | nl c => exact h
  | nt c => exact h
  | nd c =>
    cases e
    obtain ⟨h1, n⟩ := h
    refine ⟨?_, n⟩
    rcases h1 with ⟨kvs, h1, h2, h3⟩ | ⟨kvs, h1, h2, h3⟩
    · exact .inl ⟨kvs, h1, h2, by rw [l]; exact h3⟩
    · exact .inr ⟨kvs, h1, h2, by rw [l]; exact h3⟩
  | ob C c =>
    cases e
    obtain ⟨dx, fs, h1, h2, h3, h4, h5, h6⟩ := h
    exact ⟨dx, fs, h1, h2, h3, h4, ⟨(congrArg _ l).trans h5.1, h5.2⟩, h6⟩
  | _ => exact h.elim
theorem own_node {s : S} {cs : SF} {v : V} {F : Addr → Prop} (e : s.kids = some cs) : Own K B H s v F ↔ OwnN (Node K H s) (fun vs R => OwnF K B H cs vs R) v F := by
  cases s with
  | nl c => cases e; rw [Own]
  | nt c => cases e; rw [Own]
  | nd c => cases e; rw [Own]
  | ob C c => cases e; rw [Own]
  | _ => cases e
mutual
theorem own_frame (eb : Ex B B') : ∀ (s : S) {v : V} {F F' : Addr → Prop}, Own K B H s v F → (∀ a, F a → F' a) → (∀ a o, F a → H a = some o → H' a = some o) → Own K B' H' s v F'
  | .no, _, _, _, _, _, _ => by rw [Own]; trivial
  | .al _ _, _, _, _, _, _, _ => by rw [Own]; trivial
  | .gh _ _ _, _, _, _, _, _, _ => by rw [Own]; trivial
  | .v d, _, _, _, h, _, _ => by rw [Own] at h ⊢; exact dp_mono eb _ _ h
  | .l xs, _, _, _, h, w, eh => by
    rw [Own] at h ⊢
    obtain ⟨a, vs, rfl, f, e, q⟩ := h
    exact ⟨a, vs, rfl, w a f, eh a _ f e, dps_mono eb _ _ q⟩
  | .dc t kvs, _, _, _, h, w, eh => by
    rw [Own] at h ⊢
    obtain ⟨a, rfl, f, q⟩ := h
    exact ⟨a, rfl, w a f, q.frame eb fun o => eh a o f⟩
  | .lk t od kvs, _, _, _, h, w, eh => by
    rw [Own] at h ⊢
    obtain ⟨a, rfl, f, q⟩ := h
    exact ⟨a, rfl, w a f, q.frame eb fun o => eh a o f⟩
  | .nl cs, _, _, _, h, w, eh => by
    rw [Own] at h ⊢
    obtain ⟨a, vs, N, R, rfl, na, nd, hN, hR, q⟩ := h
    exact ⟨a, vs, N, R, rfl, na, nd.frame fun x o n => eh x o (hN x n), fun x n => w x (hN x n), fun x r => ⟨w x (hR x r).1, (hR x r).2⟩, ownF_frame eb cs q (fun _ r => r) fun x o r => eh x o (hR x r).1⟩
  | .nt cs, _, _, _, h, w, eh => by
    rw [Own] at h ⊢
    obtain ⟨a, vs, N, R, rfl, na, nd, hN, hR, q⟩ := h
    exact ⟨a, vs, N, R, rfl, na, nd.frame fun x o n => eh x o (hN x n), fun x n => w x (hN x n), fun x r => ⟨w x (hR x r).1, (hR x r).2⟩, ownF_frame eb cs q (fun _ r => r) fun x o r => eh x o (hR x r).1⟩
  | .nd cs, _, _, _, h, w, eh => by
    rw [Own] at h ⊢
    obtain ⟨a, vs, N, R, rfl, na, nd, hN, hR, q⟩ := h
    exact ⟨a, vs, N, R, rfl, na, nd.frame fun x o n => eh x o (hN x n), fun x n => w x (hN x n), fun x r => ⟨w x (hR x r).1, (hR x r).2⟩, ownF_frame eb cs q (fun _ r => r) fun x o r => eh x o (hR x r).1⟩
  | .ob C cs, _, _, _, h, w, eh => by
    rw [Own] at h ⊢
    obtain ⟨a, vs, N, R, rfl, na, nd, hN, hR, q⟩ := h
    exact ⟨a, vs, N, R, rfl, na, nd.frame fun x o n => eh x o (hN x n), fun x n => w x (hN x n), fun x r => ⟨w x (hR x r).1, (hR x r).2⟩, ownF_frame eb cs q (fun _ r => r) fun x o r => eh x o (hR x r).1⟩
theorem ownF_frame (eb : Ex B B') : ∀ (cs : SF) {vs : List V} {F F' : Addr → Prop}, OwnF K B H cs vs F → (∀ a, F a → F' a) → (∀ a o, F a → H a = some o → H' a = some o) → OwnF K B' H' cs vs F'
  | .nil, _, _, _, h, _, _ => by rw [OwnF] at h ⊢; exact h
  | .cons n s t, _, _, _, h, w, eh => by
    rw [OwnF] at h ⊢
    obtain ⟨v, ws, R1, R2, rfl, i1, i2, dj, q1, q2⟩ := h
    exact ⟨v, ws, R1, R2, rfl, fun x r => w x (i1 x r), fun x r => w x (i2 x r), dj, own_frame eb s q1 (fun _ r => r) fun x o r => eh x o (i1 x r), ownF_frame eb t q2 (fun _ r => r) fun x o r => eh x o (i2 x r)⟩
end
variable {F F' : Addr → Prop} {s : S} {v : V}
theorem Own.frame (h : Own K B H s v F) (eb : Ex B B') (eh : ∀ a o, F a → H a = some o → H' a = some o) : Own K B' H' s v F := own_frame eb s h (fun _ z => z) eh
theorem Own.wide (h : Own K B H s v F) (f : ∀ a, F a → F' a) : Own K B H s v F' := own_frame (Ex.refl B) s h f fun _ _ _ z => z

/-! ### one child; a path -/
theorem ownF_len : ∀ {cs : SF} {vs : List V} {F : Addr → Prop}, OwnF K B H cs vs F → vs.length = cs.len
  | .nil, _, _, h => by rw [OwnF] at h; subst h; rfl
  | .cons _ s t, _, _, h => by
    rw [OwnF] at h
    obtain ⟨v, ws, R1, R2, rfl, _, _, _, _, q2⟩ := h
    show ws.length + 1 = t.len + 1
    rw [ownF_len q2]
theorem ownF_kid : ∀ {cs : SF} {vs : List V} {F : Addr → Prop} {n : Nat}, OwnF K B H cs vs F → n < cs.len → ∃ w R1, vs[n]? = some w ∧ Own K B H (cs.get n) w R1 ∧ (∀ x, R1 x → F x) ∧
    ∀ (s' : S) (R' : Addr → Prop), Own K B H s' w R' → (∀ x, R' x → F x → R1 x) → OwnF K B H (cs.set n s') vs (fun x => (F x ∧ ¬ R1 x) ∨ R' x)
  | .nil, _, _, _, _, h => absurd h (Nat.not_lt_zero _)
  | .cons m s t, _, F, 0, h, _ => by
    rw [OwnF] at h
    obtain ⟨v, ws, R1, R2, rfl, i1, i2, dj, q1, q2⟩ := h
    refine ⟨v, R1, rfl, q1, i1, fun s' R' o' d => ?_⟩
    show OwnF K B H (.cons m s' t) _ _
    rw [OwnF]
    exact ⟨v, ws, R', R2, rfl, fun x r => .inr r, fun x r => .inl ⟨i2 x r, fun z => dj x z r⟩, fun x r r2 => dj x (d x r (i2 x r2)) r2, o', q2⟩
  | .cons m s t, _, F, n + 1, h, hn => by
    rw [OwnF] at h
    obtain ⟨v, ws, R1, R2, rfl, i1, i2, dj, q1, q2⟩ := h
    obtain ⟨w, R3, e, o3, r3, k⟩ := ownF_kid q2 (Nat.lt_of_succ_lt_succ hn)
    refine ⟨w, R3, e, o3, fun x r => i2 x (r3 x r), fun s' R' o' d => ?_⟩
    show OwnF K B H (.cons m s (t.set n s')) _ _
    rw [OwnF]
    refine ⟨v, ws, R1, _, rfl, fun x r => .inl ⟨i1 x r, fun z => dj x r (r3 x z)⟩, fun x r => ?_, fun x r r2 => ?_, q1, k s' R' o' fun x r r2 => d x r (i2 x r2)⟩
    · rcases r with ⟨r, z⟩ | r
      · exact .inl ⟨i2 x r, z⟩
      · exact .inr r
    · rcases r2 with ⟨r2, _⟩ | r2
      · exact dj x r r2
      · exact dj x r (r3 x (d x r2 (i1 x r)))
theorem own_kid {cs : SF} {n : Nat} (h : Own K B H s v F) (e : s.kids = some cs) (hn : n < cs.len) : ∃ a o w R1, v = .ref a ∧ F a ∧ H a = some o ∧ (kidsH o)[n]? = some w ∧ Own K B H (cs.get n) w R1 ∧ (∀ x, R1 x → F x ∧ x ≠ a) ∧
    ∀ (s' : S) (R' : Addr → Prop), Own K B H s' w R' → (∀ x, R' x → F x → R1 x) → Own K B H (s.wth (cs.set n s')) v (fun x => (F x ∧ ¬ R1 x) ∨ R' x) := by
  obtain ⟨a, vs, N, R, rfl, na, nd, hN, hR, q⟩ := (own_node e).mp h
  obtain ⟨o, ho, ko⟩ := nd.kids
  obtain ⟨w, R1, ew, ow, r1, k⟩ := ownF_kid q hn
  refine ⟨a, o, w, R1, rfl, hN a na, ho, by rw [ko]; exact ew, ow, fun x r => ⟨(hR x (r1 x r)).1, fun z => (hR x (r1 x r)).2 (z ▸ na)⟩, fun s' R' o' d => ?_⟩
  refine (own_node (S.kids_wth e)).mpr ⟨a, vs, N, _, rfl, na, nd.wth e (SF.set_labs _ _ _), fun x n => .inl ⟨hN x n, fun z => (hR x (r1 x z)).2 n⟩, fun x r => ?_, k s' (fun x => R' x) o' fun x r z => d x r (hR x z).1⟩
  rcases r with ⟨r, z⟩ | r
  · exact ⟨.inl ⟨(hR x r).1, z⟩, (hR x r).2⟩
  · exact ⟨.inr r, fun z => (hR x (r1 x (d x r (hN x z)))).2 z⟩
/-- the value at a path of a tree -/
def Val (H : Hp) : S → V → List Nat → V → Prop
  | _, v, [], u => u = v
  | s, v, n :: p, u => ∃ cs a o w, s.kids = some cs ∧ n < cs.len ∧ v = .ref a ∧ H a = some o ∧ (kidsH o)[n]? = some w ∧ Val H (cs.get n) w p u
theorem val_put {t : S} : ∀ (p : List Nat) {s : S} {v : V} (q : List Nat) {u : V}, Val H s v q u → (q.length ≤ p.length ∨ s.at p = .no) → Val H (s.put p t) v q u
  | [], s, v, [], u, h, _ => h
  | [], s, v, n :: q, u, h, c => by
    obtain ⟨cs, a, o, w, e, _⟩ := h
    rcases c with c | c
    · exact absurd c (Nat.not_succ_le_zero _)
    · have c : s = .no := c
      subst c; cases e
  | n :: p, s, v, [], u, h, _ => h
  | n :: p, s, v, m :: q, u, h, c => by
    obtain ⟨cs, a, o, w, e, hm, rfl, ho, hw, q1⟩ := h
    have ep : s.put (n :: p) t = s.wth (cs.set n ((cs.get n).put p t)) := by
      show (match s.kids with
        | some cs => s.wth (cs.set n ((cs.get n).put p t))
        | none => s) = _
      rw [e]
    rw [ep]
    refine ⟨cs.set n ((cs.get n).put p t), a, o, w, S.kids_wth e, by rw [SF.set_len]; exact hm, rfl, ho, hw, ?_⟩
    by_cases z : n = m
    · subst z
      rw [SF.get_set _ _ _ hm]
      refine val_put p q q1 ?_
      rcases c with c | c
      · exact .inl (Nat.le_of_succ_le_succ c)
      · refine .inr ?_
        have c : (match s.kids with
          | some cs => (cs.get n).at p
          | none => S.no) = .no := c
        rwa [e] at c
    · rw [SF.get_set_ne _ _ _ _ z]
      exact q1
theorem val_frame (eh : ∀ x o, F x → H x = some o → H' x = some o) : ∀ (q : List Nat) {s : S} {v u : V} {R : Addr → Prop}, (∀ x, R x → F x) → Own K B H s v R → Val H s v q u → Val H' s v q u
  | [], _, _, _, _, _, _, h => h
  | n :: q, s, v, u, R, i, ow, h => by
    obtain ⟨cs, a, o, w, e, hm, rfl, ho, hw, q1⟩ := h
    obtain ⟨a', o', w', R1, ea, ra, ho', hw', ow', r1, _⟩ := own_kid ow e hm
    cases ea
    rw [ho] at ho'
    cases ho'
    rw [hw] at hw'
    cases hw'
    exact ⟨cs, a, o, w, e, hm, rfl, eh a o (i a ra) ho, hw, val_frame eh q (fun x r => i x (r1 x r).1) ow' q1⟩
theorem at_kid {s : S} {n : Nat} {p : List Nat} (h : s.at (n :: p) ≠ .no) : ∃ cs, s.kids = some cs ∧ n < cs.len ∧ s.at (n :: p) = (cs.get n).at p ∧ ∀ t, s.put (n :: p) t = s.wth (cs.set n ((cs.get n).put p t)) := by
  cases e : s.kids with
  | none =>
    exfalso
    apply h
    show (match s.kids with
      | some cs => (cs.get n).at p
      | none => S.no) = _
    rw [e]
  | some cs =>
    have e1 : s.at (n :: p) = (cs.get n).at p := by
      show (match s.kids with
        | some cs => (cs.get n).at p
        | none => S.no) = _
      rw [e]
    refine ⟨cs, rfl, ?_, e1, fun t => ?_⟩
    · refine Classical.byContradiction fun z => h ?_
      rw [e1, SF.get_ge _ _ (by omega)]
      cases p with
      | nil => rfl
      | cons m p => rfl
    · show (match s.kids with
        | some cs => s.wth (cs.set n ((cs.get n).put p t))
        | none => s) = _
      rw [e]
/-- what stands at a path is taken out -/
theorem own_take : ∀ (p : List Nat) {s : S} {v : V} {F : Addr → Prop}, Own K B H s v F → s.at p ≠ .no → ∃ u R, Val H s v p u ∧ Own K B H (s.at p) u R ∧ (∀ x, R x → F x) ∧ Own K B H (s.put p .no) v (fun x => F x ∧ ¬ R x)
  | [], s, v, F, h, _ => ⟨v, F, rfl, h, fun _ z => z, by show Own K B H .no v _; rw [Own]; trivial⟩
  | n :: p, s, v, F, h, c => by
    obtain ⟨cs, e, hn, e1, e2⟩ := at_kid c
    obtain ⟨a, o, w, R1, rfl, fa, ho, hw, ow, r1, k⟩ := own_kid h e hn
    rw [e1] at c
    obtain ⟨u, R, v1, o1, r2, o2⟩ := own_take p ow c
    refine ⟨u, R, ⟨cs, a, o, w, e, hn, rfl, ho, hw, v1⟩, by rw [e1]; exact o1, fun x r => (r1 x (r2 x r)).1, ?_⟩
    rw [e2]
    refine (k _ _ o2 fun x r _ => r.1).wide fun x r => ?_
    rcases r with ⟨f, z⟩ | ⟨f, z⟩
    · exact ⟨f, fun q => z (r2 x q)⟩
    · exact ⟨(r1 x f).1, z⟩
/-- a thing is put where nothing is known -/
theorem own_give {t : S} {u : V} {R : Addr → Prop} : ∀ (p : List Nat) {s : S} {v : V} {F : Addr → Prop}, Own K B H s v F → s.at p = .no → Val H s v p u → Own K B H t u R → (∀ x, R x → ¬ F x) → Own K B H (s.put p t) v (fun x => F x ∨ R x)
  | [], s, v, F, h, _, hv, ht, _ => by
    have hv : u = v := hv
    subst hv
    exact ht.wide fun x r => .inr r
  | n :: p, s, v, F, h, c, hv, ht, d => by
    obtain ⟨cs, a, o, w, e, hn, rfl, ho, hw, v1⟩ := hv
    obtain ⟨a', o', w', R1, ea, fa, ho', hw', ow, r1, k⟩ := own_kid h e hn
    cases ea
    rw [ho] at ho'
    cases ho'
    rw [hw] at hw'
    cases hw'
    have e1 : s.at (n :: p) = (cs.get n).at p := by
      show (match s.kids with
        | some cs => (cs.get n).at p
        | none => S.no) = _
      rw [e]
    have e2 : s.put (n :: p) t = s.wth (cs.set n ((cs.get n).put p t)) := by
      show (match s.kids with
        | some cs => s.wth (cs.set n ((cs.get n).put p t))
        | none => s) = _
      rw [e]
    rw [e1] at c
    have ih := own_give p ow c v1 ht fun x r z => d x r (r1 x z).1
    rw [e2]
    refine (k _ _ ih fun x r f => r.elim (fun z => z) fun z => absurd f (d x z)).wide fun x r => ?_
    rcases r with ⟨f, _⟩ | f | f
    · exact .inl f
    · exact .inl (r1 x f).1
    · exact .inr f
end
end Dl

set_option maxHeartbeats 2000000
namespace Dl
open PySem L2
/-- the bounds of a def's world: B stands for ever, G is its own -/
structure Ok (B H : Hp) (G : Addr → Prop) : Prop where
  ex : Ex B H
  off : ∀ a, G a → B a = none
  on : ∀ a, G a → H a ≠ none
/-- objects were made, nothing else -/
structure Gr (B H B' H' : Hp) : Prop where
  b : Ex B B'
  h : Ex H H'
  ex : Ex B' H'
  nw : ∀ a, B' a ≠ none → B a ≠ none ∨ H a = none
/-- a def went on: its own may have changed -/
structure Ext (B H : Hp) (G : Addr → Prop) (B' H' : Hp) (G' : Addr → Prop) : Prop where
  b : Ex B B'
  keep : ∀ a o, ¬ G a → H a = some o → H' a = some o
  nw : ∀ a, B' a ≠ none → B a ≠ none ∨ H a = none ∨ G a
  own : ∀ a, G' a → G a ∨ H a = none
  all : ∀ a, H a ≠ none → H' a ≠ none
section
variable {B H B1 H1 B2 H2 : Hp} {G G1 G2 : Addr → Prop}
theorem Gr.refl (e : Ex B H) : Gr B H B H := ⟨Ex.refl B, Ex.refl H, e, fun _ h => .inl h⟩
theorem Gr.trans (x : Gr B H B1 H1) (y : Gr B1 H1 B2 H2) : Gr B H B2 H2 :=
  ⟨x.b.trans y.b, x.h.trans y.h, y.ex, fun a h => (y.nw a h).elim (fun z => x.nw a z) fun z => .inr (x.h.back z)⟩
theorem Ok.gr (x : Ok B H G) (y : Gr B H B1 H1) : Ok B1 H1 G :=
  ⟨y.ex, fun a g => Classical.byContradiction fun z => (y.nw a z).elim (fun q => q (x.off a g)) (fun q => x.on a g q), fun a g => y.h.fwd (x.on a g)⟩
theorem Ext.refl : Ext B H G B H G := ⟨Ex.refl B, fun _ _ _ h => h, fun _ h => .inl h, fun _ h => .inl h, fun _ h => h⟩
theorem Ext.gr (x : Gr B H B1 H1) : Ext B H G B1 H1 G := ⟨x.b, fun a o _ h => x.h a o h, fun a h => (x.nw a h).elim .inl fun z => .inr (.inl z), fun _ h => .inl h, fun a h => x.h.fwd h⟩
theorem Ext.trans (x : Ext B H G B1 H1 G1) (y : Ext B1 H1 G1 B2 H2 G2) : Ext B H G B2 H2 G2 := by
  refine ⟨x.b.trans y.b, fun a o ng e => ?_, fun a h => ?_, fun a g => ?_, fun a h => y.all a (x.all a h)⟩
  · refine y.keep a o (fun g1 => ?_) (x.keep a o ng e)
    rcases x.own a g1 with q | q
    · exact ng q
    · rw [q] at e; cases e
  · rcases y.nw a h with q | q | q
    · exact x.nw a q
    · refine .inr (.inl (Classical.byContradiction fun z => x.all a z q))
    · rcases x.own a q with r | r
      · exact .inr (.inr r)
      · exact .inr (.inl r)
  · rcases y.own a g with q | q
    · exact x.own a q
    · exact .inr (Classical.byContradiction fun z => x.all a z q)
end


/-- the value at a place of the local names -/
def ValS (H : Hp) (σ : St) (ρ : List S) (i : Nat) (p : List Nat) (u : V) : Prop := ∃ s w, ρ[i]? = some s ∧ σ[i]? = some (some w) ∧ Val H s w p u
/-- the local names: V by V -/
structure Rep (K : Kx) (A : Ax) (B H : Hp) (G : Addr → Prop) (σ : St) (ρ : List S) : Prop where
  ok : Ok B H G
  len : σ.length = A.n ∧ A.n ≤ ρ.length
  slot : ∃ R : Nat → Addr → Prop, (∀ i a, R i a → G a) ∧ (∀ i j a, R i a → R j a → i = j) ∧ ∀ i s, ρ[i]? = some s → s.live = true → ∃ v, σ[i]? = some (some v) ∧ Own K B H s v (R i)
  al : ∀ (j i : Nat) (p : List Nat), ρ[j]? = some (S.al i p) → A.A i = true ∧ ∃ v, σ[j]? = some (some v) ∧ ValS H σ ρ i p v
  gh : ∀ (j : Nat) (w : V) (i : Nat) (p : List Nat), ρ[j]? = some (S.gh w i p) → A.A i = true ∧ ValS H σ ρ i p w

/-- what an expression gives: data; a thing of our own, read; a new one -/
inductive Z where
  | v (d : D) | b (s : S) | n (s : S)
def ZIs (K : Kx) (B H : Hp) (G : Addr → Prop) (H_0 : Hp) : Z → V → Prop
  | .v d, v => Dq K.f B v d
  | .b s, v => ∃ R, (∀ a, R a → G a) ∧ s.tru = true ∧ Own K B H s v R
  | .n s, v => ∃ R, (∀ a, R a → H_0 a = none ∧ B a = none ∧ H a ≠ none) ∧ s.tru = true ∧ Own K B H s v R
def S.data : S → Option D
  | .v d => some d
  | .l xs => some (.list xs)
  | _ => none
def Z.data : Z → Option D
  | .v d => some d
  | .b s => s.data
  | .n s => s.data
/-- as data that stands by itself: not what is only read -/
def Z.own : Z → Option D
  | .v d => some d
  | .b _ => none
  | .n s => s.data
theorem S.data_cases {s : S} {d : D} (h : s.data = some d) : s = .v d ∨ ∃ xs, s = .l xs ∧ d = .list xs := by
  cases s with
  | v d' => cases h; exact .inl rfl
  | l xs => cases h; exact .inr ⟨xs, rfl, rfl⟩
  | _ => cases h
section
variable {K : Kx} {B B' H H' H_0 H_1 : Hp} {G : Addr → Prop} {R : Addr → Prop} {s : S} {z : Z} {v : V} {d : D}
theorem Own.vv (h : Own K B H (.v d) v R) : Dq K.f B v d := by rw [Own] at h; exact h
theorem Own.ofv (h : Dq K.f B v d) : Own K B H (.v d) v R := by rw [Own]; exact h
theorem Own.ll {xs : List D} (h : Own K B H (.l xs) v R) : ∃ a vs, v = .ref a ∧ R a ∧ H a = some (.lst vs) ∧ DqAll K.f B vs xs := by rw [Own] at h; exact h
theorem Own.ofl {xs : List D} {a : Addr} {vs : List V} (f : R a) (e : H a = some (.lst vs)) (q : DqAll K.f B vs xs) : Own K B H (.l xs) (.ref a) R := by rw [Own]; exact ⟨a, vs, rfl, f, e, q⟩
theorem Own.dcc {t : Bool} {kvs : List (D × D)} (h : Own K B H (.dc t kvs) v R) : ∃ a, v = .ref a ∧ R a ∧ DicAt K.f B H a t kvs := by rw [Own] at h; exact h
theorem Own.ofdc {t : Bool} {kvs : List (D × D)} {a : Addr} (f : R a) (q : DicAt K.f B H a t kvs) : Own K B H (.dc t kvs) (.ref a) R := by rw [Own]; exact ⟨a, rfl, f, q⟩
theorem Own.dp (h : Own K B H s v R) (e : Ex B H) (hd : s.data = some d) : Dq K.f H v d := by
  rcases S.data_cases hd with rfl | ⟨xs, rfl, rfl⟩
  · exact dp_mono e _ _ h.vv
  · obtain ⟨a, vs, rfl, f, e', q⟩ := h.ll
    exact .lst (.inl e') (dps_mono e _ _ q)
theorem ZIs.dp (h : ZIs K B H G H_0 z v) (e : Ex B H) (hd : z.data = some d) : Dq K.f H v d := by
  cases z with
  | v d' => cases hd; exact dp_mono e _ _ h
  | b s => obtain ⟨R, _, _, q⟩ := h; exact q.dp e hd
  | n s => obtain ⟨R, _, _, q⟩ := h; exact q.dp e hd
theorem ZIs.gr (h : ZIs K B H G H_0 z v) (g : Gr B H B' H') : ZIs K B' H' G H_0 z v := by
  cases z with
  | v d' => exact dp_mono g.b _ _ h
  | b s => obtain ⟨R, r, nn, q⟩ := h; exact ⟨R, r, nn, q.frame g.b fun a o _ e => g.h a o e⟩
  | n s =>
    obtain ⟨R, r, nn, q⟩ := h
    refine ⟨R, fun a ra => ⟨(r a ra).1, ?_, g.h.fwd (r a ra).2.2⟩, nn, q.frame g.b fun a o _ e => g.h a o e⟩
    exact Classical.byContradiction fun z => (g.nw a z).elim (fun q => q (r a ra).2.1) fun q => (r a ra).2.2 q
theorem ZIs.early (h : ZIs K B H G H_1 z v) (e : Ex H_0 H_1) : ZIs K B H G H_0 z v := by
  cases z with
  | v d' => exact h
  | b s => exact h
  | n s =>
    obtain ⟨R, r, nn, q⟩ := h
    exact ⟨R, fun a ra => ⟨e.back (r a ra).1, (r a ra).2⟩, nn, q⟩
/-- a region becomes part of what stands for ever -/
noncomputable def froz (B H : Hp) (R : Addr → Prop) : Hp := fun a => open Classical in if R a then H a else B a
theorem froz_ex (off : ∀ a, R a → B a = none) : Ex B (froz B H R) := fun a o h => by
  unfold froz
  rw [if_neg]
  · exact h
  · intro ra
    rw [off a ra] at h; cases h
theorem froz_to (ex : Ex B H) : Ex (froz B H R) H := fun a o h => by
  unfold froz at h
  by_cases ra : R a
  · rw [if_pos ra] at h; exact h
  · rw [if_neg ra] at h; exact ex a o h
theorem froz_in {a : Addr} (h : froz B H R a ≠ none) : B a ≠ none ∨ R a := by
  unfold froz at h
  by_cases ra : R a
  · exact .inr ra
  · rw [if_neg ra] at h; exact .inl h
theorem froz_gr {B_0 H_0 B H : Hp} {R : Addr → Prop} (r : ∀ a, R a → H_0 a = none ∧ B a = none ∧ H a ≠ none) (g : Gr B_0 H_0 B H) : Gr B_0 H_0 (froz B H R) H ∧ Ex B (froz B H R) := by
  have eb : Ex B (froz B H R) := froz_ex fun a ra => (r a ra).2.1
  exact ⟨⟨g.b.trans eb, g.h, froz_to g.ex, fun a h => (froz_in h).elim (fun z => g.nw a z) fun z => .inr (r a z).1⟩, eb⟩
theorem Own.froz (h : Own K B H s v R) (eb : Ex B (froz B H R)) (hd : s.data = some d) : Dq K.f (froz B H R) v d := by
  rcases S.data_cases hd with rfl | ⟨xs, rfl, rfl⟩
  · exact dp_mono eb _ _ h.vv
  · obtain ⟨a, vs, rfl, f, e', q⟩ := h.ll
    refine .lst (.inl ?_) (dps_mono eb _ _ q)
    unfold Dl.froz
    rw [if_pos f]
    exact e'
/-- a new thing, frozen -/
theorem ZIs.clean {B_0 : Hp} (h : ZIs K B H G H_0 z v) (g : Gr B_0 H_0 B H) (hd : z.own = some d) : ∃ B', Gr B_0 H_0 B' H ∧ Ex B B' ∧ Dq K.f B' v d := by
  cases z with
  | v d' => cases hd; exact ⟨B, g, Ex.refl B, h⟩
  | b s => cases hd
  | n s =>
    obtain ⟨R, r, _, q⟩ := h
    obtain ⟨g', eb⟩ := froz_gr r g
    exact ⟨_, g', eb, q.froz eb hd⟩
end

/-! ### the local names, when something happens -/
section
variable {K : Kx} {A : Ax} {B B' H H' : Hp} {G G' : Addr → Prop} {σ : St} {ρ : List S} {i : Nat} {p : List Nat} {u v w : V} {d : D} {s t : S} {z : Z}
theorem Rep.sval (p : Rep K A B H G σ ρ) (eh : ∀ a o, G a → H a = some o → H' a = some o) {q : List Nat} (h : ValS H σ ρ i q u) : ValS H' σ ρ i q u := by
  obtain ⟨s, w, e1, e2, hv⟩ := h
  refine ⟨s, w, e1, e2, ?_⟩
  cases q with
  | nil => exact hv
  | cons n q =>
    obtain ⟨R, r1, r2, r3⟩ := p.slot
    have hl : s.live = true := by
      obtain ⟨cs, _, _, _, e, _⟩ := hv
      cases s <;> first | rfl | cases e
    obtain ⟨v, ev, ow⟩ := r3 i s e1 hl
    rw [e2] at ev
    cases ev
    exact val_frame (F := G) eh _ (r1 i) ow hv
/-- all of our own stands; the rest may be another -/
theorem Rep.frame (p : Rep K A B H G σ ρ) (ok : Ok B' H' G) (eb : Ex B B') (eh : ∀ a o, G a → H a = some o → H' a = some o) : Rep K A B' H' G σ ρ := by
  obtain ⟨R, r1, r2, r3⟩ := p.slot
  refine ⟨ok, p.len, ⟨R, r1, r2, fun i s e ns => ?_⟩, fun j i q e => ?_, fun j w i q e => ?_⟩
  · obtain ⟨v, e1, q⟩ := r3 i s e ns
    exact ⟨v, e1, q.frame eb fun a o f h => eh a o (r1 i a f) h⟩
  · obtain ⟨a1, v, e1, h⟩ := p.al j i q e
    exact ⟨a1, v, e1, p.sval eh h⟩
  · obtain ⟨a1, h⟩ := p.gh j w i q e
    exact ⟨a1, p.sval eh h⟩
theorem Rep.gr (p : Rep K A B H G σ ρ) (g : Gr B H B' H') : Rep K A B' H' G σ ρ := p.frame (p.ok.gr g) g.b fun a o _ h => g.h a o h
theorem Rep.ex (p : Rep K A B H G σ ρ) : Ex B H := p.ok.ex
theorem Rep.get (p : Rep K A B H G σ ρ) (e : ρ[i]? = some s) (ns : s.live = true) : ∃ v, σ[i]? = some (some v) ∧ ∃ R, (∀ a, R a → G a) ∧ Own K B H s v R := by
  obtain ⟨R, r1, r2, r3⟩ := p.slot
  obtain ⟨v, e1, q⟩ := r3 i s e ns
  exact ⟨v, e1, R i, r1 i, q⟩
/-- more of our own, nothing of it named -/
theorem Rep.wide (p : Rep K A B H G σ ρ) (ok : Ok B H G') (h : ∀ a, G a → G' a) : Rep K A B H G' σ ρ := by
  obtain ⟨R, r1, r2, r3⟩ := p.slot
  exact ⟨ok, p.len, ⟨R, fun i a r => h a (r1 i a r), r2, r3⟩, p.al, p.gh⟩

theorem get_set {α : Type} {xs : List α} {i j : Nat} {x y : α} (h : (xs.set i x)[j]? = some y) : (j = i ∧ y = x ∧ i < xs.length) ∨ (j ≠ i ∧ xs[j]? = some y) := by
  by_cases hj : i = j
  · subst hj
    have hi : i < xs.length := by
      have := (List.getElem?_eq_some_iff.mp h).1
      rwa [List.length_set] at this
    rw [List.getElem?_set_self hi] at h
    cases h
    exact .inl ⟨rfl, rfl, hi⟩
  · rw [List.getElem?_set_ne hj] at h
    exact .inr ⟨fun z => hj z.symm, h⟩
/-- places of other slots, when slot i is set -/
theorem ValS.set {j : Nat} {q : List Nat} {x : S} {y : Option V} (h : ValS H σ ρ j q u) (ne : j ≠ i) : ValS H (σ.set i y) (ρ.set i x) j q u := by
  obtain ⟨s, w, e1, e2, hv⟩ := h
  exact ⟨s, w, by rw [List.getElem?_set_ne (Ne.symm ne)]; exact e1, by rw [List.getElem?_set_ne (Ne.symm ne)]; exact e2, hv⟩
/-- nothing names slot i -/
def NoAl (ρ : List S) (i : Nat) : Prop := (∀ (j k : Nat) (q : List Nat), ρ[j]? = some (S.al k q) → k ≠ i) ∧ ∀ (j : Nat) (w : V) (k : Nat) (q : List Nat), ρ[j]? = some (S.gh w k q) → k ≠ i
theorem Rep.noAl (p : Rep K A B H G σ ρ) (hA : A.A i = false) : NoAl ρ i := by
  refine ⟨fun j k q e z => ?_, fun j w k q e z => ?_⟩
  · have h := (p.al j k q e).1
    rw [z, hA] at h
    cases h
  · have h := (p.gh j w k q e).1
    rw [z, hA] at h
    cases h
/-- a slot without second names is set -/
theorem Rep.set1 (p : Rep K A B H G σ ρ) (hA : NoAl ρ i) (hi : i < A.n) {R' : Addr → Prop} (h : Own K B H s v R') (hs : ∀ k q, s ≠ .al k q) (hg : ∀ w k q, s ≠ .gh w k q) (r : ∀ a, R' a → B a = none ∧ H a ≠ none) (hG : ∀ a, R' a → ¬ G a) :
    Rep K A B H (fun a => G a ∨ R' a) (σ.set i (some v)) (ρ.set i s) := by
  obtain ⟨R, r1, r2, r3⟩ := p.slot
  refine ⟨⟨p.ok.ex, fun a g => g.elim (p.ok.off a) fun z => (r a z).1, fun a g => g.elim (p.ok.on a) fun z => (r a z).2⟩, by rw [List.length_set, List.length_set]; exact p.len, ⟨fun j a => if j = i then R' a else R j a, fun j a hj => ?_, fun j k a hj hk => ?_, fun j t e ns => ?_⟩, fun j k q e => ?_, fun j w k q e => ?_⟩
  · by_cases h0 : j = i
    · exact .inr (by simpa [h0] using hj)
    · exact .inl (r1 j a (by simpa [h0] using hj))
  · by_cases h0 : j = i <;> by_cases h1 : k = i
    · rw [h0, h1]
    · simp only [h0, h1, if_true, if_false] at hj hk
      exact absurd (r1 k a hk) (hG a hj)
    · simp only [h0, h1, if_true, if_false] at hj hk
      exact absurd (r1 j a hj) (hG a hk)
    · simp only [h0, h1, if_false] at hj hk
      exact r2 j k a hj hk
  · rcases get_set e with ⟨rfl, rfl, hl⟩ | ⟨hj, e⟩
    · exact ⟨v, List.getElem?_set_self (by rw [p.len.1]; exact hi), by simpa using h⟩
    · obtain ⟨w, e1, q⟩ := r3 j t e ns
      exact ⟨w, by rw [List.getElem?_set_ne (Ne.symm hj)]; exact e1, by simpa [hj] using q⟩
  · rcases get_set e with ⟨rfl, e, _⟩ | ⟨hj, e⟩
    · exact absurd e.symm (hs k q)
    · obtain ⟨a1, x, e1, hv⟩ := p.al j k q e
      exact ⟨a1, x, by rw [List.getElem?_set_ne (Ne.symm hj)]; exact e1, hv.set (hA.1 j k q e)⟩
  · rcases get_set e with ⟨rfl, e, _⟩ | ⟨hj, e⟩
    · exact absurd e.symm (hg w k q)
    · obtain ⟨a1, hv⟩ := p.gh j w k q e
      exact ⟨a1, hv.set (hA.2 j w k q e)⟩
/-- a slot that names nothing may hold anything -/
theorem Rep.out (p : Rep K A B H G σ ρ) (hA : NoAl ρ i) (x : Option V) : Rep K A B H G (σ.set i x) (ρ.set i .no) := by
  obtain ⟨R, r1, r2, r3⟩ := p.slot
  refine ⟨p.ok, by rw [List.length_set, List.length_set]; exact p.len, ⟨R, r1, r2, fun j t e ns => ?_⟩, fun j k q e => ?_, fun j w k q e => ?_⟩
  · rcases get_set e with ⟨rfl, rfl, hl⟩ | ⟨hj, e⟩
    · cases ns
    · obtain ⟨w, e1, q⟩ := r3 j t e ns
      exact ⟨w, by rw [List.getElem?_set_ne (Ne.symm hj)]; exact e1, q⟩
  · rcases get_set e with ⟨rfl, e, _⟩ | ⟨hj, e⟩
    · cases e
    · obtain ⟨a1, x, e1, hv⟩ := p.al j k q e
      exact ⟨a1, x, by rw [List.getElem?_set_ne (Ne.symm hj)]; exact e1, hv.set (hA.1 j k q e)⟩
  · rcases get_set e with ⟨rfl, e, _⟩ | ⟨hj, e⟩
    · cases e
    · obtain ⟨a1, hv⟩ := p.gh j w k q e
      exact ⟨a1, hv.set (hA.2 j w k q e)⟩
/-- a name gets data -/
theorem Rep.setV (p : Rep K A B H G σ ρ) (hA : NoAl ρ i) (hi : i < A.n) (h : Dq K.f B v d) : Rep K A B H G (σ.set i (some v)) (ρ.set i (.v d)) :=
  (p.set1 hA hi (R' := fun _ => False) (s := .v d) (Own.ofv h) (fun _ _ z => nomatch z) (fun _ _ _ z => nomatch z) (fun _ z => z.elim) (fun _ z => z.elim)).wide p.ok fun _ z => z.elim (fun q => q) fun q => q.elim
/-- a name gets a new thing -/
theorem Rep.setN (p : Rep K A B H G σ ρ) (hA : NoAl ρ i) (hi : i < A.n) {R' : Addr → Prop} (h : Own K B H s v R') (hs : ∀ k q, s ≠ .al k q) (hg : ∀ w k q, s ≠ .gh w k q) (r : ∀ a, R' a → B a = none ∧ H a ≠ none) (hG : ∀ a, R' a → ¬ G a) :
    Rep K A B H (fun a => G a ∨ R' a) (σ.set i (some v)) (ρ.set i s) := p.set1 hA hi h hs hg r hG

/-! ### places -/
/-- second names below a place are forgotten -/
def killS (i n : Nat) : S → S
  | .al j q => if j = i ∧ n < q.length then .no else .al j q
  | .gh w j q => if j = i ∧ n < q.length then .no else .gh w j q
  | s => s
def kill (i n : Nat) (ρ : List S) : List S := ρ.map (killS i n)
def putP (ρ : List S) (i : Nat) (p : List Nat) (t : S) : List S := match ρ[i]? with
  | some s => ρ.set i (s.put p t)
  | none => ρ
def atP (ρ : List S) (i : Nat) (p : List Nat) : S := match ρ[i]? with
  | some s => s.at p
  | none => .no
theorem killS_other {n : Nat} (h : s.kids ≠ none ∨ s.live = true ∧ ∀ j q, s ≠ .al j q) : killS i n s = s := by
  cases s <;> first | rfl | (rcases h with h | ⟨_, h⟩ <;> first | exact absurd rfl h | exact absurd rfl (h _ _)) | (rcases h with h | ⟨h, _⟩ <;> first | exact absurd rfl h | cases h)
theorem kill_get {j n : Nat} {x : S} (h : (kill i n ρ)[j]? = some x) : ∃ y, ρ[j]? = some y ∧ x = killS i n y := by
  unfold kill at h
  rw [List.getElem?_map] at h
  cases e : ρ[j]? with
  | none => rw [e] at h; cases h
  | some y => rw [e] at h; exact ⟨y, rfl, (Option.some.inj h).symm⟩
theorem killS_id {n : Nat} {x : S} (h : killS i n s = x) (hx : x ≠ .no) : s = x := by
  subst h
  cases s with
  | al j q =>
    have e : killS i n (.al j q) = if j = i ∧ n < q.length then S.no else S.al j q := rfl
    by_cases c : j = i ∧ n < q.length
    · rw [e, if_pos c] at hx; exact absurd rfl hx
    · rw [e, if_neg c]
  | gh w j q =>
    have e : killS i n (.gh w j q) = if j = i ∧ n < q.length then S.no else S.gh w j q := rfl
    by_cases c : j = i ∧ n < q.length
    · rw [e, if_pos c] at hx; exact absurd rfl hx
    · rw [e, if_neg c]
  | _ => rfl
theorem killS_al {n j : Nat} {q : List Nat} (h : killS i n s = .al j q) : s = .al j q ∧ (j = i → q.length ≤ n) := by
  obtain rfl := killS_id h (fun z => nomatch z)
  refine ⟨rfl, fun z => Nat.le_of_not_lt fun c => ?_⟩
  have e : killS i n (.al j q) = if j = i ∧ n < q.length then S.no else S.al j q := rfl
  rw [e, if_pos ⟨z, c⟩] at h
  cases h
theorem killS_gh {n j : Nat} {w : V} {q : List Nat} (h : killS i n s = .gh w j q) : s = .gh w j q ∧ (j = i → q.length ≤ n) := by
  obtain rfl := killS_id h (fun z => nomatch z)
  refine ⟨rfl, fun z => Nat.le_of_not_lt fun c => ?_⟩
  have e : killS i n (.gh w j q) = if j = i ∧ n < q.length then S.no else S.gh w j q := rfl
  rw [e, if_pos ⟨z, c⟩] at h
  cases h
theorem killS_kids {n : Nat} {cs : SF} (h : s.kids = some cs) : killS i n s = s := killS_other (.inl (by rw [h]; exact fun z => nomatch z))
theorem ValS.kill {j n m : Nat} {q : List Nat} (h : ValS H σ ρ j q u) : ValS H σ (kill n m ρ) j q u := by
  obtain ⟨s, w, e1, e2, hv⟩ := h
  refine ⟨killS n m s, w, by unfold Dl.kill; rw [List.getElem?_map, e1]; rfl, e2, ?_⟩
  cases q with
  | nil => exact hv
  | cons k q =>
    have hs : killS n m s = s := by
      obtain ⟨cs, _, _, _, e, _⟩ := hv
      exact killS_kids e
    rw [hs]
    exact hv
theorem Rep.kill (p : Rep K A B H G σ ρ) (n m : Nat) : Rep K A B H G σ (Dl.kill n m ρ) := by
  obtain ⟨R, r1, r2, r3⟩ := p.slot
  refine ⟨p.ok, by unfold Dl.kill; rw [List.length_map]; exact p.len, ⟨R, r1, r2, fun j t e ns => ?_⟩, fun j k q e => ?_, fun j w k q e => ?_⟩
  · obtain ⟨y, ey, hy⟩ := kill_get e
    have := killS_id hy.symm (fun z => by rw [z] at ns; cases ns)
    subst this
    exact r3 j _ ey ns
  · obtain ⟨y, ey, hy⟩ := kill_get e
    obtain ⟨rfl, _⟩ := killS_al hy.symm
    obtain ⟨a1, x, e1, hv⟩ := p.al j k q ey
    exact ⟨a1, x, e1, hv.kill⟩
  · obtain ⟨y, ey, hy⟩ := kill_get e
    obtain ⟨rfl, _⟩ := killS_gh hy.symm
    obtain ⟨a1, hv⟩ := p.gh j w k q ey
    exact ⟨a1, hv.kill⟩
theorem putP_some (e : ρ[i]? = some s) : putP ρ i p t = ρ.set i (s.put p t) := by unfold putP; rw [e]
theorem atP_some (e : ρ[i]? = some s) : atP ρ i p = s.at p := by unfold atP; rw [e]
theorem atP_slot (h : atP ρ i p ≠ .no) : ∃ s, ρ[i]? = some s ∧ atP ρ i p = s.at p := by
  cases e : ρ[i]? with
  | none => unfold atP at h; rw [e] at h; exact absurd rfl h
  | some s => exact ⟨s, rfl, atP_some e⟩
theorem putP_len : (putP ρ i p t).length = ρ.length := by
  unfold putP
  split
  · rw [List.length_set]
  · rfl
theorem putP_get {j : Nat} {x : S} (h : (putP ρ i p t)[j]? = some x) : (j = i ∧ ∃ s, ρ[i]? = some s ∧ x = s.put p t) ∨ (j ≠ i ∧ ρ[j]? = some x) := by
  cases e : ρ[i]? with
  | none =>
    unfold putP at h
    rw [e] at h
    refine .inr ⟨fun z => ?_, h⟩
    subst z
    rw [e] at h
    cases h
  | some s =>
    rw [putP_some e] at h
    rcases get_set h with ⟨rfl, rfl, _⟩ | ⟨hj, h⟩
    · exact .inl ⟨rfl, s, rfl, rfl⟩
    · exact .inr ⟨hj, h⟩
/-- places, when one place gets another thing: they were not below it, or nothing was known there -/
theorem ValS.putP {j : Nat} {q : List Nat} (h : ValS H σ ρ j q u) (c : j = i → q.length ≤ p.length ∨ atP ρ i p = .no) : ValS H σ (putP ρ i p t) j q u := by
  obtain ⟨s, w, e1, e2, hv⟩ := h
  by_cases hj : j = i
  · subst hj
    rw [putP_some e1]
    refine ⟨s.put p t, w, List.getElem?_set_self (List.getElem?_eq_some_iff.mp e1).1, e2, val_put p q hv ?_⟩
    have c := c rfl
    rwa [atP_some e1] at c
  · refine ⟨s, w, ?_, e2, hv⟩
    unfold Dl.putP
    cases e : ρ[i]? with
    | none => exact e1
    | some s' => show (ρ.set i _)[j]? = _; rw [List.getElem?_set_ne (Ne.symm hj)]; exact e1
theorem put_nogh {s t : S} : ∀ {p : List Nat}, (∀ j q, t ≠ .al j q) → (∀ w j q, t ≠ .gh w j q) → s.live = true → (∀ j q, s ≠ .al j q) → (∀ j q, s.put p t ≠ .al j q) ∧ ∀ w j q, s.put p t ≠ .gh w j q
  | [], h1, h2, _, _ => ⟨h1, h2⟩
  | n :: p, h1, h2, hl, ha => by
    cases s with
    | no => cases hl
    | gh w j q => cases hl
    | al j q => exact absurd rfl (ha j q)
    | v d => exact ⟨(fun _ _ z => nomatch z), (fun _ _ _ z => nomatch z)⟩
    | l d => exact ⟨(fun _ _ z => nomatch z), (fun _ _ _ z => nomatch z)⟩
    | dc t d => exact ⟨(fun _ _ z => nomatch z), (fun _ _ _ z => nomatch z)⟩
    | lk t a d => exact ⟨(fun _ _ z => nomatch z), (fun _ _ _ z => nomatch z)⟩
    | nl d => exact ⟨(fun _ _ z => nomatch z), (fun _ _ _ z => nomatch z)⟩
    | nt d => exact ⟨(fun _ _ z => nomatch z), (fun _ _ _ z => nomatch z)⟩
    | nd d => exact ⟨(fun _ _ z => nomatch z), (fun _ _ _ z => nomatch z)⟩
    | ob c d => exact ⟨(fun _ _ z => nomatch z), (fun _ _ _ z => nomatch z)⟩
theorem own_gone {p : List Nat} {x y : S} {F : Addr → Prop} (h : Own K B H x v F) : Own K B H .no v F := by rw [Own]; trivial
/-- the thing at a place is taken out -/
theorem Rep.take (P : Rep K A B H G σ ρ) (hl : (atP ρ i p).live = true) (hs : ∀ j q, ρ[i]? ≠ some (.al j q)) : ∃ u R, ValS H σ ρ i p u ∧ ValS H σ (putP (Dl.kill i p.length ρ) i p .no) i p u ∧ Own K B H (atP ρ i p) u R ∧ (∀ a, R a → G a) ∧ atP (putP (Dl.kill i p.length ρ) i p .no) i p = .no ∧
    Rep K A B H (fun a => G a ∧ ¬ R a) σ (putP (Dl.kill i p.length ρ) i p .no) := by
  have hn : atP ρ i p ≠ .no := fun z => by rw [z] at hl; cases hl
  obtain ⟨s, e, ea⟩ := atP_slot hn
  rw [ea] at hl hn ⊢
  have hal : ∀ j q, s ≠ .al j q := fun j q z => hs j q (z ▸ e)
  have hsl : s.live = true ∧ ∀ w j q, s ≠ .gh w j q := by
    cases p with
    | nil => exact ⟨hl, fun w j q z => by subst z; cases hl⟩
    | cons n p =>
      obtain ⟨cs, ec, _⟩ := at_kid hn
      cases s <;> first | exact ⟨rfl, fun _ _ _ z => nomatch z⟩ | cases ec
  obtain ⟨R, r1, r2, r3⟩ := P.slot
  obtain ⟨v, ev, ow⟩ := r3 i s e hsl.1
  obtain ⟨u, R', hv, ot, hR', op⟩ := own_take p ow hn
  have hS : ValS H σ ρ i p u := ⟨s, v, e, ev, hv⟩
  have ek : (Dl.kill i p.length ρ)[i]? = some s := by
    unfold Dl.kill
    rw [List.getElem?_map, e]
    show some (killS i p.length s) = some s
    rw [killS_other]
    exact .inr ⟨hsl.1, hal⟩
  have hat : ∀ (p : List Nat) (s : S), s.at p ≠ .no → (s.put p .no).at p = .no := by
    intro p
    induction p with
    | nil => intro s _; rfl
    | cons n p ih =>
      intro s h
      obtain ⟨cs, ec, hn, e1, e2⟩ := at_kid h
      rw [e2]
      show (match (s.wth (cs.set n ((cs.get n).put p .no))).kids with
        | some cs => (cs.get n).at p
        | none => S.no) = .no
      rw [S.kids_wth ec]
      show ((cs.set n ((cs.get n).put p .no)).get n).at p = .no
      rw [SF.get_set _ _ _ hn]
      exact ih _ (by rw [← e1]; exact h)
  refine ⟨u, R', hS, hS.kill.putP fun _ => .inl (Nat.le_refl _), ot, fun a r => r1 i a (hR' a r), ?_, ?_⟩
  · rw [putP_some ek, atP_some (List.getElem?_set_self (List.getElem?_eq_some_iff.mp ek).1)]
    exact hat p s hn
  have Pk := P.kill i p.length
  have sgl : ∀ {j : Nat} {x : S}, (putP (Dl.kill i p.length ρ) i p .no)[j]? = some x → (j = i ∧ x = s.put p .no) ∨ (j ≠ i ∧ (Dl.kill i p.length ρ)[j]? = some x) := fun h => by
    rcases putP_get h with ⟨rfl, s', e', ex⟩ | h
    · rw [ek] at e'
      cases e'
      exact .inl ⟨rfl, ex⟩
    · exact .inr h
  have hput := put_nogh (p := p) (s := s) (t := .no) (fun _ _ z => nomatch z) (fun _ _ _ z => nomatch z) hsl.1 hal
  refine ⟨⟨P.ok.ex, fun a g => P.ok.off a g.1, fun a g => P.ok.on a g.1⟩, by rw [putP_len]; exact Pk.len, ⟨fun j a => R j a ∧ ¬ R' a, fun j a h => ⟨r1 j a h.1, h.2⟩, fun j k a h1 h2 => r2 j k a h1.1 h2.1, fun j x ex ns => ?_⟩, fun j k q ex => ?_, fun j w k q ex => ?_⟩
  · rcases sgl ex with ⟨rfl, rfl⟩ | ⟨hj, ex⟩
    · exact ⟨v, ev, op⟩
    · obtain ⟨y, ey, hy⟩ := kill_get ex
      have := killS_id hy.symm (fun z => by rw [z] at ns; cases ns)
      subst this
      obtain ⟨w, e1, q⟩ := r3 j _ ey ns
      exact ⟨w, e1, q.wide fun a r => ⟨r, fun z => hj (r2 j i a r (hR' a z))⟩⟩
  · rcases sgl ex with ⟨rfl, z⟩ | ⟨hj, ex⟩
    · exact absurd z.symm (hput.1 k q)
    · obtain ⟨y, ey, hy⟩ := kill_get ex
      obtain ⟨rfl, hk⟩ := killS_al hy.symm
      obtain ⟨a1, x, e1, hv⟩ := P.al j k q ey
      exact ⟨a1, x, e1, hv.kill.putP fun z => .inl (hk z)⟩
  · rcases sgl ex with ⟨rfl, z⟩ | ⟨hj, ex⟩
    · exact absurd z.symm (hput.2 w k q)
    · obtain ⟨y, ey, hy⟩ := kill_get ex
      obtain ⟨rfl, hk⟩ := killS_gh hy.symm
      obtain ⟨a1, hv⟩ := P.gh j w k q ey
      exact ⟨a1, hv.kill.putP fun z => .inl (hk z)⟩
/-- a thing is put where nothing is known -/
theorem Rep.give {R : Addr → Prop} (P : Rep K A B H G σ ρ) (hv : ValS H σ ρ i p u) (hat : atP ρ i p = .no) (ot : Own K B H t u R) (hR : ∀ a, R a → ¬ G a ∧ B a = none ∧ H a ≠ none) (h1 : ∀ j q, t ≠ .al j q) (h2 : ∀ w j q, t ≠ .gh w j q) :
    Rep K A B H (fun a => G a ∨ R a) σ (putP ρ i p t) := by
  obtain ⟨s, w, e, ev, hu⟩ := id hv
  rw [atP_some e] at hat
  obtain ⟨Q, r1, r2, r3⟩ := P.slot
  have key : ∃ Q' : Addr → Prop, (∀ a, Q' a → Q i a ∨ R a) ∧ Own K B H (s.put p t) w Q' ∧ (∀ j q, s.put p t ≠ .al j q) ∧ ∀ w' j q, s.put p t ≠ .gh w' j q := by
    cases p with
    | nil =>
      have hu : u = w := hu
      subst hu
      exact ⟨R, fun a r => .inr r, ot, h1, h2⟩
    | cons n p =>
      obtain ⟨cs, _, _, _, ec, _⟩ := id hu
      have hsl : s.live = true ∧ ∀ j q, s ≠ .al j q := by cases s <;> first | (exfalso; cases ec; done) | exact ⟨rfl, fun _ _ z => nomatch z⟩
      obtain ⟨v, ev', ow⟩ := r3 i s e hsl.1
      rw [ev] at ev'
      cases ev'
      exact ⟨_, fun a r => r, own_give _ ow hat hu ot fun a r z => (hR a r).1 (r1 i a z), put_nogh h1 h2 hsl.1 hsl.2⟩
  obtain ⟨Q', q1, op, n1, n2⟩ := key
  have sgl : ∀ {j : Nat} {x : S}, (putP ρ i p t)[j]? = some x → (j = i ∧ x = s.put p t) ∨ (j ≠ i ∧ ρ[j]? = some x) := fun h => by
    rcases putP_get h with ⟨rfl, s', e', ex⟩ | h
    · rw [e] at e'
      cases e'
      exact .inl ⟨rfl, ex⟩
    · exact .inr h
  have hat' : atP ρ i p = .no := by rw [atP_some e]; exact hat
  refine ⟨⟨P.ok.ex, fun a g => g.elim (P.ok.off a) fun z => (hR a z).2.1, fun a g => g.elim (P.ok.on a) fun z => (hR a z).2.2⟩, by rw [putP_len]; exact P.len, ⟨fun j a => if j = i then Q' a else Q j a, fun j a h => ?_, fun j k a h1 h2 => ?_, fun j x ex ns => ?_⟩, fun j k q ex => ?_, fun j w k q ex => ?_⟩
  · by_cases h0 : j = i
    · simp only [h0, if_true] at h
      exact (q1 a h).elim (fun z => .inl (r1 i a z)) .inr
    · simp only [h0, if_false] at h
      exact .inl (r1 j a h)
  · by_cases h0 : j = i <;> by_cases h3 : k = i
    · rw [h0, h3]
    · simp only [h0, h3, if_true, if_false] at h1 h2
      rcases q1 a h1 with z | z
      · exact (h0.trans (r2 i k a z h2))
      · exact absurd (r1 k a h2) (hR a z).1
    · simp only [h0, h3, if_true, if_false] at h1 h2
      rcases q1 a h2 with z | z
      · exact (r2 j i a h1 z).trans h3.symm
      · exact absurd (r1 j a h1) (hR a z).1
    · simp only [h0, h3, if_false] at h1 h2
      exact r2 j k a h1 h2
  · rcases sgl ex with ⟨rfl, rfl⟩ | ⟨hj, ex⟩
    · exact ⟨w, ev, by simpa using op⟩
    · obtain ⟨w', e1, q⟩ := r3 j x ex ns
      exact ⟨w', e1, by simpa [hj] using q⟩
  · rcases sgl ex with ⟨rfl, z⟩ | ⟨hj, ex⟩
    · exact absurd z.symm (n1 k q)
    · obtain ⟨a1, x, e1, hv⟩ := P.al j k q ex
      exact ⟨a1, x, e1, hv.putP fun _ => .inr hat'⟩
  · rcases sgl ex with ⟨rfl, z⟩ | ⟨hj, ex⟩
    · exact absurd z.symm (n2 w k q)
    · obtain ⟨a1, hv⟩ := P.gh j w k q ex
      exact ⟨a1, hv.putP fun _ => .inr hat'⟩
theorem putP_putP {x y : S} : putP (putP ρ i p x) i p y = putP ρ i p y := by
  cases e : ρ[i]? with
  | none => unfold putP; rw [e]; simp only [e]
  | some s =>
    rw [putP_some e, putP_some e, putP_some (List.getElem?_set_self (List.getElem?_eq_some_iff.mp e).1), S.put_put, List.set_set]
theorem val_fun : ∀ (p : List Nat) {s : S} {v u u' : V}, Val H s v p u → Val H s v p u' → u = u'
  | [], _, _, _, _, h, h' => (show _ = _ from h).trans (show _ = _ from h').symm
  | n :: p, s, v, u, u', h, h' => by
    obtain ⟨cs, a, o, w, e, hm, rfl, ho, hw, q1⟩ := h
    obtain ⟨cs', a', o', w', e', hm', ea, ho', hw', q1'⟩ := h'
    cases ea
    rw [e] at e'; cases e'
    rw [ho] at ho'; cases ho'
    rw [hw] at hw'; cases hw'
    exact val_fun p q1 q1'
theorem ValS.fun {u' : V} (h : ValS H σ ρ i p u) (h' : ValS H σ ρ i p u') : u = u' := by
  obtain ⟨s, w, e1, e2, hv⟩ := h
  obtain ⟨s', w', e1', e2', hv'⟩ := h'
  rw [e1] at e1'; cases e1'
  rw [e2] at e2'; cases e2'
  exact val_fun p hv hv'
/-- what is owned at a place -/
theorem Rep.at (P : Rep K A B H G σ ρ) (hl : (atP ρ i p).live = true) (hs : ∀ j q, ρ[i]? ≠ some (.al j q)) : ∃ u R, ValS H σ ρ i p u ∧ Own K B H (atP ρ i p) u R ∧ ∀ a, R a → G a := by
  obtain ⟨u, R, h1, _, h2, h3, _⟩ := P.take hl hs
  exact ⟨u, R, h1, h2, h3⟩
/-- our own list in a name stands for ever from now on -/
theorem Rep.freeze (p : Rep K A B H G σ ρ) (na : NoAl ρ i) (e : ρ[i]? = some s) (hd : s.data = some d) : ∃ B' G', Rep K A B' H G' σ (ρ.set i (.v d)) ∧ Ext B H G B' H G' := by
  obtain ⟨R, r1, r2, r3⟩ := p.slot
  have hl : s.live = true := by rcases S.data_cases hd with rfl | ⟨xs, rfl, rfl⟩ <;> rfl
  obtain ⟨v, e1, q⟩ := r3 i s e hl
  have eb : Ex B (froz B H (R i)) := froz_ex fun a ra => p.ok.off a (r1 i a ra)
  have hi : i < ρ.length := (List.getElem?_eq_some_iff.mp e).1
  have ok2 : Ok (froz B H (R i)) H (fun a => G a ∧ ¬ R i a) := ⟨froz_to p.ok.ex, fun a g => Classical.byContradiction fun z => (froz_in z).elim (fun z => z (p.ok.off a g.1)) g.2, fun a g => p.ok.on a g.1⟩
  have vset : ∀ {k : Nat} {q : List Nat} {u : V}, k ≠ i → ValS H σ ρ k q u → ValS H σ (ρ.set i (.v d)) k q u := fun hk h => by
    obtain ⟨s, w, e1, e2, hv⟩ := h
    exact ⟨s, w, by rw [List.getElem?_set_ne (Ne.symm hk)]; exact e1, e2, hv⟩
  refine ⟨froz B H (R i), fun a => G a ∧ ¬ R i a, ⟨ok2, by rw [List.length_set]; exact p.len, ⟨fun j a => R j a ∧ ¬ R i a, fun j a h => ⟨r1 j a h.1, h.2⟩, fun j k a h1 h2 => r2 j k a h1.1 h2.1, fun j t ej ns => ?_⟩, fun j k q ej => ?_, fun j w k q ej => ?_⟩, ⟨eb, fun a o _ h => h, fun a h => (froz_in h).imp (fun z => z) fun z => .inr (r1 i a z), fun a g => .inl g.1, fun _ h => h⟩⟩
  · rcases get_set ej with ⟨rfl, rfl, _⟩ | ⟨hj, ej⟩
    · exact ⟨v, e1, .ofv (q.froz eb hd)⟩
    · obtain ⟨w, e2, q2⟩ := r3 j t ej ns
      exact ⟨w, e2, (q2.frame eb fun _ _ _ h => h).wide fun a ra => ⟨ra, fun z => hj (r2 j i a ra z)⟩⟩
  · rcases get_set ej with ⟨rfl, z, _⟩ | ⟨hj, ej⟩
    · cases z
    · obtain ⟨a1, x, e1, hv⟩ := p.al j k q ej
      exact ⟨a1, x, e1, vset (na.1 j k q ej) hv⟩
  · rcases get_set ej with ⟨rfl, z, _⟩ | ⟨hj, ej⟩
    · cases z
    · obtain ⟨a1, hv⟩ := p.gh j w k q ej
      exact ⟨a1, vset (na.2 j w k q ej) hv⟩
end
end Dl

set_option maxHeartbeats 2000000
namespace Dl
open PySem L2

def clOf (mg : Str → Option Value) (x : Str) : Addr := match mg x with
  | some (.ref a) => a
  | _ => 0
abbrev kx (A : Ax) (X : Cx) : Kx := ⟨X.K, fun n => clOf X.mg (A.cn.getD n ""), fun n => A.fn.getD n ""⟩
/-! ### readings by data -/
abbrev dE := List S → (Z → Prop) → Prop
abbrev dT := List S → (Bool → Prop) → Prop
abbrev dA := List S → (List Z → Prop) → Prop
abbrev dC := List S → (List D → Prop) → Prop
structure SimE (K : Kx) (A : Ax) (te : TE) (de : dE) : Prop where
  run : ∀ {B H : Hp} {G : Addr → Prop} {σ : St} {ρ : List S} {Qd : Z → Prop} {Q : VK}, Rep K A B H G σ ρ → de ρ Qd → (∀ z v B' H', Gr B H B' H' → ZIs K B' H' G H z v → Qd z → Q v H') → te σ H Q
structure SimT (K : Kx) (A : Ax) (tt : TT) (dt : dT) : Prop where
  run : ∀ {B H : Hp} {G : Addr → Prop} {σ : St} {ρ : List S} {Qd : Bool → Prop} {Q : Bool → Hp → Prop}, Rep K A B H G σ ρ → dt ρ Qd → (∀ b B' H', Gr B H B' H' → Qd b → Q b H') → tt σ H Q
inductive ZAll (K : Kx) (B H : Hp) (G : Addr → Prop) (H_0 : Hp) : List Z → List V → Prop
  | nil : ZAll K B H G H_0 [] []
  | cons {z : Z} {v : V} {zs : List Z} {vs : List V} : ZIs K B H G H_0 z v → ZAll K B H G H_0 zs vs → ZAll K B H G H_0 (z :: zs) (v :: vs)
structure SimA (K : Kx) (A : Ax) (ta : TA) (da : dA) : Prop where
  run : ∀ {B H : Hp} {G : Addr → Prop} {σ : St} {ρ : List S} {Qd : List Z → Prop} {Q : List V → Hp → Prop}, Rep K A B H G σ ρ → da ρ Qd → (∀ zs vs B' H', Gr B H B' H' → ZAll K B' H' G H zs vs → Qd zs → Q vs H') → ta σ H Q
/-- the same, all of it data that stands -/
structure SimC (K : Kx) (A : Ax) (ta : TA) (dc : dC) : Prop where
  run : ∀ {B H : Hp} {G : Addr → Prop} {σ : St} {ρ : List S} {Qd : List D → Prop} {Q : List V → Hp → Prop}, Rep K A B H G σ ρ → dc ρ Qd → (∀ ds vs B' H', Gr B H B' H' → DqAll K B' vs ds → Qd ds → Q vs H') → ta σ H Q
def SimR (K : Kx) (r : R2) (dr : Z → Z → (Z → Prop) → Prop) : Prop :=
  ∀ {B H : Hp} {G : Addr → Prop} {H_0 : Hp} {x y : Z} {v w : V} {Qd : Z → Prop} {Q : VK}, Ok B H G → ZIs K B H G H_0 x v → ZIs K B H G H_0 y w → dr x y Qd → (∀ z v' B' H', Gr B H B' H' → ZIs K B' H' G H z v' → Qd z → Q v' H') → r v w H Q
def SimU (K : Kx) (r : V → Hp → VK → Prop) (dr : Z → (Z → Prop) → Prop) : Prop :=
  ∀ {B H : Hp} {G : Addr → Prop} {H_0 : Hp} {x : Z} {v : V} {Qd : Z → Prop} {Q : VK}, Ok B H G → ZIs K B H G H_0 x v → dr x Qd → (∀ z v' B' H', Gr B H B' H' → ZIs K B' H' G H z v' → Qd z → Q v' H') → r v H Q
def SimL (K : Kx) (r : List V → Hp → VK → Prop) (dr : List Z → (Z → Prop) → Prop) : Prop :=
  ∀ {B H : Hp} {G : Addr → Prop} {H_0 : Hp} {xs : List Z} {vs : List V} {Qd : Z → Prop} {Q : VK}, Ok B H G → ZAll K B H G H_0 xs vs → dr xs Qd → (∀ z v' B' H', Gr B H B' H' → ZIs K B' H' G H z v' → Qd z → Q v' H') → r vs H Q

section
variable {K : Kx} {A : Ax} {B B' H H' H_0 H_1 : Hp} {G : Addr → Prop} {zs : List Z} {vs : List V}
theorem ZAll.gr (h : ZAll K B H G H_0 zs vs) (g : Gr B H B' H') : ZAll K B' H' G H_0 zs vs := by
  induction h with
  | nil => exact .nil
  | cons a _ ih => exact .cons (a.gr g) ih
theorem ZAll.early (h : ZAll K B H G H_1 zs vs) (e : Ex H_0 H_1) : ZAll K B H G H_0 zs vs := by
  induction h with
  | nil => exact .nil
  | cons a _ ih => exact .cons (a.early e) ih
end

/-! ### expressions -/
structure CE (X : Cx) (A : Ax) (e : Expr) (te : TE) (de : dE) : Prop where
  pe : PE X e te
  sim : SimE (kx A X) A te de
structure CT (X : Cx) (A : Ax) (e : Expr) (tt : TT) (dt : dT) : Prop where
  pt : PT X e tt
  sim : SimT (kx A X) A tt dt
structure CW (X : Cx) (A : Ax) (e : Expr) (tt : TT) (dt : dT) : Prop where
  pw : PW X e tt
  sim : SimT (kx A X) A tt dt
structure CA (X : Cx) (A : Ax) (es : List Expr) (ta : TA) (da : dA) : Prop where
  pa : PA X es ta
  sim : SimA (kx A X) A ta da
structure CC (X : Cx) (A : Ax) (es : List Expr) (ta : TA) (dc : dC) : Prop where
  pa : PA X es ta
  sim : SimC (kx A X) A ta dc

/-- what is read at a place: data, or a thing of our own -/
def rdS (s : S) (Q : Z → Prop) : Prop := match s with
  | .v d => Q (.v d)
  | .no => False
  | .al _ _ => False
  | .gh _ _ _ => False
  | s => Q (.b s)
def dVar (i : Nat) : dE := fun ρ Q => match ρ[i]? with
  | some (.al j p) => (match ρ[j]? with
    | some (.al _ _) => False
    | _ => rdS (atP ρ j p) Q)
  | some s => rdS s Q
  | none => False
theorem rdS_cases {s : S} {Q : Z → Prop} (h : rdS s Q) : (∃ d, s = .v d ∧ Q (.v d)) ∨ (s.tru = true ∧ (∀ j q, s ≠ .al j q) ∧ (∀ d, s ≠ .v d) ∧ Q (.b s)) := by
  cases s with
  | no => exact (show False from h).elim
  | al j q => exact (show False from h).elim
  | gh w j q => exact (show False from h).elim
  | v d => exact .inl ⟨d, rfl, h⟩
  | _ => exact .inr ⟨rfl, (fun _ _ z => nomatch z), (fun _ z => nomatch z), h⟩
def dK (d : D) : dE := fun _ Q => Q (.v d)
def dOp (dr : Z → Z → (Z → Prop) → Prop) (da db : dE) : dE := fun ρ Q => da ρ fun x => db ρ fun y => dr x y Q
def dUn (dr : Z → (Z → Prop) → Prop) (da : dE) : dE := fun ρ Q => da ρ fun x => dr x Q
def dNil : dA := fun _ Q => Q []
def dCons (da : dE) (dr : dA) : dA := fun ρ Q => da ρ fun x => dr ρ fun xs => Q (x :: xs)
def dCnil : dC := fun _ Q => Q []
def dCcons (da : dE) (dr : dC) : dC := fun ρ Q => da ρ fun x => match x.own with
  | some d => dr ρ fun ds => Q (d :: ds)
  | none => False
def dCall (dr : List Z → (Z → Prop) → Prop) (da : dA) : dE := fun ρ Q => da ρ fun xs => dr xs Q
section
variable {K : Kx} {A : Ax}
theorem rd_own {K : Kx} {B H : Hp} {G : Addr → Prop} {s : S} {v : V} {R : Addr → Prop} {Qd : Z → Prop} {Q : VK} (ex : Ex B H) (h : rdS s Qd) (o : Own K B H s v R) (r : ∀ a, R a → G a) (k : ∀ z v B' H', Gr B H B' H' → ZIs K B' H' G H z v → Qd z → Q v H') : Q v H := by
  rcases rdS_cases h with ⟨d, rfl, q⟩ | ⟨hl, _, _, q⟩
  · exact k (.v d) v B H (Gr.refl ex) o.vv q
  · exact k (.b s) v B H (Gr.refl ex) ⟨R, r, hl, o⟩ q
theorem rdS_live {s : S} {Q : Z → Prop} (h : rdS s Q) : s.live = true ∧ ∀ j q, s ≠ .al j q := by
  rcases rdS_cases h with ⟨d, rfl, _⟩ | ⟨hl, ha, _⟩
  · exact ⟨rfl, fun _ _ z => nomatch z⟩
  · exact ⟨S.tru_live hl, ha⟩
theorem sim_var {i : Nat} : SimE K A (tVar i) (dVar i) := by
  refine ⟨fun {B H G σ ρ Qd Q} p h k => ?_⟩
  unfold dVar at h
  cases e : ρ[i]? with
  | none => rw [e] at h; exact h.elim
  | some s =>
    rw [e] at h
    have go : (∀ j q, s ≠ .al j q) → rdS s Qd → tVar i σ H Q := fun _ h => by
      obtain ⟨v, e1, R, r, q⟩ := p.get e (rdS_live h).1
      exact ⟨v, e1, rd_own p.ex h q r k⟩
    cases s with
    | al j q =>
      have h : (match ρ[j]? with
        | some (.al _ _) => False
        | _ => rdS (atP ρ j q) Qd) := h
      have hj : ∀ j' q', ρ[j]? ≠ some (.al j' q') := fun j' q' z => by rw [z] at h; exact h
      have h : rdS (atP ρ j q) Qd := by
        split at h
        · exact h.elim
        · exact h
      obtain ⟨_, v, e1, hv⟩ := p.al i j q e
      obtain ⟨u, R, hv', o, r⟩ := p.at (rdS_live h).1 hj
      obtain rfl := hv.fun hv'
      exact ⟨v, e1, rd_own p.ex h o r k⟩
    | no => exact go (fun _ _ z => nomatch z) h
    | gh w j q => exact go (fun _ _ z => nomatch z) h
    | v d => exact go (fun _ _ z => nomatch z) h
    | l d => exact go (fun _ _ z => nomatch z) h
    | dc t d => exact go (fun _ _ z => nomatch z) h
    | lk t o d => exact go (fun _ _ z => nomatch z) h
    | nl d => exact go (fun _ _ z => nomatch z) h
    | nt d => exact go (fun _ _ z => nomatch z) h
    | nd d => exact go (fun _ _ z => nomatch z) h
    | ob c d => exact go (fun _ _ z => nomatch z) h
theorem sim_c {v : V} {d : D} (h : ∀ H, Dq K H v d) : SimE K A (tC v) (dK d) := ⟨fun {B H G σ ρ Qd Q} p q k => k (.v d) v B H (Gr.refl p.ex) (h B) q⟩
theorem sim_op {r : R2} {dr : Z → Z → (Z → Prop) → Prop} {ta tb : TE} {da db : dE} (hr : SimR K r dr) (ha : SimE K A ta da) (hb : SimE K A tb db) : SimE K A (tOp r ta tb) (dOp dr da db) := by
  refine ⟨fun {B H G σ ρ Qd Q} p h k => ?_⟩
  refine ha.run p h fun x v B1 H1 g1 z1 h1 => ?_
  refine hb.run (p.gr g1) h1 fun y w B2 H2 g2 z2 h2 => ?_
  refine hr ((p.ok.gr g1).gr g2) (H_0 := H) (z1.gr g2) (z2.early g1.h) h2 fun z v' B' H' g3 z3 q => ?_
  exact k z v' B' H' ((g1.trans g2).trans g3) (z3.early (g1.h.trans g2.h)) q
theorem sim_un {r : V → Hp → VK → Prop} {dr : Z → (Z → Prop) → Prop} {ta : TE} {da : dE} (hr : SimU K r dr) (ha : SimE K A ta da) : SimE K A (tUn r ta) (dUn dr da) := by
  refine ⟨fun {B H G σ ρ Qd Q} p h k => ?_⟩
  refine ha.run p h fun x v B1 H1 g1 z1 h1 => ?_
  refine hr (p.ok.gr g1) z1 h1 fun z v' B' H' g3 z3 q => ?_
  exact k z v' B' H' (g1.trans g3) (z3.early g1.h) q
theorem sim_nil : SimA K A tNil dNil := ⟨fun {B H G σ ρ Qd Q} p h k => k [] [] B H (Gr.refl p.ex) .nil h⟩
theorem sim_cons {ta : TE} {tr : TA} {da : dE} {dr : dA} (ha : SimE K A ta da) (hr : SimA K A tr dr) : SimA K A (tCons ta tr) (dCons da dr) := by
  refine ⟨fun {B H G σ ρ Qd Q} p h k => ?_⟩
  refine ha.run p h fun x v B1 H1 g1 z1 h1 => ?_
  refine hr.run (p.gr g1) h1 fun xs vs B2 H2 g2 z2 h2 => ?_
  exact k _ _ B2 H2 (g1.trans g2) (.cons (z1.gr g2) (z2.early g1.h)) h2
theorem sim_cnil : SimC K A tNil dCnil := ⟨fun {B H G σ ρ Qd Q} p h k => k [] [] B H (Gr.refl p.ex) .nil h⟩
theorem sim_ccons {ta : TE} {tr : TA} {da : dE} {dr : dC} (ha : SimE K A ta da) (hr : SimC K A tr dr) : SimC K A (tCons ta tr) (dCcons da dr) := by
  refine ⟨fun {B H G σ ρ Qd Q} p h k => ?_⟩
  refine ha.run p h fun x v B1 H1 g1 z1 h1 => ?_
  have h1 : (match x.own with
    | some d => dr ρ fun ds => Qd (d :: ds)
    | none => False) := h1
  cases e : x.own with
  | none => rw [e] at h1; exact h1.elim
  | some d =>
    rw [e] at h1
    obtain ⟨B1', g1', eb, hd⟩ := z1.clean g1 e
    refine hr.run (p.gr g1') h1 fun xs vs B2 H2 g2 z2 h2 => ?_
    exact k _ _ B2 H2 (g1'.trans g2) (.cons (dp_mono g2.b _ _ hd) z2) h2
/-- a call of something built in -/
theorem sim_cb {r : List V → Hp → VK → Prop} {dr : List Z → (Z → Prop) → Prop} {ta : TA} {da : dA} (hr : SimL K r dr) (ha : SimA K A ta da) : SimE K A (fun σ H Q => ta σ H fun xs H' => r xs H' Q) (dCall dr da) := by
  refine ⟨fun {B H G σ ρ Qd Q} p h k => ?_⟩
  refine ha.run p h fun x v B1 H1 g1 z1 h1 => ?_
  refine hr (p.ok.gr g1) z1 h1 fun z v' B' H' g3 z3 q => ?_
  exact k z v' B' H' (g1.trans g3) (z3.early g1.h) q
end

/-! ### operations -/
def dI (f : Int → Int → D) (x y : Z) (Q : Z → Prop) : Prop := match x.data, y.data with
  | some (.int i), some (.int j) => Q (.v (f i j))
  | _, _ => False
def dIC (C : Int → Int → Prop) (f : Int → Int → D) (x y : Z) (Q : Z → Prop) : Prop := match x.data, y.data with
  | some (.int i), some (.int j) => C i j ∧ Q (.v (f i j))
  | _, _ => False
/-- what two readings of a pair of data give -/
theorem data_cases {α : Type} {P : Prop} (o1 o2 : Option D) (f : D → D → Prop) (h : match o1, o2 with
  | some d, some e => f d e
  | _, _ => False) (k : ∀ d e, o1 = some d → o2 = some e → f d e → P) : P := by
  cases o1 with
  | none => exact h.elim
  | some d =>
    cases o2 with
    | none => exact h.elim
    | some e => exact k d e rfl rfl h
section
variable {K : Kx} {A : Ax}
theorem simR_I0 {g : Int → Int → V} {f : Int → Int → D} (hg : ∀ i j H, Dq K H (g i j) (f i j)) : SimR K (rI0 g) (dI f) := by
  intro B H G H_0 x y v w Qd Q ok zx zy h k
  unfold dI at h
  split at h
  · rename_i i j e1 e2
    have a := dp_int (zx.dp ok.ex e1)
    have b := dp_int (zy.dp ok.ex e2)
    exact ⟨i, j, a, b, k (.v (f i j)) _ B H (Gr.refl ok.ex) (hg i j B) h⟩
  · exact h.elim
theorem simR_I {C : Int → Int → Prop} {g : Int → Int → V} {f : Int → Int → D} (hg : ∀ i j H, Dq K H (g i j) (f i j)) : SimR K (rI C g) (dIC C f) := by
  intro B H G H_0 x y v w Qd Q ok zx zy h k
  unfold dIC at h
  split at h
  · rename_i i j e1 e2
    have a := dp_int (zx.dp ok.ex e1)
    have b := dp_int (zy.dp ok.ex e2)
    exact ⟨i, j, a, b, h.1, k (.v (f i j)) _ B H (Gr.refl ok.ex) (hg i j B) h.2⟩
  · exact h.elim
/-- a new list of data that stands -/
theorem new_list {B H : Hp} {G : Addr → Prop} {p : Addr} {vs : List V} {ds : List D} (ok : Ok B H G) (hp : H p = none) (h : DqAll K B vs ds) : Gr B H B (upd H p (.lst vs)) ∧ ZIs K B (upd H p (.lst vs)) G H (.n (.l ds)) (.ref p) := by
  refine ⟨⟨Ex.refl B, Ex.new hp, ok.ex.trans (Ex.new hp), fun a h => .inl h⟩, fun a => a = p, fun a e => ?_, rfl, .ofl rfl upd_same h⟩
  subst e
  exact ⟨hp, ok.ex.back hp, by rw [upd_same]; intro z; cases z⟩
/-- a new tuple of data that stands -/
theorem new_tup {B H : Hp} {G : Addr → Prop} {p : Addr} {vs : List V} {ds : List D} (ok : Ok B H G) (hp : H p = none) (h : DqAll K B vs ds) : Gr B H (upd B p (.tup vs)) (upd H p (.tup vs)) ∧ ZIs K (upd B p (.tup vs)) (upd H p (.tup vs)) G H (.v (.tuple ds)) (.ref p) := by
  have hb : B p = none := ok.ex.back hp
  refine ⟨⟨Ex.new hb, Ex.new hp, fun a o e => ?_, fun a h => ?_⟩, .tup (.inl (.inl upd_same)) (dps_mono (Ex.new hb) _ _ h)⟩
  · by_cases ha : a = p
    · rw [ha, upd_same] at e ⊢; exact e
    · rw [upd_ne ha] at e ⊢; exact ok.ex a o e
  · by_cases ha : a = p
    · exact .inr (ha ▸ hp)
    · rw [upd_ne ha] at h; exact .inl h
/-- the items of a list that is read: they stand -/
def S.items : S → Option (List D)
  | .v (.list xs) => some xs
  | .v (.dict [(.none, .list xs)]) => some xs
  | .l xs => some xs
  | _ => none
def Z.items : Z → Option (List D)
  | .v d => S.items (.v d)
  | .b s => s.items
  | .n s => s.items
theorem dq_items {H : Hp} {v : V} {d : D} {xs : List D} (h : Dq K H v d) (e : S.items (.v d) = some xs) : ∃ a vs, v = .ref a ∧ SqL K H a vs ∧ DqAll K H vs xs := by
  unfold S.items at e
  split at e
  · rename_i e'
    cases e
    cases e'
    obtain ⟨a, vs, rfl, h1, h2⟩ := dp_lst h
    exact ⟨a, vs, rfl, .inl h1, h2⟩
  · rename_i e'
    cases e
    cases e'
    exact dp_scr h
  · rename_i e'
    cases e'
  · cases e
theorem Own.items {B H : Hp} {R : Addr → Prop} {s : S} {v : V} {xs : List D} (h : Own K B H s v R) (ex : Ex B H) (e : s.items = some xs) : ∃ a vs, v = .ref a ∧ SqL K H a vs ∧ DqAll K B vs xs := by
  cases s with
  | no => cases e
  | v d =>
    obtain ⟨a, vs, rfl, h1, h2⟩ := dq_items h.vv e
    exact ⟨a, vs, rfl, ex_l ex h1, h2⟩
  | l ys =>
    cases e
    obtain ⟨a, vs, rfl, _, h1, h2⟩ := h.ll
    exact ⟨a, vs, rfl, .inl (.inl h1), h2⟩
  | _ => cases e
theorem ZIs.items {B H H_0 : Hp} {G : Addr → Prop} {z : Z} {v : V} {xs : List D} (h : ZIs K B H G H_0 z v) (ok : Ok B H G) (e : z.items = some xs) : ∃ a vs, v = .ref a ∧ SqL K H a vs ∧ DqAll K B vs xs := by
  cases z with
  | v d => exact Own.items (s := .v d) (R := fun _ => False) (Own.ofv h) ok.ex e
  | b s => obtain ⟨R, _, _, q⟩ := h; exact q.items ok.ex e
  | n s => obtain ⟨R, _, _, q⟩ := h; exact q.items ok.ex e
/-- .. of a list that is told exactly -/
theorem Own.rd {B H : Hp} {R : Addr → Prop} {s : S} {v : V} {xs : List D} (h : Own K B H s v R) (ex : Ex B H) (e : s.data = some (.list xs)) : ∃ a vs, v = .ref a ∧ Rd H a (.lst vs) ∧ DqAll K B vs xs := by
  cases s with
  | no => cases e
  | v d =>
    cases e
    obtain ⟨a, vs, rfl, h1, h2⟩ := dp_lst h.vv
    exact ⟨a, vs, rfl, ex_rd ex h1, h2⟩
  | l ys =>
    cases e
    obtain ⟨a, vs, rfl, _, h1, h2⟩ := h.ll
    exact ⟨a, vs, rfl, .inl h1, h2⟩
  | _ => cases e
theorem ZIs.rd {B H H_0 : Hp} {G : Addr → Prop} {z : Z} {v : V} {xs : List D} (h : ZIs K B H G H_0 z v) (ok : Ok B H G) (e : z.data = some (.list xs)) : ∃ a vs, v = .ref a ∧ Rd H a (.lst vs) ∧ DqAll K B vs xs := by
  cases z with
  | v d => exact Own.rd (s := .v d) (R := fun _ => False) (Own.ofv h) ok.ex e
  | b s => obtain ⟨R, _, _, q⟩ := h; exact q.rd ok.ex e
  | n s => obtain ⟨R, _, _, q⟩ := h; exact q.rd ok.ex e
theorem s_items_scr {s : S} {xs : List D} (h : s.data = some (.dict [(.none, .list xs)])) : s.items = some xs := by
  cases s with
  | no => cases h
  | v d => cases h; rfl
  | l ys => cases h
  | _ => cases h
theorem items_scr {x : Z} {xs : List D} (h : x.data = some (.dict [(.none, .list xs)])) : x.items = some xs := by
  cases x with
  | v d => cases h; rfl
  | b s => exact s_items_scr h
  | n s => exact s_items_scr h
/-- the members of a tuple -/
def S.mems : S → Option (List D)
  | .v (.tuple xs) => some xs
  | _ => none
def Z.mems : Z → Option (List D)
  | .v d => S.mems (.v d)
  | .b s => s.mems
  | .n s => s.mems
theorem Own.mems {B H : Hp} {R : Addr → Prop} {s : S} {v : V} {xs : List D} (h : Own K B H s v R) (ex : Ex B H) (e : s.mems = some xs) : ∃ a vs, v = .ref a ∧ SqT K H a vs ∧ SqT K B a vs ∧ DqAll K B vs xs := by
  cases s with
  | no => cases e
  | v d =>
    cases d with
    | tuple ys =>
      cases e
      obtain ⟨a, vs, rfl, h1, h2⟩ := dp_tup h.vv
      exact ⟨a, vs, rfl, ex_t ex h1, h1, h2⟩
    | _ => cases e
  | l ys => cases e
  | _ => cases e
theorem ZIs.mems {B H H_0 : Hp} {G : Addr → Prop} {z : Z} {v : V} {xs : List D} (h : ZIs K B H G H_0 z v) (ok : Ok B H G) (e : z.mems = some xs) : ∃ a vs, v = .ref a ∧ SqT K H a vs ∧ SqT K B a vs ∧ DqAll K B vs xs := by
  cases z with
  | v d => exact Own.mems (s := .v d) (R := fun _ => False) (Own.ofv h) ok.ex e
  | b s => obtain ⟨R, _, _, q⟩ := h; exact q.mems ok.ex e
  | n s => obtain ⟨R, _, _, q⟩ := h; exact q.mems ok.ex e
theorem s_items_of {s : S} {xs : List D} (h : s.data = some (.list xs)) : s.items = some xs := by
  cases s with
  | no => cases h
  | v d => cases h; rfl
  | l ys => cases h; rfl
  | _ => cases h
theorem items_of {x : Z} {xs : List D} (h : x.data = some (.list xs)) : x.items = some xs := by
  cases x with
  | v d => cases h; rfl
  | b s => exact s_items_of h
  | n s => exact s_items_of h
theorem s_mems_of {s : S} {xs : List D} (h : s.data = some (.tuple xs)) : s.mems = some xs := by
  cases s with
  | no => cases h
  | v d => cases h; rfl
  | l ys => cases h
  | _ => cases h
theorem mems_of {x : Z} {xs : List D} (h : x.data = some (.tuple xs)) : x.mems = some xs := by
  cases x with
  | v d => cases h; rfl
  | b s => exact s_mems_of h
  | n s => exact s_mems_of h
end

/-! list + list of any kind of list -/
section
variable {X : Cx} {A : Ax}
def rCatR : R2 := fun x y H Q => ∃ l b xs zs, x = .ref l ∧ y = .ref b ∧ Rd H l (.lst xs) ∧ Rd H b (.lst zs) ∧ xs.length + zs.length ≤ sizeLine ∧ ∀ p, H p = none → Q (.ref p) (upd H p (.lst (xs ++ zs)))
theorem lstR {pins : List (Addr × Obj)} {σ : St} {H : Hp} {s : Shared} {l : Addr} {xs : List V} (I : Inv X pins σ H s) (hH : Rd H l (.lst xs)) : xs.length ≤ sizeLine ∧ ∃ (its : List Value) (n : Nat), Vals xs its ∧ xs.length = its.length ∧ s.heap.get? l = some { cls := .type "list", data := .seq its.toArray n } := by
  obtain ⟨z, its, n, r, e⟩ := hH.ok I.hok
  exact ⟨z, its, n, r, r.length, e⟩
theorem op_catR : OpR X (binaryOp .Add) rCatR := by
  intro pins s σ H x y v u Q I rx ry h
  obtain ⟨l, b, xs, zs, rfl, rfl, hH, hB, hz, q⟩ := h
  cases rx
  cases ry
  obtain ⟨z, its, n, r, hl, e⟩ := lstR I hH
  obtain ⟨z2, its2, n2, r2, hl2, e2⟩ := lstR I hB
  refine PySem.P.add_list e e2 ?_ (by rw [List.size_toArray, List.size_toArray]; omega)
  have ea : its.toArray ++ its2.toArray = (its ++ its2).toArray := by simp
  rw [ea]
  exact ⟨.ref _, _, I.lnew (t' := s.toks) (r.append r2) (by rw [List.length_append]; omega), rfl, q _ I.fresh⟩
end

/-! ### + of any kind -/
def dAdd (x y : Z) (Q : Z → Prop) : Prop := match x.data, y.data with
  | some (.int i), some (.int j) => Q (.v (.int (i + j)))
  | some (.str a), some (.str b) => a.length + b.length ≤ sizeLine ∧ Q (.v (.str (a ++ b)))
  | some (.list xs), some (.list ys) => xs.length + ys.length ≤ sizeLine ∧ Q (.n (.l (xs ++ ys)))
  | some (.tuple xs), some (.tuple ys) => xs ≠ [] ∧ xs.length + ys.length ≤ sizeLine ∧ Q (.v (.tuple (xs ++ ys)))
  | _, _ => False
def rAddS : R2 := fun x y H Q => ∃ i j, x = .str i ∧ y = .str j ∧ i.length + j.length ≤ sizeLine ∧ Q (.str (i ++ j)) H
def rAny (K : PySem.W.Frag) : R2 := fun x y H Q => (rI0 fun i j => .int (i + j)) x y H Q ∨ rAddS x y H Q ∨ rCatR x y H Q ∨ rCatT K x y H Q
theorem op_any {X : Cx} : OpR X (binaryOp .Add) (rAny X.K) := op_add.or ((OpR.or op_add_str (op_catR.or op_catT)))
theorem simR_add {K : Kx} : SimR K (rAny K) dAdd := by
  intro B H G H_0 x y v w Qd Q ok zx zy h k
  unfold dAdd at h
  split at h
  · rename_i i j e1 e2
    exact .inl ⟨i, j, dp_int (zx.dp ok.ex e1), dp_int (zy.dp ok.ex e2), k (.v (.int (i + j))) _ B H (Gr.refl ok.ex) (.int _) h⟩
  · rename_i i j e1 e2
    exact .inr (.inl ⟨i, j, dp_str (zx.dp ok.ex e1), dp_str (zy.dp ok.ex e2), h.1, k (.v (.str (i ++ j))) _ B H (Gr.refl ok.ex) (.str _) h.2⟩)
  · rename_i xs ys e1 e2
    obtain ⟨a, vs, rfl, r1, q1⟩ := zx.rd ok e1
    obtain ⟨b, ws, rfl, r2, q2⟩ := zy.rd ok e2
    refine .inr (.inr (.inl ⟨a, b, vs, ws, rfl, rfl, r1, r2, by rw [dps_len q1, dps_len q2]; exact h.1, fun p hp => ?_⟩))
    obtain ⟨g, z⟩ := new_list ok hp (dps_app q1 q2)
    exact k _ _ _ _ g z h.2
  · rename_i xs ys e1 e2
    obtain ⟨a, vs, rfl, r1, _, q1⟩ := zx.mems ok (mems_of e1)
    obtain ⟨b, ws, rfl, r2, _, q2⟩ := zy.mems ok (mems_of e2)
    have hl1 := dps_len q1
    have hl2 := dps_len q2
    refine .inr (.inr (.inr ⟨a, b, vs, ws, rfl, rfl, r1, r2, fun z => h.1 ?_, by rw [hl1, hl2]; exact h.2.1, fun hw => ?_, fun hw p hp => ?_⟩))
    · rw [z] at hl1
      exact List.eq_nil_of_length_eq_zero hl1.symm
    · rw [hw] at hl2
      have : ys = [] := List.eq_nil_of_length_eq_zero hl2.symm
      subst this
      refine k (.v (.tuple (xs ++ []))) _ B H (Gr.refl ok.ex) ?_ h.2.2
      rw [List.append_nil]
      obtain ⟨c, us, e3, _, r3, q3⟩ := zx.mems ok (mems_of e1)
      rw [e3]
      exact .tup r3 q3
    · obtain ⟨g, z⟩ := new_tup ok hp (dps_app q1 q2)
      exact k _ _ _ _ g z h.2.2
  · exact h.elim
end Dl

set_option maxHeartbeats 2000000
namespace Dl
open PySem L2

/-! ### comparisons -/
def dLtI (f : Int → Int → Bool) : Z → Z → (Z → Prop) → Prop := dI fun i j => .bool (f i j)
def eqD : D → D → (Bool → Prop) → Prop
  | .int i, .int j, Q => Q (decide (i = j))
  | .str i, .str j, Q => Q (decide (i = j))
  | .bool i, .bool j, Q => Q (decide (i = j))
  | d, e, Q => SeqAt.shaped d = true ∧ SeqAt.shaped e = true ∧ Q (PyData.eqv d e)
def dEq (x y : Z) (Q : Z → Prop) : Prop := match x.data, y.data with
  | some d, some e => eqD d e fun b => Q (.v (.bool b))
  | _, _ => False
def dNe (x y : Z) (Q : Z → Prop) : Prop := match x.data, y.data with
  | some d, some e => eqD d e fun b => Q (.v (.bool (!b)))
  | _, _ => False
theorem eqD_ok {K : Kx} {H : Hp} {v w : V} {d e : D} {Q : Bool → Prop} (hv : Dq K H v d) (hw : Dq K H w e) (h : eqD d e Q) :
    (scal v w = true ∧ Q (decide (v = w))) ∨ (SeqAt.shaped d = true ∧ SeqAt.shaped e = true ∧ Q (PyData.eqv d e)) := by
  unfold eqD at h
  split at h
  · rename_i i j
    rw [dp_int hv, dp_int hw]
    refine .inl ⟨rfl, ?_⟩
    rw [show decide (V.int i = V.int j) = decide (i = j) by simp]
    exact h
  · rename_i i j
    rw [dp_str hv, dp_str hw]
    refine .inl ⟨rfl, ?_⟩
    rw [show decide (V.str i = V.str j) = decide (i = j) by simp]
    exact h
  · rename_i i j
    rw [dp_bl hv, dp_bl hw]
    refine .inl ⟨rfl, ?_⟩
    rw [show decide (V.bl i = V.bl j) = decide (i = j) by simp]
    exact h
  · exact .inr h
def rEqA (K : PySem.W.Frag) : R2 := fun x y H Q => rEq x y H Q ∨ rEqD K x y H Q
def rNeA (K : PySem.W.Frag) : R2 := fun x y H Q => rNe x y H Q ∨ rNeD K x y H Q
theorem op_eqA {X : Cx} (hu : X.A.units + 64 < cLine) : OpR X (compareOp .Eq) (rEqA X.K) := OpR.or op_eq (op_eqD hu)
theorem op_neA {X : Cx} (hu : X.A.units + 64 < cLine) : OpR X (compareOp .NotEq) (rNeA X.K) := OpR.or op_ne (op_neD hu)
/-- x is True, y is False, is None -/
def dIs (neg : Bool) (x y : Z) (Q : Z → Prop) : Prop := match y with
  | .v .none => match x.data with
    | some .none => Q (.v (.bool (!neg)))
    | some _ => Q (.v (.bool neg))
    | none => False
  | .v (.bool b) => match x.data with
    | some (.bool c) => Q (.v (.bool (if neg then !decide (c = b) else decide (c = b))))
    | _ => False
  | _ => False
def rIsA : R2 := fun x y H Q => (y = .non ∧ Q (.bl (decide (x = .non))) H) ∨ rIsB x y H Q
def rIsA' : R2 := fun x y H Q => (y = .non ∧ Q (.bl (!decide (x = .non))) H) ∨ rNotB x y H Q
theorem op_isA {X : Cx} : OpR X (compareOp .Is) rIsA := OpR.or op_isN op_isBl
theorem op_isA' {X : Cx} : OpR X (compareOp .IsNot) rIsA' := OpR.or op_notN op_notBl
section
variable {K : Kx} {A : Ax}
theorem simR_eq : SimR K (rEqA K) dEq := by
  intro B H G H_0 x y v w Qd Q ok zx zy h k
  unfold dEq at h
  split at h
  · rename_i d e e1 e2
    rcases eqD_ok (zx.dp ok.ex e1) (zy.dp ok.ex e2) h with ⟨a, q⟩ | ⟨a, b, q⟩
    · exact .inl ⟨a, k (.v (.bool _)) _ B H (Gr.refl ok.ex) (.bl _) q⟩
    · exact .inr ⟨d, e, dq_dp _ _ (SeqAt.canLay_of_shaped a) (zx.dp ok.ex e1), dq_dp _ _ (SeqAt.canLay_of_shaped b) (zy.dp ok.ex e2), a, b, k (.v (.bool _)) _ B H (Gr.refl ok.ex) (.bl _) q⟩
  · exact h.elim
theorem simR_ne : SimR K (rNeA K) dNe := by
  intro B H G H_0 x y v w Qd Q ok zx zy h k
  unfold dNe at h
  split at h
  · rename_i d e e1 e2
    rcases eqD_ok (zx.dp ok.ex e1) (zy.dp ok.ex e2) h with ⟨a, q⟩ | ⟨a, b, q⟩
    · exact .inl ⟨a, k (.v (.bool _)) _ B H (Gr.refl ok.ex) (.bl _) q⟩
    · exact .inr ⟨d, e, dq_dp _ _ (SeqAt.canLay_of_shaped a) (zx.dp ok.ex e1), dq_dp _ _ (SeqAt.canLay_of_shaped b) (zy.dp ok.ex e2), a, b, k (.v (.bool _)) _ B H (Gr.refl ok.ex) (.bl _) q⟩
  · exact h.elim
theorem dq_nn {H : Hp} {v : V} {d : D} (h : Dq K H v d) (hn : d ≠ .none) : decide (v = .non) = false := by
  cases h with
  | non => exact absurd rfl hn
  | _ => rfl
theorem simR_is : SimR K rIsA (dIs false) := by
  intro B H G H_0 x y v w Qd Q ok zx zy h k
  unfold dIs at h
  split at h
  · refine .inl ⟨dp_non (zy : Dq K B w .none), ?_⟩
    split at h
    · rename_i e
      rw [dp_non (zx.dp ok.ex e)]
      exact k (.v (.bool true)) _ B H (Gr.refl ok.ex) (.bl _) h
    · rename_i d hn e
      rw [dq_nn (zx.dp ok.ex e) (fun z => by subst z; exact hn rfl)]
      exact k (.v (.bool false)) _ B H (Gr.refl ok.ex) (.bl _) h
    · exact h.elim
  · rename_i b
    split at h
    · rename_i c e
      refine .inr ⟨c, b, dp_bl (zx.dp ok.ex e), dp_bl (zy : Dq K B w (.bool b)), ?_⟩
      exact k (.v (.bool _)) _ B H (Gr.refl ok.ex) (.bl _) h
    · exact h.elim
  · exact h.elim
theorem simR_isnot : SimR K rIsA' (dIs true) := by
  intro B H G H_0 x y v w Qd Q ok zx zy h k
  unfold dIs at h
  split at h
  · refine .inl ⟨dp_non (zy : Dq K B w .none), ?_⟩
    split at h
    · rename_i e
      rw [dp_non (zx.dp ok.ex e)]
      exact k (.v (.bool false)) _ B H (Gr.refl ok.ex) (.bl _) h
    · rename_i d hn e
      rw [dq_nn (zx.dp ok.ex e) (fun z => by subst z; exact hn rfl)]
      exact k (.v (.bool true)) _ B H (Gr.refl ok.ex) (.bl _) h
    · exact h.elim
  · rename_i b
    split at h
    · rename_i c e
      refine .inr ⟨c, b, dp_bl (zx.dp ok.ex e), dp_bl (zy : Dq K B w (.bool b)), ?_⟩
      exact k (.v (.bool _)) _ B H (Gr.refl ok.ex) (.bl _) h
    · exact h.elim
  · exact h.elim
end

/-! ### subscripts, slices -/
def dIx (x y : Z) (Q : Z → Prop) : Prop := match y.data with
  | some (.int i) => match x.data with
    | some (.list xs) => ∃ d, atI xs i = some d ∧ Q (.v d)
    | some (.dict [(.none, .list xs)]) => ∃ d, atI xs i = some d ∧ Q (.v d)
    | some (.tuple xs) => ∃ d, atI xs i = some d ∧ Q (.v d)
    | some (.str z) => z.length ≤ sizeLine ∧ ∃ c, atI z.cps.toList i = some c ∧ Q (.v (.str ⟨#[c]⟩))
    | _ => False
  | _ => False
theorem at_dq {K : Kx} {H : Hp} {vs : List V} {ds : List D} {i : Int} {d : D} (h : DqAll K H vs ds) (e : atI ds i = some d) : ∃ v, atI vs i = some v ∧ Dq K H v d := by
  unfold atI at e ⊢
  rw [← dps_len h] at e
  cases e1 : ixN vs.length i with
  | none => rw [e1] at e; cases e
  | some j =>
    rw [e1] at e
    obtain ⟨v, e2, q⟩ := dps_get (i := j) h e
    exact ⟨v, e2, q⟩
theorem simR_ix {K : Kx} : SimR K (rIx K) dIx := by
  intro B H G H_0 x y v w Qd Q ok zx zy h k
  unfold dIx at h
  split at h
  · rename_i i e2
    have ey := dp_int (zy.dp ok.ex e2)
    split at h
    · rename_i xs e1
      obtain ⟨d, ed, h⟩ := h
      obtain ⟨a, vs, rfl, r1, q1⟩ := zx.items ok (items_of e1)
      obtain ⟨u, eu, qu⟩ := at_dq q1 ed
      exact .inl ⟨a, vs, i, u, rfl, ey, r1, eu, k (.v d) u B H (Gr.refl ok.ex) qu h⟩
    · rename_i xs e1
      obtain ⟨d, ed, h⟩ := h
      obtain ⟨a, vs, rfl, r1, q1⟩ := zx.items ok (items_scr e1)
      obtain ⟨u, eu, qu⟩ := at_dq q1 ed
      exact .inl ⟨a, vs, i, u, rfl, ey, r1, eu, k (.v d) u B H (Gr.refl ok.ex) qu h⟩
    · rename_i xs e1
      obtain ⟨d, ed, h⟩ := h
      obtain ⟨a, vs, rfl, r1, _, q1⟩ := zx.mems ok (mems_of e1)
      obtain ⟨u, eu, qu⟩ := at_dq q1 ed
      exact .inr (.inl ⟨a, vs, i, u, rfl, ey, r1, eu, k (.v d) u B H (Gr.refl ok.ex) qu h⟩)
    · rename_i z e1
      obtain ⟨hz, c, ec, h⟩ := h
      exact .inr (.inr ⟨z, i, c, dp_str (zx.dp ok.ex e1), ey, hz, ec, k (.v (.str _)) _ B H (Gr.refl ok.ex) (.str _) h⟩)
    · exact h.elim
  · exact h.elim

abbrev dO := List S → (Option Int → Prop) → Prop
structure SimO (K : Kx) (A : Ax) (to : TO) (d : dO) : Prop where
  run : ∀ {B H : Hp} {G : Addr → Prop} {σ : St} {ρ : List S} {Qd : Option Int → Prop} {Q : Option Int → Hp → Prop}, Rep K A B H G σ ρ → d ρ Qd → (∀ o B' H', Gr B H B' H' → Qd o → Q o H') → to σ H Q
structure CO (X : Cx) (A : Ax) (e : Option Expr) (to : TO) (d : dO) : Prop where
  po : PO X e to
  sim : SimO (kx A X) A to d
def dOnone : dO := fun _ Q => Q none
def dOsome (de : dE) : dO := fun ρ Q => de ρ fun z => match z.data with
  | some (.int i) => Q (some i)
  | _ => False
def cutD {α : Type} (xs : List α) (lo hi : Option Int) : List α := (xs.drop (HT.sIx xs.length 0 lo)).take (HT.sIx xs.length xs.length hi - HT.sIx xs.length 0 lo)
def dSl (de : dE) (dl dh : dO) : dE := fun ρ Q => de ρ fun z => dl ρ fun lo => dh ρ fun hi => match z.data with
  | some (.list xs) => Q (.n (.l (cutD xs lo hi)))
  | some (.dict [(.none, .list xs)]) => Q (.n (.l (cutD xs lo hi)))
  | some (.tuple xs) => ¬ (HT.sIx xs.length 0 lo = 0 ∧ HT.sIx xs.length xs.length hi = xs.length) ∧ Q (.v (.tuple (cutD xs lo hi)))
  | some (.str s) => s.length ≤ sizeLine ∧ Q (.v (.str (cutS s lo hi)))
  | _ => False
def rSl (K : PySem.W.Frag) : V → Option Int → Option Int → Hp → VK → Prop := fun x lo hi H Q => rSlL K x lo hi H Q ∨ rSlT K x lo hi H Q ∨ rSlS x lo hi H Q
theorem sl_any {X : Cx} : SlR X (rSl X.K) := sl_list.or (sl_tup.or sl_str)
theorem cut_dq {K : Kx} {H : Hp} {vs : List V} {ds : List D} {lo hi : Option Int} (h : DqAll K H vs ds) : DqAll K H (cutV vs lo hi) (cutD ds lo hi) := by
  unfold cutV cutD
  rw [← dps_len h]
  exact dps_take _ (dps_drop _ h)
section
variable {X : Cx} {K : Kx} {A : Ax}
theorem co_none : CO X A none tNoPart dOnone := ⟨po_none, ⟨fun {B H G σ ρ Qd Q} p h k => k none B H (Gr.refl p.ex) h⟩⟩
theorem co_some {e : Expr} {te : TE} {de : dE} (h : CE X A e te de) : CO X A (some e) (tPart te) (dOsome de) := by
  refine ⟨po_some h.pe, ⟨fun {B H G σ ρ Qd Q} p q k => ?_⟩⟩
  refine h.sim.run p q fun z v B1 H1 g1 z1 h1 => ?_
  have h1 : (match z.data with
    | some (.int i) => Qd (some i)
    | _ => False) := h1
  split at h1
  · rename_i i e
    exact ⟨i, dp_int (z1.dp g1.ex e), k _ B1 H1 g1 h1⟩
  · exact h1.elim
theorem sim_sl {te : TE} {tl th : TO} {de : dE} {dl dh : dO} (he : SimE K A te de) (hl : SimO K A tl dl) (hh : SimO K A th dh) : SimE K A (tSl (rSl K) te tl th) (dSl de dl dh) := by
  refine ⟨fun {B H G σ ρ Qd Q} p h k => ?_⟩
  refine he.run p h fun x v B1 H1 g1 z1 h1 => ?_
  refine hl.run (p.gr g1) h1 fun lo B2 H2 g2 h2 => ?_
  refine hh.run ((p.gr g1).gr g2) h2 fun hi B3 H3 g3 h3 => ?_
  have ok := ((p.ok.gr g1).gr g2).gr g3
  have z3 := (z1.gr g2).gr g3
  have gg := (g1.trans g2).trans g3
  have h3 : (match x.data with
    | some (.list xs) => Qd (.n (.l (cutD xs lo hi)))
    | some (.dict [(.none, .list xs)]) => Qd (.n (.l (cutD xs lo hi)))
    | some (.tuple xs) => ¬ (HT.sIx xs.length 0 lo = 0 ∧ HT.sIx xs.length xs.length hi = xs.length) ∧ Qd (.v (.tuple (cutD xs lo hi)))
    | some (.str s) => s.length ≤ sizeLine ∧ Qd (.v (.str (cutS s lo hi)))
    | _ => False) := h3
  split at h3
  · rename_i xs e
    obtain ⟨a, vs, rfl, r, q⟩ := z3.items ok (items_of e)
    refine .inl ⟨a, vs, rfl, r, fun c hc => ?_⟩
    obtain ⟨g4, z4⟩ := new_list ok hc (cut_dq q)
    exact k _ _ _ _ (gg.trans g4) (z4.early gg.h) h3
  · rename_i xs e
    obtain ⟨a, vs, rfl, r, q⟩ := z3.items ok (items_scr e)
    refine .inl ⟨a, vs, rfl, r, fun c hc => ?_⟩
    obtain ⟨g4, z4⟩ := new_list ok hc (cut_dq q)
    exact k _ _ _ _ (gg.trans g4) (z4.early gg.h) h3
  · rename_i xs e
    obtain ⟨a, vs, rfl, r, _, q⟩ := z3.mems ok (mems_of e)
    refine .inr (.inl ⟨a, vs, rfl, r, by rw [dps_len q]; exact h3.1, fun c hc => ?_⟩)
    obtain ⟨g4, z4⟩ := new_tup ok hc (cut_dq q)
    exact k _ _ _ _ (gg.trans g4) (z4.early gg.h) h3.2
  · rename_i s e
    exact .inr (.inr ⟨s, dp_str (z3.dp ok.ex e), h3.1, k (.v (.str _)) _ B3 H3 gg (.str _) h3.2⟩)
  · exact h3.elim
end

/-! ### displays -/
def dTupD (dc : dC) : dE := fun ρ Q => dc ρ fun ds => ds.length ≤ sizeLine ∧ Q (.v (.tuple ds))
def dLstD (dc : dC) : dE := fun ρ Q => dc ρ fun ds => ds.length ≤ sizeLine ∧ Q (.n (.l ds))
section
variable {K : Kx} {A : Ax}
theorem sim_tup {ta : TA} {dc : dC} (h : SimC K A ta dc) : SimE K A (tTup ta) (dTupD dc) := by
  refine ⟨fun {B H G σ ρ Qd Q} p q k => ?_⟩
  refine h.run p q fun ds vs B1 H1 g1 z1 h1 => ?_
  refine ⟨by rw [dps_len z1]; exact h1.1, fun c hc => ?_⟩
  obtain ⟨g4, z4⟩ := new_tup (p.ok.gr g1) hc z1
  exact k _ _ _ _ (g1.trans g4) (z4.early g1.h) h1.2
theorem sim_lst {ta : TA} {dc : dC} (h : SimC K A ta dc) : SimE K A (tLst ta) (dLstD dc) := by
  refine ⟨fun {B H G σ ρ Qd Q} p q k => ?_⟩
  refine h.run p q fun ds vs B1 H1 g1 z1 h1 => ?_
  refine ⟨by rw [dps_len z1]; exact h1.1, fun c hc => ?_⟩
  obtain ⟨g4, z4⟩ := new_list (p.ok.gr g1) hc z1
  exact k _ _ _ _ (g1.trans g4) (z4.early g1.h) h1.2
end

/-! ### tests -/
def dTst (de : dE) : dT := fun ρ Q => de ρ fun z => match z.data with
  | some (.bool b) => Q b
  | _ => False
def dTru (de : dE) : dT := fun ρ Q => de ρ fun z => match z.data with
  | some .none => Q false
  | some (.bool b) => Q b
  | some (.int i) => Q (i != 0)
  | some (.str y) => y.length ≤ sizeLine ∧ Q ((y.length : Int) != 0)
  | some (.list xs) => Q (!xs.isEmpty)
  | some (.tuple xs) => Q (!xs.isEmpty)
  | _ => False
def dAndT (t u : dT) : dT := fun ρ Q => t ρ fun b => if b = true then u ρ Q else Q false
def dOrT (t u : dT) : dT := fun ρ Q => t ρ fun b => if b = true then Q true else u ρ Q
def dNotT (t : dT) : dT := fun ρ Q => t ρ fun b => Q (!b)
def dAndE (da db : dE) : dE := fun ρ Q => da ρ fun z => match z.data with
  | some (.bool b) => if b = true then db ρ Q else Q (.v (.bool false))
  | _ => False
def dOrE (da db : dE) : dE := fun ρ Q => da ρ fun z => match z.data with
  | some (.bool b) => if b = true then Q (.v (.bool true)) else db ρ Q
  | _ => False
def dNotE (da : dE) : dE := fun ρ Q => da ρ fun z => match z.data with
  | some (.bool b) => Q (.v (.bool (!b)))
  | _ => False
def dIfE (t : dT) (da db : dE) : dE := fun ρ Q => t ρ fun b => if b = true then da ρ Q else db ρ Q
theorem isEmpty_len {α β : Type} {xs : List α} {ys : List β} (h : xs.length = ys.length) : xs.isEmpty = ys.isEmpty := by
  cases xs <;> cases ys <;> first | rfl | (simp at h)
section
variable {K : Kx} {A : Ax}
theorem sim_tst {te : TE} {de : dE} (h : SimE K A te de) : SimT K A (tTest te) (dTst de) := by
  refine ⟨fun {B H G σ ρ Qd Q} p q k => ?_⟩
  refine h.run p q fun z v B1 H1 g1 z1 h1 => ?_
  have h1 : (match z.data with
    | some (.bool b) => Qd b
    | _ => False) := h1
  split at h1
  · rename_i b e
    exact ⟨b, dp_bl (z1.dp g1.ex e), k b B1 H1 g1 h1⟩
  · exact h1.elim
theorem sim_tru {te : TE} {de : dE} (h : SimE K A te de) : SimT K A (fun σ H Q => te σ H fun x H' => ∃ k, TruV K x H' k ∧ Q k H') (dTru de) := by
  refine ⟨fun {B H G σ ρ Qd Q} p q k => ?_⟩
  refine h.run p q fun z v B1 H1 g1 z1 h1 => ?_
  have ok := p.ok.gr g1
  have h1 : (match z.data with
    | some .none => Qd false
    | some (.bool b) => Qd b
    | some (.int i) => Qd (i != 0)
    | some (.str y) => y.length ≤ sizeLine ∧ Qd ((y.length : Int) != 0)
    | some (.list xs) => Qd (!xs.isEmpty)
    | some (.tuple xs) => Qd (!xs.isEmpty)
    | _ => False) := h1
  split at h1
  · rename_i e
    rw [dp_non (z1.dp g1.ex e)]
    exact ⟨false, rfl, k _ B1 H1 g1 h1⟩
  · rename_i b e
    rw [dp_bl (z1.dp g1.ex e)]
    exact ⟨b, rfl, k _ B1 H1 g1 h1⟩
  · rename_i i e
    rw [dp_int (z1.dp g1.ex e)]
    exact ⟨_, rfl, k _ B1 H1 g1 h1⟩
  · rename_i y e
    rw [dp_str (z1.dp g1.ex e)]
    exact ⟨_, ⟨h1.1, rfl⟩, k _ B1 H1 g1 h1.2⟩
  · rename_i xs e
    obtain ⟨a, vs, rfl, r, q1⟩ := z1.items ok (items_of e)
    refine ⟨_, .inl ⟨vs, r, rfl⟩, ?_⟩
    rw [isEmpty_len (dps_len q1)]
    exact k _ B1 H1 g1 h1
  · rename_i xs e
    obtain ⟨a, vs, rfl, r, _, q1⟩ := z1.mems ok (mems_of e)
    refine ⟨_, .inr (.inl ⟨vs, r, rfl⟩), ?_⟩
    rw [isEmpty_len (dps_len q1)]
    exact k _ B1 H1 g1 h1
  · exact h1.elim
theorem sim_andT {t u : TT} {a b : dT} (h1 : SimT K A t a) (h2 : SimT K A u b) : SimT K A (tAnd t u) (dAndT a b) := by
  refine ⟨fun {B H G σ ρ Qd Q} p q k => ?_⟩
  refine h1.run p q fun c B1 H1 g1 q1 => ?_
  cases c with
  | true => exact h2.run (p.gr g1) q1 fun c B2 H2 g2 q2 => k c B2 H2 (g1.trans g2) q2
  | false => exact k _ B1 H1 g1 q1
theorem sim_orT {t u : TT} {a b : dT} (h1 : SimT K A t a) (h2 : SimT K A u b) : SimT K A (tOr t u) (dOrT a b) := by
  refine ⟨fun {B H G σ ρ Qd Q} p q k => ?_⟩
  refine h1.run p q fun c B1 H1 g1 q1 => ?_
  cases c with
  | false => exact h2.run (p.gr g1) q1 fun c B2 H2 g2 q2 => k c B2 H2 (g1.trans g2) q2
  | true => exact k _ B1 H1 g1 q1
theorem sim_notT {t : TT} {a : dT} (h1 : SimT K A t a) : SimT K A (tNot t) (dNotT a) :=
  ⟨fun {B H G σ ρ Qd Q} p q k => h1.run p q fun c B1 H1 g1 q1 => k _ B1 H1 g1 q1⟩
theorem sim_andE {t u : TE} {a b : dE} (h1 : SimE K A t a) (h2 : SimE K A u b) : SimE K A (tAndV t u) (dAndE a b) := by
  refine ⟨fun {B H G σ ρ Qd Q} p q k => ?_⟩
  refine h1.run p q fun z v B1 H1 g1 z1 q1 => ?_
  have q1 : (match z.data with
    | some (.bool c) => if c = true then b ρ Qd else Qd (.v (.bool false))
    | _ => False) := q1
  split at q1
  · rename_i c e
    refine ⟨c, dp_bl (z1.dp g1.ex e), ?_⟩
    cases c with
    | true => exact h2.run (p.gr g1) q1 fun z v B2 H2 g2 z2 q2 => k z v B2 H2 (g1.trans g2) (z2.early g1.h) q2
    | false => exact k (.v (.bool false)) _ B1 H1 g1 (.bl _) q1
  · exact q1.elim
theorem sim_orE {t u : TE} {a b : dE} (h1 : SimE K A t a) (h2 : SimE K A u b) : SimE K A (tOrV t u) (dOrE a b) := by
  refine ⟨fun {B H G σ ρ Qd Q} p q k => ?_⟩
  refine h1.run p q fun z v B1 H1 g1 z1 q1 => ?_
  have q1 : (match z.data with
    | some (.bool c) => if c = true then Qd (.v (.bool true)) else b ρ Qd
    | _ => False) := q1
  split at q1
  · rename_i c e
    refine ⟨c, dp_bl (z1.dp g1.ex e), ?_⟩
    cases c with
    | false => exact h2.run (p.gr g1) q1 fun z v B2 H2 g2 z2 q2 => k z v B2 H2 (g1.trans g2) (z2.early g1.h) q2
    | true => exact k (.v (.bool true)) _ B1 H1 g1 (.bl _) q1
  · exact q1.elim
theorem sim_notE {t : TE} {a : dE} (h1 : SimE K A t a) : SimE K A (tNotV t) (dNotE a) := by
  refine ⟨fun {B H G σ ρ Qd Q} p q k => ?_⟩
  refine h1.run p q fun z v B1 H1 g1 z1 q1 => ?_
  have q1 : (match z.data with
    | some (.bool c) => Qd (.v (.bool (!c)))
    | _ => False) := q1
  split at q1
  · rename_i c e
    exact ⟨c, dp_bl (z1.dp g1.ex e), k (.v (.bool (!c))) _ B1 H1 g1 (.bl _) q1⟩
  · exact q1.elim
theorem sim_ifE {t : TT} {ta tb : TE} {a : dT} {da db : dE} (h1 : SimT K A t a) (h2 : SimE K A ta da) (h3 : SimE K A tb db) : SimE K A (tIf t ta tb) (dIfE a da db) := by
  refine ⟨fun {B H G σ ρ Qd Q} p q k => ?_⟩
  refine h1.run p q fun c B1 H1 g1 q1 => ?_
  cases c with
  | true => exact h2.run (p.gr g1) q1 fun z v B2 H2 g2 z2 q2 => k z v B2 H2 (g1.trans g2) (z2.early g1.h) q2
  | false => exact h3.run (p.gr g1) q1 fun z v B2 H2 g2 z2 q2 => k z v B2 H2 (g1.trans g2) (z2.early g1.h) q2
end
end Dl

set_option maxHeartbeats 2000000
namespace Dl
open PySem L2

/-! ### what changes the world -/
/-- an exception: of a class of our own, with its attributes; of a built-in class -/
inductive Exn where
  | own (C : Nat) (fs : List (Str × D))
  | blt (n : String)
def ExIs (K : Kx) (B : Hp) : Exn → Value → Option Addr → Prop
  | .own C fs, c, d => c = .ref (K.cl C) ∧ ((fs = [] ∧ d = none) ∨ ∃ a vs, d = some a ∧ B a = some (.xd vs) ∧ vs.map (·.1) = fs.map (·.1) ∧ DqAll K.f B (vs.map (·.2)) (fs.map (·.2)))
  | .blt n, c, d => c = .type n ∧ d = none
/-- what an expression gives, where the world may have changed since (H_0, G_0) -/
def ZIx (K : Kx) (H_0 : Hp) (G_0 : Addr → Prop) (B H : Hp) (G : Addr → Prop) : Z → V → Prop
  | .v d, v => Dq K.f B v d
  | .b s, v => ∃ R, (∀ a, R a → G a) ∧ s.tru = true ∧ Own K B H s v R
  | .n s, v => ∃ R, (∀ a, R a → (H_0 a = none ∨ G_0 a) ∧ ¬ G a ∧ B a = none ∧ H a ≠ none) ∧ s.tru = true ∧ Own K B H s v R
section
variable {K : Kx} {B H B1 H1 B' H' : Hp} {G G1 G' : Addr → Prop} {z : Z} {v : V} {d : D}
theorem ZIx.back (x : Ext B H G B1 H1 G1) (h : ZIx K H1 G1 B' H' G' z v) : ZIx K H G B' H' G' z v := by
  cases z with
  | v d => exact h
  | b s => exact h
  | n s =>
    obtain ⟨R, r, n, q⟩ := h
    refine ⟨R, fun a ra => ⟨?_, (r a ra).2⟩, n, q⟩
    rcases (r a ra).1 with q | q
    · exact .inl (Classical.byContradiction fun z => x.all a z q)
    · exact (x.own a q).elim .inr .inl
/-- what is not only read stays as the world goes on -/
def Z.keep : Z → Prop
  | .b _ => False
  | _ => True
theorem ZIx.step (x : Ext B1 H1 G1 B' H' G') (ok : Ok B' H' G') (c : z.keep) (h : ZIx K H G B1 H1 G1 z v) : ZIx K H G B' H' G' z v := by
  cases z with
  | v d => exact dp_mono x.b _ _ h
  | b s => exact c.elim
  | n s =>
    obtain ⟨R, r, n, q⟩ := h
    refine ⟨R, fun a ra => ⟨(r a ra).1, fun g => ?_, ?_, x.all a (r a ra).2.2.2⟩, n, q.frame x.b fun a o ra e => x.keep a o (r a ra).2.1 e⟩
    · exact (x.own a g).elim (r a ra).2.1 (r a ra).2.2.2
    · exact Classical.byContradiction fun z => (x.nw a z).elim (fun q => q (r a ra).2.2.1) fun z => z.elim (r a ra).2.2.2 (r a ra).2.1
theorem ZIs.x (g : Gr B H B1 H1) (ok : Ok B H G) (h : ZIs K B1 H1 G H z v) : ZIx K H G B1 H1 G z v := by
  cases z with
  | v d => exact h
  | b s => exact h
  | n s =>
    obtain ⟨R, r, n, q⟩ := h
    exact ⟨R, fun a ra => ⟨.inl (r a ra).1, fun g => ok.on a g (r a ra).1, (r a ra).2⟩, n, q⟩
theorem ZIx.zis (h : ZIx K H G B1 H1 G1 z v) (c : ∀ s, z ≠ .n s) : ZIs K B1 H1 G1 H1 z v := by
  cases z with
  | v d => exact h
  | b s => exact h
  | n s => exact absurd rfl (c s)
/-- a thing that stands by itself, as data for ever -/
theorem ZIx.clean (ok : Ok B1 H1 G1) (x : Ext B H G B1 H1 G1) (h : ZIx K H G B1 H1 G1 z v) (hd : z.own = some d) : ∃ B', Ok B' H1 G1 ∧ Ext B H G B' H1 G1 ∧ Ex B1 B' ∧ Dq K.f B' v d := by
  cases z with
  | v d' => cases hd; exact ⟨B1, ok, x, Ex.refl B1, h⟩
  | b s => cases hd
  | n s =>
    obtain ⟨R, r, n, q⟩ := h
    have eb : Ex B1 (froz B1 H1 R) := froz_ex fun a ra => (r a ra).2.2.1
    refine ⟨froz B1 H1 R, ⟨froz_to ok.ex, fun a g => ?_, ok.on⟩, ⟨x.b.trans eb, x.keep, fun a h => ?_, x.own, x.all⟩, eb, q.froz eb hd⟩
    · refine Classical.byContradiction fun z => ?_
      rcases froz_in z with z | z
      · exact z (ok.off a g)
      · exact (r a z).2.1 g
    · rcases froz_in h with z | z
      · exact x.nw a z
      · exact .inr ((r a z).1)
theorem Rep.base {A : Ax} {σ : St} {ρ : List S} (p : Rep K A B1 H1 G1 σ ρ) (ok : Ok B' H1 G1) (e : Ex B1 B') : Rep K A B' H1 G1 σ ρ := p.frame ok e fun _ _ _ h => h
theorem ExIs.ex {e : Exn} {c : Value} {d : Option Addr} (x : Ex B B1) (h : ExIs K B e c d) : ExIs K B1 e c d := by
  cases e with
  | own C fs =>
    obtain ⟨h1, h2⟩ := h
    refine ⟨h1, h2.imp (fun z => z) ?_⟩
    rintro ⟨a, vs, h3, h4, h5, h6⟩
    exact ⟨a, vs, h3, x a _ h4, h5, dps_mono x _ _ h6⟩
  | blt n => exact h
end

/-! ### readings that may change the world, or raise -/
abbrev dX := List S → (Z → List S → Prop) → (Exn → List S → Prop) → Prop
abbrev dXT := List S → (Bool → List S → Prop) → (Exn → List S → Prop) → Prop
abbrev dXC := List S → (List D → List S → Prop) → (Exn → List S → Prop) → Prop
/-- what W says of an exception at σ -/
def WAt (K : Kx) (A : Ax) (W : WX) (B H : Hp) (G : Addr → Prop) (σ : St) (Ed : Exn → List S → Prop) : Prop :=
  ∀ x c d B' H' G' ρ', Ext B H G B' H' G' → Rep K A B' H' G' σ ρ' → ExIs K B' x c d → Ed x ρ' → W c d σ H'
structure SimX (K : Kx) (A : Ax) (W : WX) (te : TE) (dx : dX) : Prop where
  run : ∀ {B H : Hp} {G : Addr → Prop} {σ : St} {ρ : List S} {Qd : Z → List S → Prop} {Ed : Exn → List S → Prop} {Q : VK}, Rep K A B H G σ ρ → dx ρ Qd Ed →
    (∀ z v B' H' G' ρ', Ext B H G B' H' G' → Rep K A B' H' G' σ ρ' → ZIx K H G B' H' G' z v → Qd z ρ' → Q v H') → WAt K A W B H G σ Ed → te σ H Q
structure SimXT (K : Kx) (A : Ax) (W : WX) (tt : TT) (dx : dXT) : Prop where
  run : ∀ {B H : Hp} {G : Addr → Prop} {σ : St} {ρ : List S} {Qd : Bool → List S → Prop} {Ed : Exn → List S → Prop} {Q : Bool → Hp → Prop}, Rep K A B H G σ ρ → dx ρ Qd Ed →
    (∀ b B' H' G' ρ', Ext B H G B' H' G' → Rep K A B' H' G' σ ρ' → Qd b ρ' → Q b H') → WAt K A W B H G σ Ed → tt σ H Q
/-- a row of data -/
structure SimXC (K : Kx) (A : Ax) (W : WX) (ta : TA) (dx : dXC) : Prop where
  run : ∀ {B H : Hp} {G : Addr → Prop} {σ : St} {ρ : List S} {Qd : List D → List S → Prop} {Ed : Exn → List S → Prop} {Q : List V → Hp → Prop}, Rep K A B H G σ ρ → dx ρ Qd Ed →
    (∀ ds vs B' H' G' ρ', Ext B H G B' H' G' → Rep K A B' H' G' σ ρ' → DqAll K.f B' vs ds → Qd ds ρ' → Q vs H') → WAt K A W B H G σ Ed → ta σ H Q
section
variable {K : Kx} {A : Ax} {W : WX} {B H B1 H1 : Hp} {G G1 : Addr → Prop} {σ : St} {Ed : Exn → List S → Prop}
theorem WAt.on (h : WAt K A W B H G σ Ed) (x : Ext B H G B1 H1 G1) : WAt K A W B1 H1 G1 σ Ed :=
  fun e c d B' H' G' ρ' x' r i q => h e c d B' H' G' ρ' (x.trans x') r i q
def dP (de : dE) : dX := fun ρ Q _ => de ρ fun z => Q z ρ
def dPT (dt : dT) : dXT := fun ρ Q _ => dt ρ fun b => Q b ρ
def dPC (dc : dC) : dXC := fun ρ Q _ => dc ρ fun ds => Q ds ρ
theorem sim_p {te : TE} {de : dE} (h : SimE K A te de) : SimX K A W te (dP de) := by
  refine ⟨fun {B H G σ ρ Qd Ed Q} p q k kx => ?_⟩
  exact h.run p q fun z v B1 H1 g1 z1 h1 => k z v B1 H1 G ρ (Ext.gr g1) (p.gr g1) (z1.x g1 p.ok) h1
theorem sim_pt {tt : TT} {dt : dT} (h : SimT K A tt dt) : SimXT K A W tt (dPT dt) := by
  refine ⟨fun {B H G σ ρ Qd Ed Q} p q k kx => ?_⟩
  exact h.run p q fun b B1 H1 g1 h1 => k b B1 H1 G ρ (Ext.gr g1) (p.gr g1) h1
theorem sim_pc {ta : TA} {dc : dC} (h : SimC K A ta dc) : SimXC K A W ta (dPC dc) := by
  refine ⟨fun {B H G σ ρ Qd Ed Q} p q k kx => ?_⟩
  exact h.run p q fun ds vs B1 H1 g1 z1 h1 => k ds vs B1 H1 G ρ (Ext.gr g1) (p.gr g1) z1 h1
def dXnil : dXC := fun ρ Q _ => Q [] ρ
def dXcons (dx : dX) (dr : dXC) : dXC := fun ρ Q E => dx ρ (fun z ρ1 => match z.own with
  | some d => dr ρ1 (fun ds ρ2 => Q (d :: ds) ρ2) E
  | none => False) E
theorem sim_xnil : SimXC K A W tNil dXnil := ⟨fun {B H G σ ρ Qd Ed Q} p q k kx => k [] [] B H G ρ Ext.refl p .nil q⟩
theorem sim_xcons {te : TE} {tr : TA} {dx : dX} {dr : dXC} (h1 : SimX K A W te dx) (h2 : SimXC K A W tr dr) : SimXC K A W (tCons te tr) (dXcons dx dr) := by
  refine ⟨fun {B H G σ ρ Qd Ed Q} p q k kx => ?_⟩
  refine h1.run p q (fun z v B1 H1 G1 ρ1 x1 p1 z1 q1 => ?_) kx
  have q1 : (match z.own with
    | some d => dr ρ1 (fun ds ρ2 => Qd (d :: ds) ρ2) Ed
    | none => False) := q1
  cases e : z.own with
  | none => rw [e] at q1; exact q1.elim
  | some d =>
    rw [e] at q1
    obtain ⟨B2, ok2, x2, e2, hd⟩ := z1.clean p1.ok x1 e
    refine h2.run (p1.base ok2 e2) q1 (fun ds vs B3 H3 G3 ρ3 x3 p3 z3 q3 => ?_) (kx.on x2)
    exact k _ _ B3 H3 G3 ρ3 (x2.trans x3) p3 (.cons (dp_mono x3.b _ _ hd) z3) q3
end

/-! ### statements -/
structure DE where
  nx : List S → Prop
  rt : Z → List S → Prop
  bk : List S → Prop := fun _ => False
  ct : List S → Prop := fun _ => False
  ex : Exn → List S → Prop := fun _ _ => False
abbrev dS := DE → List S → Prop
structure SimS (K : Kx) (A : Ax) (W : WX) (ts : TS) (ds : dS) : Prop where
  run : ∀ {B H : Hp} {G : Addr → Prop} {σ : St} {ρ : List S} {D : Ends} {E : DE}, Rep K A B H G σ ρ → ds E ρ →
    (∀ B' H' G' σ' ρ', Ext B H G B' H' G' → Rep K A B' H' G' σ' ρ' → E.nx ρ' → D.nx σ' H') →
    (∀ B' H' G' σ' ρ' z v, Ext B H G B' H' G' → Rep K A B' H' G' σ' ρ' → ZIx K H G B' H' G' z v → E.rt z ρ' → D.rt v H') →
    (∀ B' H' G' σ' ρ', Ext B H G B' H' G' → Rep K A B' H' G' σ' ρ' → E.bk ρ' → D.bk σ' H') →
    (∀ B' H' G' σ' ρ', Ext B H G B' H' G' → Rep K A B' H' G' σ' ρ' → E.ct ρ' → D.ct σ' H') →
    (∀ B' H' G' σ' ρ' x c d, Ext B H G B' H' G' → Rep K A B' H' G' σ' ρ' → ExIs K B' x c d → E.ex x ρ' → W c d σ' H') → ts D σ H
def dNext : dS := fun E ρ => E.nx ρ
def dSeq (a b : dS) : dS := fun E ρ => a { E with nx := b E } ρ
def dBreak : dS := fun E ρ => E.bk ρ
def dCont : dS := fun E ρ => E.ct ρ
def dNever : dS := fun _ _ => False
def dDrop (dx : dX) : dS := fun E ρ => dx ρ (fun _ ρ' => E.nx ρ') E.ex
def dRet (dx : dX) : dS := fun E ρ => dx ρ E.rt E.ex
def dRetN : dS := fun E ρ => E.rt (.v .none) ρ
def dIf (t : dXT) (a b : dS) : dS := fun E ρ => t ρ (fun c ρ' => if c = true then a E ρ' else b E ρ') E.ex
def dSet (i : Nat) (dx : dX) : dS := fun E ρ => dx ρ (fun z ρ' => match z with
  | .v d => E.nx (ρ'.set i (.v d))
  | .n s => E.nx (ρ'.set i s)
  | .b _ => False) E.ex
section
variable {K : Kx} {A : Ax} {W : WX}
theorem sim_next : SimS K A W tNext dNext := ⟨fun p h k1 k2 k3 k4 k5 => k1 _ _ _ _ _ Ext.refl p h⟩
theorem sim_brk : SimS K A W tBreak dBreak := ⟨fun p h k1 k2 k3 k4 k5 => k3 _ _ _ _ _ Ext.refl p h⟩
theorem sim_cont : SimS K A W tCont dCont := ⟨fun p h k1 k2 k3 k4 k5 => k4 _ _ _ _ _ Ext.refl p h⟩
theorem sim_never : SimS K A W tNever dNever := ⟨fun p h k1 k2 k3 k4 k5 => h⟩
/-- going on behind a step -/
theorem SimS.after {t : TS} {a : dS} (h : SimS K A W t a) {B H B1 H1 : Hp} {G G1 : Addr → Prop} {σ : St} {ρ : List S} {D : Ends} {E : DE} (x : Ext B H G B1 H1 G1) (p : Rep K A B1 H1 G1 σ ρ) (q : a E ρ)
    (k1 : ∀ B' H' G' σ' ρ', Ext B H G B' H' G' → Rep K A B' H' G' σ' ρ' → E.nx ρ' → D.nx σ' H')
    (k2 : ∀ B' H' G' σ' ρ' z v, Ext B H G B' H' G' → Rep K A B' H' G' σ' ρ' → ZIx K H G B' H' G' z v → E.rt z ρ' → D.rt v H')
    (k3 : ∀ B' H' G' σ' ρ', Ext B H G B' H' G' → Rep K A B' H' G' σ' ρ' → E.bk ρ' → D.bk σ' H')
    (k4 : ∀ B' H' G' σ' ρ', Ext B H G B' H' G' → Rep K A B' H' G' σ' ρ' → E.ct ρ' → D.ct σ' H')
    (k5 : ∀ B' H' G' σ' ρ' x c d, Ext B H G B' H' G' → Rep K A B' H' G' σ' ρ' → ExIs K B' x c d → E.ex x ρ' → W c d σ' H') : t D σ H1 :=
  h.run p q (fun B2 H2 G2 σ2 ρ2 x2 p2 q2 => k1 _ _ _ _ _ (x.trans x2) p2 q2) (fun B2 H2 G2 σ2 ρ2 z v x2 p2 r q2 => k2 _ _ _ _ _ _ _ (x.trans x2) p2 (r.back x) q2)
    (fun B2 H2 G2 σ2 ρ2 x2 p2 q2 => k3 _ _ _ _ _ (x.trans x2) p2 q2) (fun B2 H2 G2 σ2 ρ2 x2 p2 q2 => k4 _ _ _ _ _ (x.trans x2) p2 q2)
    (fun B2 H2 G2 σ2 ρ2 e c d x2 p2 i q2 => k5 _ _ _ _ _ _ _ _ (x.trans x2) p2 i q2)
theorem sim_seq {t u : TS} {a b : dS} (h1 : SimS K A W t a) (h2 : SimS K A W u b) : SimS K A W (tSeq t u) (dSeq a b) := by
  refine ⟨fun {B H G σ ρ D E} p h k1 k2 k3 k4 k5 => ?_⟩
  exact h1.run (E := { E with nx := b E }) p h (fun B' H' G' σ' ρ' x p' q => h2.after x p' q k1 k2 k3 k4 k5) k2 k3 k4 k5
theorem wat {B H : Hp} {G : Addr → Prop} {σ : St} {E : DE} (k5 : ∀ B' H' G' σ' ρ' x c d, Ext B H G B' H' G' → Rep K A B' H' G' σ' ρ' → ExIs K B' x c d → E.ex x ρ' → W c d σ' H') : WAt K A W B H G σ E.ex :=
  fun x c d B' H' G' ρ' xx r i q => k5 B' H' G' σ ρ' x c d xx r i q
theorem sim_drop {te : TE} {dx : dX} (h : SimX K A W te dx) : SimS K A W (tDrop te) (dDrop dx) := by
  refine ⟨fun {B H G σ ρ D E} p q k1 k2 k3 k4 k5 => ?_⟩
  exact h.run p q (fun z v B1 H1 G1 ρ1 x1 p1 z1 h1 => k1 _ _ _ _ _ x1 p1 h1) (wat k5)
theorem sim_ret {te : TE} {dx : dX} (h : SimX K A W te dx) : SimS K A W (tRet te) (dRet dx) := by
  refine ⟨fun {B H G σ ρ D E} p q k1 k2 k3 k4 k5 => ?_⟩
  exact h.run p q (fun z v B1 H1 G1 ρ1 x1 p1 z1 h1 => k2 _ _ _ _ _ _ _ x1 p1 z1 h1) (wat k5)
theorem sim_retN : SimS K A W tRetN dRetN := ⟨fun {B H G σ ρ D E} p h k1 k2 k3 k4 k5 => k2 B H G σ ρ (.v .none) _ Ext.refl p .non h⟩
theorem sim_if {tt : TT} {t u : TS} {dt : dXT} {a b : dS} (h0 : SimXT K A W tt dt) (h1 : SimS K A W t a) (h2 : SimS K A W u b) : SimS K A W (tIfS tt t u) (dIf dt a b) := by
  refine ⟨fun {B H G σ ρ D E} p h k1 k2 k3 k4 k5 => ?_⟩
  refine h0.run p h (fun c B1 H1 G1 ρ1 x1 p1 q1 => ?_) (wat k5)
  cases c with
  | true => exact h1.after x1 p1 q1 k1 k2 k3 k4 k5
  | false => exact h2.after x1 p1 q1 k1 k2 k3 k4 k5
theorem Rep.setX {B H B1 H1 : Hp} {G G1 : Addr → Prop} {σ : St} {ρ : List S} {i : Nat} {s : S} {v : V} (x : Ext B H G B1 H1 G1) (p : Rep K A B1 H1 G1 σ ρ) (hA : NoAl ρ i) (hi : i < A.n) (z1 : ZIx K H G B1 H1 G1 (.n s) v) :
    ∃ G', Rep K A B1 H1 G' (σ.set i (some v)) (ρ.set i s) ∧ Ext B H G B1 H1 G' := by
  obtain ⟨R, r, n, q⟩ := z1
  refine ⟨_, p.setN hA hi q (S.tru_al n) (S.tru_gh n) (fun a ra => ⟨(r a ra).2.2.1, (r a ra).2.2.2⟩) (fun a ra => (r a ra).2.1), ?_⟩
  exact ⟨x.b, x.keep, x.nw, fun a g => g.elim (x.own a) fun ra => (r a ra).1.symm, x.all⟩
theorem sim_set {te : TE} {dx : dX} {i : Nat} (hA : A.A i = false) (hi : i < A.n) (h : SimX K A W te dx) : SimS K A W (tAsg te (gName i)) (dSet i dx) := by
  refine ⟨fun {B H G σ ρ D E} p q k1 k2 k3 k4 k5 => ?_⟩
  refine h.run p q (fun z v B1 H1 G1 ρ1 x1 p1 z1 h1 => ?_) (wat k5)
  show D.nx (σ.set i (some v)) H1
  cases z with
  | v d => exact k1 _ _ _ _ _ x1 (p1.setV (p1.noAl hA) hi z1) h1
  | b s => exact (show False from h1).elim
  | n s =>
    obtain ⟨G', p', x⟩ := Rep.setX x1 p1 (p1.noAl hA) hi z1
    exact k1 _ _ _ _ _ x p' h1
end
/-- from here on the list in slot i stands as it is -/
def dFrz (i : Nat) (a : dS) : dS := fun E ρ => match ρ[i]? with
  | some s => match s.data with
    | some d => a E (ρ.set i (.v d))
    | none => False
  | none => False
theorem sim_frz {K : Kx} {A : Ax} {W : WX} {t : TS} {a : dS} {i : Nat} (hA : A.A i = false) (hi : i < A.n) (h : SimS K A W t a) : SimS K A W t (dFrz i a) := by
  refine ⟨fun {B H G σ ρ D E} p q k1 k2 k3 k4 k5 => ?_⟩
  unfold dFrz at q
  cases e : ρ[i]? with
  | none => rw [e] at q; exact q.elim
  | some s =>
    rw [e] at q
    have q : (match s.data with
      | some d => a E (ρ.set i (.v d))
      | none => False) := q
    cases e2 : s.data with
    | none => rw [e2] at q; exact q.elim
    | some d =>
      rw [e2] at q
      obtain ⟨B1, G1, p1, x⟩ := p.freeze (p.noAl hA) e e2
      exact h.after x p1 q k1 k2 k3 k4 k5

/-! ### targets -/
abbrev dG := D → List S → (List S → Prop) → Prop
abbrev dGs := List D → List S → (List S → Prop) → Prop
structure SimG (K : Kx) (A : Ax) (js : List Nat) (g : TG) (dg : dG) : Prop where
  run : ∀ {B H : Hp} {G : Addr → Prop} {σ : St} {ρ : List S} {d : D} {v : V} {Qd : List S → Prop} {Q : St → Hp → Prop}, Rep K A B H G σ ρ → Dq K.f B v d → dg d ρ Qd →
    (∀ σ' ρ', Rep K A B H G σ' ρ' → (∀ vs : List Nat, (∀ j ∈ js, j ∈ vs) → wipe σ' vs = wipe σ vs) → Qd ρ' → Q σ' H) → g v σ H Q
structure SimGs (K : Kx) (A : Ax) (js : List Nat) (g : TGs) (dg : dGs) : Prop where
  run : ∀ {B H : Hp} {G : Addr → Prop} {σ : St} {ρ : List S} {ds : List D} {vs : List V} {Qd : List S → Prop} {Q : St → Hp → Prop}, Rep K A B H G σ ρ → DqAll K.f B vs ds → dg ds ρ Qd →
    (∀ σ' ρ', Rep K A B H G σ' ρ' → (∀ vs : List Nat, (∀ j ∈ js, j ∈ vs) → wipe σ' vs = wipe σ vs) → Qd ρ' → Q σ' H) → g vs σ H Q
structure CG (X : Cx) (A : Ax) (tg : Expr) (js : List Nat) (g : TG) (dg : dG) : Prop where
  pg : PG X tg g
  sim : SimG (kx A X) A js g dg
structure CGs (X : Cx) (A : Ax) (tgs : List Expr) (js : List Nat) (g : TGs) (dg : dGs) : Prop where
  pg : PGs X tgs g
  sim : SimGs (kx A X) A js g dg
def dgName (i : Nat) : dG := fun d ρ Q => Q (ρ.set i (.v d))
def dgNil : dGs := fun ds ρ Q => ds = [] ∧ Q ρ
def dgCons (g : dG) (gs : dGs) : dGs := fun ds ρ Q => match ds with
  | d :: r => g d ρ fun ρ' => gs r ρ' Q
  | [] => False
def dgTup (n : Nat) (gs : dGs) : dG := fun d ρ Q => match d with
  | .tuple ds => ds.length = n ∧ gs ds ρ Q
  | .list ds => ds.length = n ∧ gs ds ρ Q
  | _ => False
/-- (a, b, ..) = a tuple or a list of that length -/
def gTU (K : PySem.W.Frag) (n : Nat) (t : TGs) : TG := fun v σ H Q => gTup K n t v σ H Q ∨ gUnl K n t v σ H Q
theorem wipe_at (σ : St) (i : Nat) : ∀ vs : List Nat, (wipe σ vs)[i]? = if i ∈ vs then (σ[i]?).map (fun _ => none) else σ[i]?
  | [] => by simp [wipe]
  | v :: r => by
    show ((wipe σ r).set v none)[i]? = _
    by_cases h2 : v = i
    · subst h2
      rw [if_pos List.mem_cons_self, List.getElem?_set]
      simp only [if_true, wipe_length]
      cases e : σ[v]? with
      | none =>
        have := List.getElem?_eq_none_iff.mp e
        rw [if_neg (by omega)]; rfl
      | some z =>
        have := (List.getElem?_eq_some_iff.mp e).1
        rw [if_pos this]; rfl
    · rw [List.getElem?_set_ne h2, wipe_at σ i r]
      by_cases h1 : i ∈ r
      · rw [if_pos h1, if_pos (List.mem_cons_of_mem _ h1)]
      · rw [if_neg h1, if_neg (by simp; exact ⟨fun z => h2 z.symm, h1⟩)]
theorem wipe_set {σ : St} {x : Option V} {j : Nat} {vs : List Nat} (hj : j ∈ vs) : wipe (σ.set j x) vs = wipe σ vs := by
  apply List.ext_getElem?
  intro i
  rw [wipe_at, wipe_at]
  by_cases h : i ∈ vs
  · rw [if_pos h, if_pos h]
    by_cases h2 : j = i
    · subst h2
      rw [List.getElem?_set]
      simp only [if_true]
      cases e : σ[j]? with
      | none =>
        have := List.getElem?_eq_none_iff.mp e
        rw [if_neg (by omega)]
      | some z =>
        have := (List.getElem?_eq_some_iff.mp e).1
        rw [if_pos this]; rfl
    · rw [List.getElem?_set_ne h2]
  · rw [if_neg h, if_neg h, List.getElem?_set_ne (fun z => h (by rw [← z]; exact hj))]
section
variable {X : Cx} {K : Kx} {A Y : Ax}
theorem sim_gname {i : Nat} (hA : A.A i = false) (hi : i < A.n) : SimG K A [i] (gName i) (dgName i) := ⟨fun {B H G σ ρ d v Qd Q} p h q k => k _ _ (p.setV (p.noAl hA) hi h) (fun vs hv => wipe_set (hv i (List.mem_singleton.mpr rfl))) q⟩
theorem sim_gnil : SimGs K A [] gNil dgNil := ⟨fun {B H G σ ρ ds vs Qd Q} p h q k => by
  obtain ⟨e, q⟩ := q
  subst e
  cases h
  exact ⟨rfl, k _ _ p (fun _ _ => rfl) q⟩⟩
theorem sim_gcons {js ks : List Nat} {t : TG} {u : TGs} {g : dG} {gs : dGs} (h1 : SimG K A js t g) (h2 : SimGs K A ks u gs) : SimGs K A (js ++ ks) (gCons t u) (dgCons g gs) := by
  refine ⟨fun {B H G σ ρ ds vs Qd Q} p h q k => ?_⟩
  cases h with
  | nil => exact (show False from q).elim
  | cons a b =>
    refine ⟨_, _, rfl, h1.run p a q fun σ1 ρ1 p1 w1 q1 => ?_⟩
    refine h2.run p1 b q1 fun σ2 ρ2 p2 w2 q2 => ?_
    exact k _ _ p2 (fun vs hv => (w2 vs fun j hj => hv j (List.mem_append_right _ hj)).trans (w1 vs fun j hj => hv j (List.mem_append_left _ hj))) q2
theorem sim_gtup {js : List Nat} {u : TGs} {gs : dGs} {n : Nat} (h : SimGs K A js u gs) : SimG K A js (gTU K n u) (dgTup n gs) := by
  refine ⟨fun {B H G σ ρ d v Qd Q} p hd q k => ?_⟩
  cases d with
  | tuple ds =>
    obtain ⟨a, vs, rfl, hs, ha⟩ := dp_tup hd
    exact .inl ⟨a, vs, rfl, ex_t p.ex hs, by rw [dps_len ha]; exact q.1, h.run p ha q.2 k⟩
  | list ds =>
    obtain ⟨a, vs, rfl, hs, ha⟩ := dp_lst hd
    exact .inr ⟨a, vs, rfl, .inl (ex_rd p.ex hs), by rw [dps_len ha]; exact q.1, h.run p ha q.2 k⟩
  | _ => exact (show False from q).elim
theorem pg_tu {es : List Expr} {k : Nat} {t : TGs} {n : Nat} {pos : Pos} (hc : X.calm = true) (h : PGs X es t)
    (hn : (assignEach es X.env).length = n := by rfl) (hst : (assignEach es X.env).findIdx? (·.1) = none := by rfl) : PG X (.Tuple es k pos) (gTU X.K n t) := by
  refine ⟨fun pins s σ H v u Q I r hw => ?_⟩
  rcases hw with hw | hw
  · exact (pg_tup hc h hn hst).run pins s σ H v u Q I r hw
  · exact (pg_unl hc h hn hst).run pins s σ H v u Q I r hw
theorem cg_name {i : Nat} {x : Str} {pos : Pos} (hN : X.N.Nodup) (hi : X.N[i]? = some x) (hx : Loc X.env.scope x) (hf : X.fn x = true ∨ X.env.scope.names.lookup x = some .local := by first | exact .inl rfl | exact .inr rfl | assumption) (hA : A.A i = false := by rfl) (hn : i < A.n := by decide) : CG X A (.Name x pos) [i] (gName i) (dgName i) := ⟨pg_name hN hi hx hf, sim_gname hA hn⟩
theorem cgs_nil : CGs X A [] [] gNil dgNil := ⟨pgs_nil, sim_gnil⟩
theorem cgs_cons {e : Expr} {es : List Expr} {js ks : List Nat} {t : TG} {u : TGs} {g : dG} {gs : dGs} (h1 : CG X A e js t g) (h2 : CGs X A es ks u gs)
    (hs : (assignEach (e :: es) X.env).map (·.2) = assign e X.env :: (assignEach es X.env).map (·.2) := by rfl) : CGs X A (e :: es) (js ++ ks) (gCons t u) (dgCons g gs) := ⟨pgs_cons h1.pg h2.pg hs, sim_gcons h1.sim h2.sim⟩
theorem cg_tup {es : List Expr} {k : Nat} {pos : Pos} {js : List Nat} {u : TGs} {gs : dGs} {n : Nat} (hc : X.calm = true) (h : CGs X A es js u gs)
    (hn : (assignEach es X.env).length = n := by rfl) (hst : (assignEach es X.env).findIdx? (·.1) = none := by rfl) : CG X A (.Tuple es k pos) js (gTU X.K n u) (dgTup n gs) := ⟨pg_tu hc h.pg hn hst, sim_gtup h.sim⟩
end
/-- a, b = e -/
def dUnp (dx : dX) (g : dG) : dS := fun E ρ => dx ρ (fun z ρ' => match z.own with
  | some d => g d ρ' E.nx
  | none => False) E.ex
theorem sim_unp {K : Kx} {A : Ax} {W : WX} {te : TE} {dx : dX} {js : List Nat} {g : TG} {dg : dG} (h : SimX K A W te dx) (hg : SimG K A js g dg) : SimS K A W (tAsg te g) (dUnp dx dg) := by
  refine ⟨fun {B H G σ ρ D E} p q k1 k2 k3 k4 k5 => ?_⟩
  refine h.run p q (fun z v B1 H1 G1 ρ1 x1 p1 z1 h1 => ?_) (wat k5)
  have h1 : (match z.own with
    | some d => dg d ρ1 E.nx
    | none => False) := h1
  cases e : z.own with
  | none => rw [e] at h1; exact h1.elim
  | some d =>
    rw [e] at h1
    obtain ⟨B2, ok2, x2, e2, hd⟩ := z1.clean p1.ok x1 e
    exact hg.run (p1.base ok2 e2) hd h1 fun σ' ρ' p' _ q' => k1 _ _ _ _ _ x2 p' q'

/-! ### what is walked -/
abbrev dI_ := List S → (List D → Prop) → Prop
abbrev dXI := List S → (List D → List S → Prop) → (Exn → List S → Prop) → Prop
/-- the turns give these items -/
structure JIs (K : Kx) (B : Hp) (J : It) (items : List D) : Prop where
  go : ∀ {B1 H1 : Hp} {i : Nat}, Ex B B1 → Ex B1 H1 → i < items.length → J.go i H1
  stop : ∀ {B1 H1 : Hp}, Ex B B1 → Ex B1 H1 → J.stop items.length H1
  yld : ∀ {B1 H1 H2 : Hp} {i : Nat} {x : V} {d : D}, Ex B B1 → Ex B1 H1 → items[i]? = some d → J.yld i H1 x H2 → ∃ B2, Gr B1 H1 B2 H2 ∧ Dq K B2 x d
structure SimI (K : Kx) (A : Ax) (wi : TI) (di : dI_) : Prop where
  run : ∀ {B H : Hp} {G : Addr → Prop} {σ : St} {ρ : List S} {Qi : List D → Prop} {R : It → Hp → Prop}, Rep K A B H G σ ρ → di ρ Qi → (∀ items J B' H', Gr B H B' H' → JIs K B' J items → Qi items → R J H') → wi σ H R
structure SimXI (K : Kx) (A : Ax) (W : WX) (wi : TI) (di : dXI) : Prop where
  run : ∀ {B H : Hp} {G : Addr → Prop} {σ : St} {ρ : List S} {Qi : List D → List S → Prop} {Ed : Exn → List S → Prop} {R : It → Hp → Prop}, Rep K A B H G σ ρ → di ρ Qi Ed →
    (∀ items J B' H' G' ρ', Ext B H G B' H' G' → Rep K A B' H' G' σ ρ' → JIs K B' J items → Qi items ρ' → R J H') → WAt K A W B H G σ Ed → wi σ H R
structure CI (X : Cx) (A : Ax) (tg iter : Expr) (wi : TI) (di : dI_) : Prop where
  pi : PI X tg iter wi
  sim : SimI (kx A X) A wi di
def dPI (di : dI_) : dXI := fun ρ Q _ => di ρ fun items => Q items ρ
theorem sim_pi {K : Kx} {A : Ax} {W : WX} {wi : TI} {di : dI_} (h : SimI K A wi di) : SimXI K A W wi (dPI di) := by
  refine ⟨fun {B H G σ ρ Qi Ed R} p q k kx => ?_⟩
  exact h.run p q fun items J B1 H1 g1 hJ h1 => k items J B1 H1 G ρ (Ext.gr g1) (p.gr g1) hJ h1
def dFor (di : dXI) (g : dG) (body : dS) : dS := fun E ρ => di ρ (fun items ρ0 => ∃ I : Nat → List S → Prop, I 0 ρ0 ∧
  (∀ i x ρ', items[i]? = some x → I i ρ' → g x ρ' fun ρ1 => body { nx := I (i + 1), rt := E.rt, bk := E.nx, ct := I (i + 1), ex := E.ex } ρ1) ∧ ∀ ρ', I items.length ρ' → E.nx ρ') E.ex
theorem sim_for {K : Kx} {A : Ax} {W : WX} {wi : TI} {di : dXI} {js : List Nat} {g : TG} {dg : dG} {tb : TS} {body : dS} (hi : SimXI K A W wi di) (hg : SimG K A js g dg) (hb : SimS K A W tb body) : SimS K A W (tFor wi g tb) (dFor di dg body) := by
  refine ⟨fun {B H G σ ρ D E} p q k1 k2 k3 k4 k5 => ?_⟩
  refine hi.run p q (fun items J B1 H1 G1 ρ0 x1 p1 hJ h1 => ?_) (wat k5)
  obtain ⟨I, i0, turn, done⟩ := h1
  refine ⟨fun i m σ' H' => m = items.length - i ∧ i ≤ items.length ∧ ∃ B' G' ρ', Ext B1 H1 G1 B' H' G' ∧ Rep K A B' H' G' σ' ρ' ∧ I i ρ', ⟨items.length, by simp, Nat.zero_le _, B1, G1, ρ0, Ext.refl, p1, i0⟩, ?_⟩
  rintro i m σ' H' ⟨rfl, hle, B', G', ρ', x', p', hI⟩
  by_cases hlt : i < items.length
  · refine .inr ⟨hJ.go x'.b p'.ex hlt, fun σ2 H2 => ∃ B2 G2 ρ2, Ext B1 H1 G1 B2 H2 G2 ∧ Rep K A B2 H2 G2 σ2 ρ2 ∧ I (i + 1) ρ2, fun σ2 H2 ⟨B2, G2, ρ2, a, b, c⟩ => ⟨items.length - (i + 1), by omega, rfl, hlt, B2, G2, ρ2, a, b, c⟩, fun v H2 hy => ?_⟩
    have e : items[i]? = some items[i] := List.getElem?_eq_getElem hlt
    obtain ⟨B2, g2, hd⟩ := hJ.yld x'.b p'.ex e hy
    have x2 := x'.trans (Ext.gr (G := G') g2)
    have x3 := x1.trans x2
    refine hg.run (p'.gr g2) hd (turn i _ ρ' e hI) fun σ3 ρ3 p3 _ q3 => ?_
    exact hb.run (E := { nx := I (i + 1), rt := E.rt, bk := E.nx, ct := I (i + 1), ex := E.ex }) p3 q3 (fun B4 H4 G4 σ4 ρ4 x4 p4 q4 => ⟨B4, G4, ρ4, x2.trans x4, p4, q4⟩) (fun B4 H4 G4 σ4 ρ4 z v x4 p4 r q4 => k2 _ _ _ _ _ _ _ (x3.trans x4) p4 (r.back x3) q4)
      (fun B4 H4 G4 σ4 ρ4 x4 p4 q4 => k1 _ _ _ _ _ (x3.trans x4) p4 q4) (fun B4 H4 G4 σ4 ρ4 x4 p4 q4 => ⟨B4, G4, ρ4, x2.trans x4, p4, q4⟩) (fun B4 H4 G4 σ4 ρ4 e c d x4 p4 j q4 => k5 _ _ _ _ _ _ _ _ (x3.trans x4) p4 j q4)
  · have e : i = items.length := by omega
    subst e
    exact .inl ⟨hJ.stop x'.b p'.ex, k1 _ _ _ _ _ (x1.trans x') p' (done ρ' hI)⟩
/-! lists, tuples, ranges -/
def itemsD (z : Z) (Q : List D → Prop) : Prop := match z.own with
  | some (.list xs) => Q xs
  | some (.dict [(.none, .list xs)]) => Q xs
  | some (.tuple xs) => Q xs
  | _ => False
def dItems (de : dE) : dI_ := fun ρ Q => de ρ fun z => itemsD z Q
def dXItems (dx : dX) : dXI := fun ρ Q E => dx ρ (fun z ρ' => itemsD z fun xs => Q xs ρ') E
def iSeq (K : PySem.W.Frag) (tl : TE) : TI := fun σ H R => tl σ H fun x H1 => ∃ a, x = .ref a ∧ (((∃ xs, SqL K H1 a xs) ∧ R (Itl K a) H1) ∨ ((∃ xs, SqT K H1 a xs) ∧ R (Itt K a) H1))
theorem pi_seq {X : Cx} {tg l : Expr} {tl : TE} (hl : PE X l tl) : PI X tg l (iSeq X.K tl) := by
  refine ⟨fun pins s σ H R I h => ?_⟩
  refine thn (hl.run pins s σ H _ I h) fun v s1 ⟨x, H1, I1, r1, q1⟩ => ?_
  obtain ⟨a, e, q⟩ := q1
  subst e
  cases r1
  rcases q with ⟨⟨xs, hq⟩, q⟩ | ⟨⟨xs, hq⟩, q⟩
  · obtain ⟨its, rv, p, hz⟩ := I1.list hq
    refine wpAny_pyIter_list p.isList ?_
    refine ⟨s1.heap.objs.size, [s1.heap.objs.size], _, _, H1, rfl, I1.kept (t' := s1.toks) fun b o e => Heap.get?_push_of_some _ e, turn_list a _, ⟨_, Heap.get?_push_size _ rfl, rfl, rfl⟩, fun b hb => ?_, q⟩
    have e : b = s1.heap.objs.size := by simpa using hb
    subst e
    exact I1.fpOk (Nat.le_refl _) (I1.hok.fresh (Nat.le_refl _))
  · obtain ⟨its, rv, p, hz⟩ := I1.tuple hq
    refine wpAny_pyIter_tuple (show s1.heap.IsTuple a its.toArray from p) ?_
    refine ⟨s1.heap.objs.size, [s1.heap.objs.size], _, _, H1, rfl, I1.kept (t' := s1.toks) fun b o e => Heap.get?_push_of_some _ e, turn_tuple a _, ⟨_, Heap.get?_push_size _ rfl, rfl, rfl⟩, fun b hb => ?_, q⟩
    have e : b = s1.heap.objs.size := by simpa using hb
    subst e
    exact I1.fpOk (Nat.le_refl _) (I1.hok.fresh (Nat.le_refl _))
section
variable {K : Kx} {A : Ax} {W : WX}
theorem jis_l {B : Hp} {a : Addr} {vs : List V} {xs : List D} (h : SqL K B a vs) (q : DqAll K B vs xs) : JIs K B (Itl K a) xs := by
  have hl := dps_len q
  refine ⟨fun {B1 H1 i} e1 e2 hi => ?_, fun {B1 H1} e1 e2 => ?_, fun {B1 H1 H2 i x d} e1 e2 ei hy => ?_⟩
  · exact ⟨vs, vs[i]'(by omega), ex_l (e1.trans e2) h, List.getElem?_eq_getElem _⟩
  · exact ⟨vs, ex_l (e1.trans e2) h, by omega⟩
  · obtain ⟨rfl, hy⟩ := hy
    obtain ⟨v, ev, dv⟩ := dps_get q ei
    have := hy vs (ex_l (e1.trans e2) h)
    rw [ev] at this
    cases this
    exact ⟨B1, Gr.refl e2, dp_mono e1 _ _ dv⟩
theorem jis_t {B : Hp} {a : Addr} {vs : List V} {xs : List D} (h : SqT K B a vs) (q : DqAll K B vs xs) : JIs K B (Itt K a) xs := by
  have hl := dps_len q
  refine ⟨fun {B1 H1 i} e1 e2 hi => ?_, fun {B1 H1} e1 e2 => ?_, fun {B1 H1 H2 i x d} e1 e2 ei hy => ?_⟩
  · exact ⟨vs, vs[i]'(by omega), ex_t (e1.trans e2) h, List.getElem?_eq_getElem _⟩
  · exact ⟨vs, ex_t (e1.trans e2) h, by omega⟩
  · obtain ⟨rfl, hy⟩ := hy
    obtain ⟨v, ev, dv⟩ := dps_get q ei
    have := hy vs (ex_t (e1.trans e2) h)
    rw [ev] at this
    cases this
    exact ⟨B1, Gr.refl e2, dp_mono e1 _ _ dv⟩
theorem itemsD_own {z : Z} {Q : List D → Prop} (h : itemsD z Q) : ∃ d xs, z.own = some d ∧ Q xs ∧ (d = .list xs ∨ d = .dict [(.none, .list xs)] ∨ d = .tuple xs) := by
  unfold itemsD at h
  split at h
  · exact ⟨_, _, by assumption, h, .inl rfl⟩
  · exact ⟨_, _, by assumption, h, .inr (.inl rfl)⟩
  · exact ⟨_, _, by assumption, h, .inr (.inr rfl)⟩
  · exact h.elim
theorem jis_any {B H : Hp} {v : V} {d : D} {xs : List D} {R : It → Hp → Prop} (ex : Ex B H) (hd : Dq K.f B v d) (c : d = .list xs ∨ d = .dict [(.none, .list xs)] ∨ d = .tuple xs) (k : ∀ J, JIs K B J xs → R J H) :
    ∃ a, v = .ref a ∧ (((∃ xs, SqL K.f H a xs) ∧ R (Itl K.f a) H) ∨ ((∃ xs, SqT K.f H a xs) ∧ R (Itt K.f a) H)) := by
  rcases c with rfl | rfl | rfl
  · obtain ⟨a, vs, rfl, r, qq⟩ := dp_lst hd
    exact ⟨a, rfl, .inl ⟨⟨vs, .inl (ex_rd ex r)⟩, k _ (jis_l (.inl r) qq)⟩⟩
  · obtain ⟨a, vs, rfl, r, qq⟩ := dp_scr hd
    exact ⟨a, rfl, .inl ⟨⟨vs, ex_l ex r⟩, k _ (jis_l r qq)⟩⟩
  · obtain ⟨a, vs, rfl, r, qq⟩ := dp_tup hd
    exact ⟨a, rfl, .inr ⟨⟨vs, ex_t ex r⟩, k _ (jis_t r qq)⟩⟩
theorem sim_seqI {te : TE} {de : dE} (h : SimE K A te de) : SimI K A (iSeq K te) (dItems de) := by
  refine ⟨fun {B H G σ ρ Qi R} p q k => ?_⟩
  refine h.run p q fun z v B1 H1 g1 z1 h1 => ?_
  obtain ⟨d, xs, e, q1, c⟩ := itemsD_own h1
  obtain ⟨B2, g2, _, hd⟩ := z1.clean g1 e
  exact jis_any g2.ex hd c fun J hJ => k _ _ _ _ g2 hJ q1
theorem sim_xseqI {te : TE} {dx : dX} (h : SimX K A W te dx) : SimXI K A W (iSeq K te) (dXItems dx) := by
  refine ⟨fun {B H G σ ρ Qi Ed R} p q k kx => ?_⟩
  refine h.run p q (fun z v B1 H1 G1 ρ1 x1 p1 z1 h1 => ?_) kx
  obtain ⟨d, xs, e, q1, c⟩ := itemsD_own h1
  obtain ⟨B2, ok2, x2, e2, hd⟩ := z1.clean p1.ok x1 e
  exact jis_any ok2.ex hd c fun J hJ => k _ _ _ _ _ _ x2 (p1.base ok2 e2) hJ q1
/-- lo, lo + 1, .. -/
def upFrom (lo : Int) (n : Nat) : List D := (List.range n).map fun (i : Nat) => PyData.int (lo + (i : Int))
theorem upFrom_length {lo : Int} {n : Nat} : (upFrom lo n).length = n := by unfold upFrom; simp
theorem upFrom_get {lo : Int} {n i : Nat} {d : D} (h : (upFrom lo n)[i]? = some d) : i < n ∧ d = .int (lo + (i : Int)) := by
  unfold upFrom at h
  rw [List.getElem?_map] at h
  cases e : (List.range n)[i]? with
  | none => rw [e] at h; cases h
  | some j =>
    rw [e] at h
    have hi : i < n := by
      have := (List.getElem?_eq_some_iff.mp e).1
      rwa [List.length_range] at this
    rw [List.getElem?_range hi] at e
    cases e
    exact ⟨hi, (Option.some.inj h).symm⟩
theorem jis_r {B : Hp} {lo : Int} {n : Nat} : JIs K B (Itr lo n) (upFrom lo n) := by
  refine ⟨fun {B1 H1 i} e1 e2 hi => ?_, fun {B1 H1} e1 e2 => ?_, fun {B1 H1 H2 i x d} e1 e2 ei hy => ?_⟩
  · rw [upFrom_length] at hi; exact hi
  · rw [upFrom_length]; exact Nat.le_refl _
  · obtain ⟨rfl, rfl⟩ := hy
    obtain ⟨hi, rfl⟩ := upFrom_get ei
    exact ⟨B1, Gr.refl e2, .int _⟩
def dRng1 (da : dA) : dI_ := fun ρ Q => da ρ fun zs => match zs with
  | [z] => match z.data with
    | some (.int j) => (-(2 ^ 62) ≤ j ∧ j < 2 ^ 62) ∧ Q (upFrom 0 j.toNat)
    | _ => False
  | _ => False
def dRng2 (da : dA) : dI_ := fun ρ Q => da ρ fun zs => match zs with
  | [y, z] => match y.data, z.data with
    | some (.int i), some (.int j) => (-(2 ^ 62) ≤ i ∧ i < 2 ^ 62 ∧ -(2 ^ 62) ≤ j ∧ j < 2 ^ 62) ∧ Q (upFrom i (j - i).toNat)
    | _, _ => False
  | _ => False
theorem sim_rng1 {ta : TA} {da : dA} (h : SimA K A ta da) : SimI K A (iRng1 ta) (dRng1 da) := by
  refine ⟨fun {B H G σ ρ Qi R} p q k => ?_⟩
  refine h.run p q fun zs vs B1 H1 g1 z1 h1 => ?_
  cases z1 with
  | nil => exact (show False from h1).elim
  | cons a b =>
    cases b with
    | nil =>
      rename_i z v
      have h1 : (match z.data with
        | some (.int j) => (-(2 ^ 62) ≤ j ∧ j < 2 ^ 62) ∧ Qi (upFrom 0 j.toNat)
        | _ => False) := h1
      split at h1
      · rename_i j e
        exact ⟨j, by rw [dp_int (a.dp g1.ex e)], h1.1.1, h1.1.2, k _ _ _ _ g1 jis_r h1.2⟩
      · exact h1.elim
    | cons _ _ => exact (show False from h1).elim
theorem sim_rng2 {ta : TA} {da : dA} (h : SimA K A ta da) : SimI K A (iRng2 ta) (dRng2 da) := by
  refine ⟨fun {B H G σ ρ Qi R} p q k => ?_⟩
  refine h.run p q fun zs vs B1 H1 g1 z1 h1 => ?_
  cases z1 with
  | nil => exact (show False from h1).elim
  | cons a b =>
    cases b with
    | nil => exact (show False from h1).elim
    | cons c d =>
      cases d with
      | nil =>
        rename_i y v z w
        have h1 : (match y.data, z.data with
          | some (.int i), some (.int j) => (-(2 ^ 62) ≤ i ∧ i < 2 ^ 62 ∧ -(2 ^ 62) ≤ j ∧ j < 2 ^ 62) ∧ Qi (upFrom i (j - i).toNat)
          | _, _ => False) := h1
        split at h1
        · rename_i i j e1 e2
          exact ⟨i, j, by rw [dp_int (a.dp g1.ex e1), dp_int (c.dp g1.ex e2)], h1.1, k _ _ _ _ g1 jis_r h1.2⟩
        · exact h1.elim
      | cons _ _ => exact (show False from h1).elim
end
/-! ### while -/
def dWhile (t : dXT) (body : dS) : dS := fun E ρ => ∃ (I : List S → Prop) (μ : List S → Nat), I ρ ∧
  ∀ ρ', I ρ' → t ρ' (fun c ρ1 => if c = true then body { nx := fun ρ2 => I ρ2 ∧ μ ρ2 < μ ρ', rt := E.rt, bk := E.nx, ct := fun ρ2 => I ρ2 ∧ μ ρ2 < μ ρ', ex := E.ex } ρ1 else E.nx ρ1) E.ex
theorem sim_while {K : Kx} {A : Ax} {W : WX} {tt : TT} {dt : dXT} {tb : TS} {body : dS} (h0 : SimXT K A W tt dt) (hb : SimS K A W tb body) : SimS K A W (tWhile tt tb) (dWhile dt body) := by
  refine ⟨fun {B H G σ ρ D E} p q k1 k2 k3 k4 k5 => ?_⟩
  obtain ⟨I, μ, i0, turn⟩ := q
  refine ⟨fun m σ' H' => ∃ B' G' ρ', Ext B H G B' H' G' ∧ Rep K A B' H' G' σ' ρ' ∧ I ρ' ∧ m = μ ρ', ⟨μ ρ, B, G, ρ, Ext.refl, p, i0, rfl⟩, ?_⟩
  rintro m σ' H' ⟨B', G', ρ', x', p', hI, rfl⟩
  refine h0.run p' (turn ρ' hI) (fun c B1 H1 G1 ρ1 x1 p1 q1 => ?_) (fun x c d B2 H2 G2 ρ2 x2 r i q => k5 _ _ _ _ _ x c d (x'.trans x2) r i q)
  have x2 := x'.trans x1
  cases c with
  | true =>
    refine ⟨fun σ2 H2 => ∃ B2 G2 ρ2, Ext B H G B2 H2 G2 ∧ Rep K A B2 H2 G2 σ2 ρ2 ∧ I ρ2 ∧ μ ρ2 < μ ρ', fun σ2 H2 ⟨B2, G2, ρ2, a, b, c, d⟩ => ⟨μ ρ2, d, B2, G2, ρ2, a, b, c, rfl⟩, ?_⟩
    exact hb.run (E := { nx := fun ρ2 => I ρ2 ∧ μ ρ2 < μ ρ', rt := E.rt, bk := E.nx, ct := fun ρ2 => I ρ2 ∧ μ ρ2 < μ ρ', ex := E.ex }) p1 q1 (fun B4 H4 G4 σ4 ρ4 x4 p4 q4 => ⟨B4, G4, ρ4, x2.trans x4, p4, q4⟩) (fun B4 H4 G4 σ4 ρ4 z v x4 p4 r q4 => k2 _ _ _ _ _ _ _ (x2.trans x4) p4 (r.back x2) q4)
      (fun B4 H4 G4 σ4 ρ4 x4 p4 q4 => k1 _ _ _ _ _ (x2.trans x4) p4 q4) (fun B4 H4 G4 σ4 ρ4 x4 p4 q4 => ⟨B4, G4, ρ4, x2.trans x4, p4, q4⟩) (fun B4 H4 G4 σ4 ρ4 e c d x4 p4 j q4 => k5 _ _ _ _ _ _ _ _ (x2.trans x4) p4 j q4)
  | false => exact k1 _ _ _ _ _ x2 p1 q1
end Dl

set_option maxHeartbeats 2000000
namespace Dl
open PySem L2
/-! ### places apart -/
def npre : List Nat → List Nat → Bool
  | [], _ => false
  | _ :: _, [] => true
  | n :: p, m :: q => if n = m then npre p q else true
theorem SF.set_ge : ∀ (cs : SF) (n : Nat) (s : S), cs.len ≤ n → cs.set n s = cs
  | .nil, _, _, _ => rfl
  | .cons _ _ t, 0, _, h => absurd h (Nat.not_succ_le_zero _)
  | .cons m s t, n + 1, x, h => by show SF.cons m s (t.set n x) = _; rw [SF.set_ge t n x (Nat.le_of_succ_le_succ h)]
theorem put_kids {s t : S} {cs : SF} {n : Nat} {p : List Nat} (e : s.kids = some cs) : s.put (n :: p) t = s.wth (cs.set n ((cs.get n).put p t)) := by
  show (match s.kids with
    | some cs => s.wth (cs.set n ((cs.get n).put p t))
    | none => s) = _
  rw [e]
theorem at_kids {s : S} {cs : SF} {n : Nat} {p : List Nat} (e : s.kids = some cs) : s.at (n :: p) = (cs.get n).at p := by
  show (match s.kids with
    | some cs => (cs.get n).at p
    | none => S.no) = _
  rw [e]
theorem put_nokids {s t : S} {n : Nat} {p : List Nat} (e : s.kids = none) : s.put (n :: p) t = s := by
  show (match s.kids with
    | some cs => s.wth (cs.set n ((cs.get n).put p t))
    | none => s) = _
  rw [e]
theorem put_at_ne {t : S} : ∀ (p q : List Nat) (s : S), npre p q = true → npre q p = true → (s.put p t).at q = s.at q
  | [], _, _, h, _ => by cases h
  | _ :: _, [], _, _, h => by cases h
  | n :: p, m :: q, s, h1, h2 => by
    cases e : s.kids with
    | none => rw [put_nokids e]
    | some cs =>
      rw [put_kids e, at_kids e, at_kids (S.kids_wth e)]
      by_cases hn : n = m
      · subst hn
        have h1 : (if n = n then npre p q else true) = true := h1
        have h2 : (if n = n then npre q p else true) = true := h2
        rw [if_pos rfl] at h1 h2
        by_cases hl : n < cs.len
        · rw [SF.get_set _ _ _ hl]
          exact put_at_ne p q _ h1 h2
        · rw [SF.set_ge _ _ _ (by omega)]
      · rw [SF.get_set_ne _ _ _ _ hn]
theorem put_at_self {t : S} : ∀ (p : List Nat) (s : S), (s.at p ≠ .no ∨ p = []) → (s.put p t).at p = t
  | [], _, _ => rfl
  | n :: p, s, h => by
    have h : s.at (n :: p) ≠ .no := h.elim (fun z => z) (fun z => nomatch z)
    obtain ⟨cs, e, hn, e1, _⟩ := at_kid h
    rw [put_kids e, at_kids (S.kids_wth e), SF.get_set _ _ _ hn]
    exact put_at_self p _ (.inl (by rw [← e1]; exact h))
theorem val_put_ne {H : Hp} {t : S} : ∀ (p : List Nat) {s : S} {v : V} (q : List Nat) {u : V}, Val H s v q u → npre p q = true → Val H (s.put p t) v q u
  | [], _, _, _, _, _, h => by cases h
  | _ :: _, _, _, [], _, hv, _ => hv
  | n :: p, s, v, m :: q, u, hv, h => by
    obtain ⟨cs, a, o, w, e, hm, rfl, ho, hw, q1⟩ := hv
    rw [put_kids e]
    refine ⟨_, a, o, w, S.kids_wth e, by rw [SF.set_len]; exact hm, rfl, ho, hw, ?_⟩
    by_cases hn : n = m
    · subst hn
      have h : (if n = n then npre p q else true) = true := h
      rw [if_pos rfl] at h
      rw [SF.get_set _ _ _ hm]
      exact val_put_ne p q q1 h
    · rw [SF.get_set_ne _ _ _ _ hn]
      exact q1
/-- places of another slot, or apart -/
def apart (i : Nat) (p : List Nat) (j : Nat) (q : List Nat) : Bool := decide (i ≠ j) || (npre p q && npre q p)
section
variable {K : Kx} {A : Ax} {B B' H H' : Hp} {G G' : Addr → Prop} {σ : St} {ρ : List S} {i j : Nat} {p q : List Nat} {u v : V} {t : S}
theorem apart_cases (h : apart i p j q = true) : i ≠ j ∨ (npre p q = true ∧ npre q p = true) := by
  unfold apart at h
  rw [Bool.or_eq_true, Bool.and_eq_true] at h
  exact h.imp (fun z => of_decide_eq_true z) (fun z => z)
theorem atP_putP (h : apart i p j q = true) : atP (putP ρ i p t) j q = atP ρ j q := by
  unfold putP
  cases e : ρ[i]? with
  | none => rfl
  | some s =>
    show atP (ρ.set i (s.put p t)) j q = _
    by_cases hj : i = j
    · subst hj
      rcases apart_cases h with z | ⟨h1, h2⟩
      · exact absurd rfl z
      · rw [atP_some (List.getElem?_set_self (List.getElem?_eq_some_iff.mp e).1), atP_some e]
        exact put_at_ne p q s h1 h2
    · unfold atP
      rw [List.getElem?_set_ne hj]
theorem ValS.putP_ne (hv : ValS H σ ρ j q u) (h : apart i p j q = true) : ValS H σ (Dl.putP ρ i p t) j q u := by
  obtain ⟨s, w, e1, e2, hu⟩ := hv
  by_cases hj : i = j
  · subst hj
    rcases apart_cases h with z | ⟨h1, h2⟩
    · exact absurd rfl z
    · rw [putP_some e1]
      exact ⟨_, w, List.getElem?_set_self (List.getElem?_eq_some_iff.mp e1).1, e2, val_put_ne p q hu h1⟩
  · refine ⟨s, w, ?_, e2, hu⟩
    unfold Dl.putP
    cases e : ρ[i]? with
    | none => exact e1
    | some s' => show (ρ.set i _)[j]? = _; rw [List.getElem?_set_ne hj]; exact e1
theorem killS_at {n : Nat} {s : S} (h : s.tru = true) : killS i n s = s := by cases s <;> first | rfl | cases h
theorem atP_kill_no {n : Nat} (h : atP ρ j q = .no) : atP (Dl.kill i n ρ) j q = .no := by
  cases e : ρ[j]? with
  | none =>
    have : (Dl.kill i n ρ)[j]? = none := by unfold Dl.kill; rw [List.getElem?_map, e]; rfl
    unfold atP
    rw [this]
  | some s =>
    have ek : (Dl.kill i n ρ)[j]? = some (killS i n s) := by unfold Dl.kill; rw [List.getElem?_map, e]; rfl
    rw [atP_some ek]
    rw [atP_some e] at h
    cases s with
    | al k r =>
      have e2 : killS i n (.al k r) = if k = i ∧ n < r.length then S.no else S.al k r := rfl
      by_cases c : k = i ∧ n < r.length
      · rw [e2, if_pos c]
        cases q <;> rfl
      · rw [e2, if_neg c]; exact h
    | gh w k r =>
      have e2 : killS i n (.gh w k r) = if k = i ∧ n < r.length then S.no else S.gh w k r := rfl
      by_cases c : k = i ∧ n < r.length
      · rw [e2, if_pos c]
        cases q <;> rfl
      · rw [e2, if_neg c]; exact h
    | _ => exact h
theorem atP_kill {n : Nat} (h : (atP ρ j q).tru = true) : atP (Dl.kill i n ρ) j q = atP ρ j q := by
  cases e : ρ[j]? with
  | none => unfold atP at h; rw [e] at h; cases h
  | some s =>
    have ek : (Dl.kill i n ρ)[j]? = some (killS i n s) := by unfold Dl.kill; rw [List.getElem?_map, e]; rfl
    rw [atP_some ek, atP_some e]
    rw [atP_some e] at h
    cases q with
    | nil => exact killS_at h
    | cons m q =>
      cases ec : s.kids with
      | some cs => rw [killS_kids ec]
      | none =>
        exfalso
        have : s.at (m :: q) = .no := by
          show (match s.kids with
            | some cs => (cs.get m).at q
            | none => S.no) = _
          rw [ec]
        rw [this] at h
        cases h
end

/-! ### arguments: data, places that are lent, new things -/
inductive Arg where
  | d (d : D) | p (i : Nat) (p : List Nat) | n (s : S)
inductive ArgIs (K : Kx) (H_0 : Hp) (G_0 : Addr → Prop) (B H : Hp) (G : Addr → Prop) (σ : St) (ρ : List S) : List Arg → List V → (Addr → Prop) → Prop
  | nil : ArgIs K H_0 G_0 B H G σ ρ [] [] (fun _ => False)
  | d {d : D} {v : V} {as : List Arg} {vs : List V} {R : Addr → Prop} : Dq K.f B v d → ArgIs K H_0 G_0 B H G σ ρ as vs R → ArgIs K H_0 G_0 B H G σ ρ (.d d :: as) (v :: vs) R
  | p {i : Nat} {p : List Nat} {v : V} {as : List Arg} {vs : List V} {R : Addr → Prop} : ValS H σ ρ i p v → ArgIs K H_0 G_0 B H G σ ρ as vs R → ArgIs K H_0 G_0 B H G σ ρ (.p i p :: as) (v :: vs) R
  | n {s : S} {v : V} {as : List Arg} {vs : List V} {R R1 : Addr → Prop} : (∀ a, R1 a → (H_0 a = none ∨ G_0 a) ∧ ¬ G a ∧ B a = none ∧ H a ≠ none) → (∀ a, R1 a → R a → False) → s.tru = true → Own K B H s v R1 → ArgIs K H_0 G_0 B H G σ ρ as vs R →
    ArgIs K H_0 G_0 B H G σ ρ (.n s :: as) (v :: vs) (fun a => R1 a ∨ R a)
/-- the trees that a callee gets; what is left; what comes back -/
def lendT : List Arg → List S → List S
  | [], _ => []
  | .d d :: as, ρ => .v d :: lendT as ρ
  | .n s :: as, ρ => s :: lendT as ρ
  | .p i p :: as, ρ => atP ρ i p :: lendT as ρ
def lendR : List Arg → List S → List S
  | [], ρ => ρ
  | .p i p :: as, ρ => lendR as (putP (kill i p.length ρ) i p .no)
  | _ :: as, ρ => lendR as ρ
def backR : List Arg → List S → List S → List S
  | .p i p :: as, t :: ts, ρ => putP (backR as ts ρ) i p t
  | _ :: as, _ :: ts, ρ => backR as ts ρ
  | _, _, ρ => ρ
def apartAll (i : Nat) (p : List Nat) : List Arg → Bool
  | [] => true
  | .p j q :: as => apart i p j q && apart j q i p && apartAll i p as
  | _ :: as => apartAll i p as
def lendOk : List Arg → List S → Prop
  | [], _ => True
  | .p i p :: as, ρ => (atP ρ i p).tru = true ∧ apartAll i p as = true ∧ lendOk as ρ
  | _ :: as, ρ => lendOk as ρ
/-- a callee's arguments -/
structure Args (K : Kx) (B H : Hp) (G : Addr → Prop) (vs : List V) (ρ : List S) : Prop where
  ok : Ok B H G
  len : vs.length = ρ.length
  ob : ρ.all S.noT = true
  slot : ∃ R : Nat → Addr → Prop, (∀ i a, R i a → G a) ∧ (∀ i j a, R i a → R j a → i = j) ∧ ∀ i s v, ρ[i]? = some s → vs[i]? = some v → s.tru = true → Own K B H s v (R i)
abbrev FT := List S → (Z → List S → Prop) → (Exn → List S → Prop) → Prop
def spT (K : Kx) (F : FT) : Sp := fun vs H Q E => ∃ (B : Hp) (G : Addr → Prop) (ρ : List S), Args K B H G vs ρ ∧
  F ρ (fun z ρ' => ∀ v B' H' G', Ext B H G B' H' G' → Args K B' H' G' vs ρ' → z.keep → ZIx K H G B' H' G' z v → Q v H') (fun x ρ' => ∀ c d B' H' G', Ext B H G B' H' G' → Args K B' H' G' vs ρ' → ExIs K B' x c d → E c d H')
section
variable {K : Kx} {A : Ax} {B B' H H' H_0 : Hp} {G G' G_0 : Addr → Prop} {σ : St}
theorem Args.tail {v : V} {vs : List V} {t : S} {ts : List S} (h : Args K B H G (v :: vs) (t :: ts)) : ∃ (R0 : Addr → Prop), t.noT = true ∧ (∀ a, R0 a → G a) ∧ (t.tru = true → Own K B H t v R0) ∧ Args K B H (fun a => G a ∧ ¬ R0 a) vs ts := by
  obtain ⟨R, r1, r2, r3⟩ := h.slot
  refine ⟨R 0, ((Bool.and_eq_true _ _).mp h.ob).1, r1 0, fun ht => r3 0 t v rfl rfl ht, ⟨h.ok.ex, fun a g => h.ok.off a g.1, fun a g => h.ok.on a g.1⟩, Nat.succ.inj h.len, ((Bool.and_eq_true _ _).mp h.ob).2, fun i => R (i + 1), fun i a r => ⟨r1 _ a r, fun z => nomatch (r2 _ _ a r z)⟩, fun i j a x y => Nat.succ.inj (r2 _ _ a x y), fun i s v e1 e2 ht => r3 (i + 1) s v e1 e2 ht⟩
theorem Args.cons {v : V} {vs : List V} {t : S} {ts : List S} {R0 : Addr → Prop} (h : Args K B H G vs ts) (nt : t.noT = true) (o : t.tru = true → Own K B H t v R0) (r : ∀ a, R0 a → ¬ G a ∧ B a = none ∧ H a ≠ none) : Args K B H (fun a => G a ∨ R0 a) (v :: vs) (t :: ts) := by
  obtain ⟨R, r1, r2, r3⟩ := h.slot
  refine ⟨⟨h.ok.ex, fun a g => g.elim (h.ok.off a) fun z => (r a z).2.1, fun a g => g.elim (h.ok.on a) fun z => (r a z).2.2⟩, congrArg (· + 1) h.len, (Bool.and_eq_true _ _).mpr ⟨nt, h.ob⟩, fun i a => match i with
    | 0 => R0 a
    | i + 1 => R i a, fun i a x => ?_, fun i j a x y => ?_, fun i s v e1 e2 ht => ?_⟩
  · cases i with
    | zero => exact .inr x
    | succ i => exact .inl (r1 i a x)
  · cases i with
    | zero =>
      cases j with
      | zero => rfl
      | succ j => exact absurd (r1 j a y) (r a x).1
    | succ i =>
      cases j with
      | zero => exact absurd (r1 i a x) (r a y).1
      | succ j => exact congrArg (· + 1) (r2 i j a x y)
  · cases i with
    | zero => cases e1; cases e2; exact o ht
    | succ i => exact r3 i s v e1 e2 ht
theorem Args.wide (h : Args K B H G vs ρ) (ok : Ok B H G') (w : ∀ a, G a → G' a) : Args K B H G' vs ρ := by
  obtain ⟨R, r1, r2, r3⟩ := h.slot
  exact ⟨ok, h.len, h.ob, R, fun i a r => w a (r1 i a r), r2, r3⟩
/-- arguments, when a place apart from them is taken -/
theorem ArgIs.take {i : Nat} {p : List Nat} {ρ : List S} {as : List Arg} {vs : List V} {R R0 : Addr → Prop} (h : ArgIs K H_0 G_0 B H G σ ρ as vs R) (ap : apartAll i p as = true) : ArgIs K H_0 G_0 B H (fun a => G a ∧ ¬ R0 a) σ (putP (kill i p.length ρ) i p .no) as vs R := by
  induction h with
  | nil => exact .nil
  | d x _ ih => exact .d x (ih ap)
  | p x _ ih =>
    have ap : (apart i p _ _ && apart _ _ i p && apartAll i p _) = true := ap
    rw [Bool.and_eq_true, Bool.and_eq_true] at ap
    exact .p (x.kill.putP_ne ap.1.1) (ih ap.2)
  | n x y z w _ ih => exact .n (fun a r => ⟨(x a r).1, fun g => (x a r).2.1 g.1, (x a r).2.2⟩) y z w (ih ap)
theorem ArgIs.new {ρ : List S} {as : List Arg} {vs : List V} {R : Addr → Prop} (h : ArgIs K H_0 G_0 B H G σ ρ as vs R) : ∀ a, R a → (H_0 a = none ∨ G_0 a) ∧ ¬ G a ∧ B a = none ∧ H a ≠ none := by
  induction h with
  | nil => exact fun _ z => z.elim
  | d x _ ih => exact ih
  | p x _ ih => exact ih
  | n x y z w _ ih => exact fun a r => r.elim (x a) (ih a)
theorem lendT_take {i : Nat} {p : List Nat} : ∀ {as : List Arg} {ρ : List S}, apartAll i p as = true → lendOk as ρ → lendT as (putP (kill i p.length ρ) i p .no) = lendT as ρ ∧ lendOk as (putP (kill i p.length ρ) i p .no)
  | [], _, _, h => ⟨rfl, h⟩
  | .d d :: as, ρ, ap, h => by
    obtain ⟨a, b⟩ := lendT_take (as := as) (ρ := ρ) ap h
    exact ⟨congrArg (S.v d :: ·) a, b⟩
  | .n s :: as, ρ, ap, h => by
    obtain ⟨a, b⟩ := lendT_take (as := as) (ρ := ρ) ap h
    exact ⟨congrArg (s :: ·) a, b⟩
  | .p j q :: as, ρ, ap, h => by
    have ap : (apart i p j q && apart j q i p && apartAll i p as) = true := ap
    rw [Bool.and_eq_true, Bool.and_eq_true] at ap
    obtain ⟨a, b⟩ := lendT_take (as := as) (ρ := ρ) ap.2 h.2.2
    have e : atP (putP (kill i p.length ρ) i p .no) j q = atP ρ j q := by rw [atP_putP ap.1.1, atP_kill h.1]
    refine ⟨?_, ?_, h.2.1, b⟩
    · show _ :: _ = _ :: _
      rw [a, e]
    · rw [e]; exact h.1
theorem lendR_keep {i : Nat} {p : List Nat} {u : V} : ∀ {as : List Arg} {ρ : List S}, apartAll i p as = true → ValS H σ ρ i p u → atP ρ i p = .no → ValS H σ (lendR as ρ) i p u ∧ atP (lendR as ρ) i p = .no
  | [], _, _, h1, h2 => ⟨h1, h2⟩
  | .d d :: as, ρ, ap, h1, h2 => lendR_keep (as := as) (ρ := ρ) ap h1 h2
  | .n s :: as, ρ, ap, h1, h2 => lendR_keep (as := as) (ρ := ρ) ap h1 h2
  | .p j q :: as, ρ, ap, h1, h2 => by
    have ap : (apart i p j q && apart j q i p && apartAll i p as) = true := ap
    rw [Bool.and_eq_true, Bool.and_eq_true] at ap
    exact lendR_keep (as := as) ap.2 (h1.kill.putP_ne ap.1.2) (by rw [atP_putP ap.1.2]; exact atP_kill_no h2)
theorem backR_keep {i : Nat} {p : List Nat} {u : V} : ∀ {as : List Arg} {ts ρ : List S}, apartAll i p as = true → ValS H σ ρ i p u → atP ρ i p = .no → ValS H σ (backR as ts ρ) i p u ∧ atP (backR as ts ρ) i p = .no
  | [], ts, _, _, h1, h2 => by cases ts <;> exact ⟨h1, h2⟩
  | .d d :: as, [], ρ, ap, h1, h2 => ⟨h1, h2⟩
  | .n d :: as, [], ρ, ap, h1, h2 => ⟨h1, h2⟩
  | .p _ _ :: as, [], ρ, ap, h1, h2 => ⟨h1, h2⟩
  | .d d :: as, t :: ts, ρ, ap, h1, h2 => backR_keep (as := as) (ts := ts) (ρ := ρ) ap h1 h2
  | .n s :: as, t :: ts, ρ, ap, h1, h2 => backR_keep (as := as) (ts := ts) (ρ := ρ) ap h1 h2
  | .p j q :: as, t :: ts, ρ, ap, h1, h2 => by
    have ap : (apart i p j q && apart j q i p && apartAll i p as) = true := ap
    rw [Bool.and_eq_true, Bool.and_eq_true] at ap
    obtain ⟨a, b⟩ := backR_keep (as := as) (ts := ts) (ρ := ρ) ap.2 h1 h2
    exact ⟨a.putP_ne ap.1.2, by show atP (putP _ j q t) i p = _; rw [atP_putP ap.1.2]; exact b⟩
/-- what comes back is put where it was -/
theorem lend_run : ∀ {as : List Arg} {ρ : List S} {vs : List V} {R G : Addr → Prop}, Rep K A B H G σ ρ → ArgIs K H_0 G_0 B H G σ ρ as vs R → lendOk as ρ → ∃ Gr Gc : Addr → Prop, (∀ a, Gr a → G a) ∧ (∀ a, Gc a → G a ∨ R a) ∧ (∀ a, Gr a → Gc a → False) ∧
    Rep K A B H Gr σ (lendR as ρ) ∧ Args K B H Gc vs (lendT as ρ) ∧
    ∀ (B' H' : Hp) (Gc' : Addr → Prop) (ts' : List S), (∀ a, Gc' a → ¬ Gr a) → (∀ a o, Gr a → H a = some o → H' a = some o) → Args K B' H' Gc' vs ts' → Rep K A B' H' Gr σ (lendR as ρ) →
      ∃ G', Rep K A B' H' G' σ (backR as ts' (lendR as ρ)) ∧ ∀ a, G' a → Gr a ∨ Gc' a
  | [], ρ, _, _, G, P, .nil, _ => ⟨G, fun _ => False, fun _ g => g, fun _ z => z.elim, fun _ _ z => z, P, ⟨⟨P.ok.ex, fun _ z => z.elim, fun _ z => z.elim⟩, rfl, rfl, fun _ _ => False, fun _ _ z => z, fun _ _ _ z => z.elim, fun i s v e => by simp [lendT] at e⟩,
      fun B' H' Gc' ts' _ _ _ P' => ⟨G, by cases ts' <;> exact P', fun a g => .inl g⟩⟩
  | .d d :: as, ρ, _, R, G, P, .d (v := v) (vs := vs) x h, ok => by
    obtain ⟨Gr, Gc, g1, g2, g3, P1, ar, k⟩ := lend_run P h ok
    refine ⟨Gr, Gc, g1, g2, g3, P1, ?_, fun B' H' Gc' ts' c1 c2 ar' P' => ?_⟩
    · refine (Args.cons (v := v) (t := .v d) (R0 := fun _ => False) ar rfl (fun _ => .ofv x) (fun _ z => z.elim)).wide ar.ok fun a g => g.elim (fun z => z) fun z => z.elim
    · cases ts' with
      | nil => exact absurd ar'.len (by simp)
      | cons t ts =>
        obtain ⟨R0, _, r0, _, at_⟩ := ar'.tail
        obtain ⟨G', P2, g⟩ := k B' H' _ ts (fun a z => c1 a z.1) c2 at_ P'
        exact ⟨G', P2, fun a z => (g a z).imp (fun z => z) fun z => z.1⟩
  | .n s :: as, ρ, _, _, G, P, .n (v := v) (vs := vs) (R := R) (R1 := R1) x y z w h, ok => by
    obtain ⟨Gr, Gc, g1, g2, g3, P1, ar, k⟩ := lend_run P h ok
    refine ⟨Gr, fun a => Gc a ∨ R1 a, g1, fun a g => g.elim (fun q => (g2 a q).imp (fun z => z) .inr) fun q => .inr (.inl q), fun a r g => g.elim (g3 a r) fun q => (x a q).2.1 (g1 a r), P1, ?_, fun B' H' Gc' ts' c1 c2 ar' P' => ?_⟩
    · exact Args.cons ar (S.tru_noT z) (fun _ => w) fun a r => ⟨fun g => (g2 a g).elim (x a r).2.1 (y a r), (x a r).2.2⟩
    · cases ts' with
      | nil => exact absurd ar'.len (by simp)
      | cons t ts =>
        obtain ⟨R0, _, r0, _, at_⟩ := ar'.tail
        obtain ⟨G', P2, g⟩ := k B' H' _ ts (fun a z => c1 a z.1) c2 at_ P'
        exact ⟨G', P2, fun a z => (g a z).imp (fun z => z) fun z => z.1⟩
  | .p i p :: as, ρ, _, R, G, P, .p (v := v) (vs := vs) x h, ok => by
    obtain ⟨o1, o2, o3⟩ := ok
    have hs : ∀ j q, ρ[i]? ≠ some (.al j q) := fun j q e => by
      rw [atP_some e] at o1
      cases p with
      | nil => cases o1
      | cons n p => cases o1
    obtain ⟨u, R0, v1, v2, ow, r0, hole, P0⟩ := P.take (S.tru_live o1) hs
    obtain rfl := x.fun v1
    obtain ⟨lt, lo⟩ := lendT_take o2 o3
    obtain ⟨Gr, Gc, g1, g2, g3, P1, ar, k⟩ := lend_run P0 (h.take (R0 := R0) o2) lo
    have hn := h.new
    rw [lt] at ar
    refine ⟨Gr, fun a => Gc a ∨ R0 a, fun a g => (g1 a g).1, fun a g => g.elim (fun q => (g2 a q).imp (fun z => z.1) fun z => z) fun q => .inl (r0 a q), fun a r g => g.elim (g3 a r) (g1 a r).2, P1, ?_, fun B' H' Gc' ts' c1 c2 ar' P' => ?_⟩
    · exact Args.cons ar (S.tru_noT o1) (fun _ => ow) fun a r => ⟨fun g => (g2 a g).elim (fun z => z.2 r) fun z => (hn a z).2.1 (r0 a r), P.ok.off a (r0 a r), P.ok.on a (r0 a r)⟩
    · cases ts' with
      | nil => exact absurd ar'.len (by simp)
      | cons t ts =>
        obtain ⟨R1, nt, r1, o1', at_⟩ := ar'.tail
        obtain ⟨G', P2, g⟩ := k B' H' _ ts (fun a z => c1 a z.1) c2 at_ P'
        obtain ⟨w1, w2⟩ := lendR_keep o2 v2 hole
        have w1' : ValS H' σ (lendR as (putP (kill i p.length ρ) i p .no)) i p v := P1.sval c2 w1
        obtain ⟨w3, w4⟩ := backR_keep (ts := ts) o2 w1' w2
        have disj : ∀ a, R1 a → ¬ G' a := fun a r g' => (g a g').elim (c1 a (r1 a r)) fun z => z.2 r
        rcases S.noT_cases nt with rfl | nt
        · exact ⟨_, P2.give (R := fun _ => False) w3 w4 (by rw [Own]; trivial) (fun _ z => z.elim) (fun _ _ z => nomatch z) (fun _ _ _ z => nomatch z), fun a z => z.elim (fun z => (g a z).imp (fun z => z) fun z => z.1) fun z => z.elim⟩
        · exact ⟨_, P2.give w3 w4 (o1' nt) (fun a r => ⟨disj a r, ar'.ok.off a (r1 a r), ar'.ok.on a (r1 a r)⟩) (S.tru_al nt) (S.tru_gh nt), fun a z => z.elim (fun z => (g a z).imp (fun z => z) fun z => z.1) fun z => .inr (r1 a z)⟩
end
end Dl

set_option maxHeartbeats 2000000
namespace L2
open PySem PySem.Spec PyProof.Rows
/-! ### calls, what is raised wished for at the slots -/
section
variable {X : Cx} {CX : CXT} {k : Nat} {f C : Addr} {fd : FuncData} {ps : List Str} {sp : Sp} {dvs : List V} {ds : List Value} {E : St → XK} {x m : Str} {p pos apos : Pos} {e o : Expr} {es : List Expr} {ta : TE} {t : TA}
theorem pe_zcl0 (F : FnOk X.prog X.w X.K X.mg X.base CX k f fd ps sp) (hr : Room k X.A) (hg : Gl X x) (hm : X.mg x = some (.ref f)) (hk : PySem.W.keepIn X.K (.ref f) = true) (hb : Binds X.K fd ps ds) (hd : Vals dvs ds) (hx : ∀ σ, PassesAt CX X σ (E σ))
    (hdb : (x == ("__debug__" : Str)) = false := by decide) : PE X (.Call (.Name x p) [] [] pos) (tCallSD sp dvs E tNil) := by
  refine ⟨fun pins s σ H Q I h => ?_⟩
  refine wpAny_Call_Name_kw (ld_glob I hg hm ?_ hdb)
  exact PySem.W.callWith_K0 I.kIn hk (run_fnSD (us := []) F hr hb hd (hx σ) I .nil h)
def tZmS (C : Addr) (m : Str) (sp : Sp) (dvs : List V) (E : St → XK) (ta : TE) (t : TA) : TE := fun σ H Q => ta σ H fun x H1 => ∃ a dx fs, x = .ref a ∧ H1 a = some (.ins C dx fs) ∧ fs.lookup m = none ∧
  t σ H1 fun vs H2 => sp (x :: (vs ++ dvs)) H2 Q (E σ)
theorem pe_zmS {pl : Sem Bool} (he : PE X o ta) (c : Cls X.K C) (hm : Meth X.K C m f) (F : FnOk X.prog X.w X.K X.mg X.base CX k f fd ps sp) (hr : Room k X.A) (hb : Binds X.K fd ps ds) (hd : Vals dvs ds) (hx : ∀ σ, PassesAt CX X σ (E σ)) (ha : PA X (e :: es) t)
    (hst : starEach (e :: es) X.env = (false, eval e X.env) :: starEach es X.env := by rfl) (hpl : (backTo pos (starEach es X.env)).any (·.1) = false := by rfl)
    (ht : eval (.Call (.Attribute o m apos) (e :: es) [] pos) X.env = (do
      let ov ← eval o X.env
      standAt apos.atName
      let (f, first) ← holding [ov] (getMethod ov m pl)
      callWith pos f first (backTo pos (starEach (e :: es) X.env)) (backToKw pos (keywordEach [] X.env))) := by rfl) :
    PE X (.Call (.Attribute o m apos) (e :: es) [] pos) (tZmS C m sp dvs E ta t) := by
  refine ⟨fun pins s σ H Q I h => ?_⟩
  refine PySem.W.methodCall_KW (pl := pl) (thn (he.run pins s σ H _ I h) fun u s1 ⟨x, H1, I1, rx, a, dx, fs, ex, ea, l, q⟩ => ?_) ht
  subst ex
  obtain rfl : u = Value.ref a := rx
  refine getmeth_ok I1 ea c hm l ?_
  refine PySem.W.callWith_K (first := [.ref a]) (h₀ := X.base) I.ok.mod.kin hm.kp (thn (ha.run pos pins s1 σ H1 _ I1 q) fun us s2 ⟨vs, H2, I2, r, q2⟩ => ⟨I2.kIn, ?_⟩) hst hpl
  exact run_fnSD (us := .ref a :: us) (vs := .ref a :: vs) F hr hb hd (hx σ) I2 (.cons rfl r) q2
theorem pe_zmS0 {pl : Sem Bool} (he : PE X o ta) (c : Cls X.K C) (hm : Meth X.K C m f) (F : FnOk X.prog X.w X.K X.mg X.base CX k f fd ps sp) (hr : Room k X.A) (hb : Binds X.K fd ps ds) (hd : Vals dvs ds) (hx : ∀ σ, PassesAt CX X σ (E σ))
    (ht : eval (.Call (.Attribute o m apos) [] [] pos) X.env = (do
      let ov ← eval o X.env
      standAt apos.atName
      let (f, first) ← holding [ov] (getMethod ov m pl)
      callWith pos f first (backTo pos (starEach [] X.env)) (backToKw pos (keywordEach [] X.env))) := by rfl) :
    PE X (.Call (.Attribute o m apos) [] [] pos) (tZmS C m sp dvs E ta tNil) := by
  refine ⟨fun pins s σ H Q I h => ?_⟩
  refine PySem.W.methodCall_KW (pl := pl) (thn (he.run pins s σ H _ I h) fun u s1 ⟨x, H1, I1, rx, a, dx, fs, ex, ea, l, q⟩ => ?_) ht
  subst ex
  obtain rfl : u = Value.ref a := rx
  refine getmeth_ok I1 ea c hm l ?_
  exact PySem.W.callWith_K0 (first := [.ref a]) I1.kIn hm.kp (run_fnSD (us := [.ref a]) (vs := [.ref a]) F hr hb hd (hx σ) I1 (.cons rfl .nil) q)
def tZmk (C : Addr) (sp : Sp) (dvs : List V) (E : St → XK) (t : TA) : TE := fun σ H Q => t σ H fun vs H1 => ∀ x dx, H1 x = none → H1 dx = none → dx ≠ x →
  sp (.ref x :: (vs ++ dvs)) (upd (upd H1 dx (.own x)) x (.ins C dx [])) (fun v H2 => v = .non ∧ Q (.ref x) H2) (E σ)
theorem run_zmk {pins : List (Addr × Obj)} {σ : St} {H : Hp} {s : Shared} {Q : VK} {us : List Value} {vs : List V} (M : Mk X.K C f) (F : FnOk X.prog X.w X.K X.mg X.base CX k f fd ps sp) (hr : Room (k + 1) X.A) (hb : Binds X.K fd ps ds) (hd : Vals dvs ds)
    (hx : PassesAt CX X σ (E σ)) (I : Inv X pins σ H s) (r : Vals vs us)
    (h : ∀ x dx, H x = none → H dx = none → dx ≠ x → sp (.ref x :: (vs ++ dvs)) (upd (upd H dx (.own x)) x (.ins C dx [])) (fun v H2 => v = .non ∧ Q (.ref x) H2) (E σ)) :
    wpAny (model X.prog X.w) X.A (call (.ref C) us) (EP X pins σ Q) X.xe s := by
  have hq := h (s.heap.objs.size + 1) s.heap.objs.size (I.hok.fresh (Nat.le_succ _)) (I.hok.fresh (Nat.le_refl _)) (Nat.ne_of_lt (Nat.lt_succ_self _))
  have I2 := Inv.made (C := C) I
  have r2 : Vals (V.ref (s.heap.objs.size + 1) :: (vs ++ dvs)) (Value.ref (s.heap.objs.size + 1) :: (us ++ ds)) := .cons rfl (r.append hd)
  have hl : (Value.ref (s.heap.objs.size + 1) :: us ++ ds).length = ps.length := by
    have e := r2.length
    rw [F.len _ _ _ _ hq] at e
    exact e.symm
  refine wpAny_call (make_map (f := f) I.kIn M.makes M.init (beq_iff_eq.mp M.fn) (codeAny_mono (F.run _ X.stack _ _ ⟨Value.ref (s.heap.objs.size + 1) :: us, []⟩ (Value.ref (s.heap.objs.size + 1) :: (us ++ ds)) _ _ (E σ) (hr.make C us [])
    (I2.env0.make C us []) (hb _ (Value.ref (s.heap.objs.size + 1) :: us) I2.kIn hl) r2 hq) fun r s' hq' => ?_))
  cases r with
  | error e => exact hx pins _ _ e s' I2 hq'
  | ok fl =>
    cases fl with
    | ret u =>
      obtain ⟨v, H', I3, rv, ev, q3⟩ := I2.after hq'
      subst ev
      exact ⟨rv, ⟨V.ref (s.heap.objs.size + 1), H', I3, rfl, q3⟩⟩
    | next => exact False.elim hq'
    | brk => exact False.elim hq'
    | cont => exact False.elim hq'
theorem pe_zmk (M : Mk X.K C f) (F : FnOk X.prog X.w X.K X.mg X.base CX k f fd ps sp) (hr : Room (k + 1) X.A) (hg : Gl X x) (hm : X.mg x = some (.ref C)) (hb : Binds X.K fd ps ds) (hd : Vals dvs ds) (hx : ∀ σ, PassesAt CX X σ (E σ))
    (ha : PA X (e :: es) t) (hdb : (x == ("__debug__" : Str)) = false := by decide) (he : starEach (e :: es) X.env = (false, eval e X.env) :: starEach es X.env := by rfl) (hpl : (backTo pos (starEach es X.env)).any (·.1) = false := by rfl) :
    PE X (.Call (.Name x p) (e :: es) [] pos) (tZmk C sp dvs E t) := by
  refine ⟨fun pins s σ H Q I h => ?_⟩
  refine wpAny_Call_Name_kw (ld_glob I hg hm ?_ hdb)
  refine PySem.W.callWith_K (h₀ := X.base) I.ok.mod.kin M.kp (thn (ha.run pos pins s σ H _ I h) fun us s1 ⟨vs, H1, I1, r, q⟩ => ⟨I1.kIn, ?_⟩) he hpl
  exact run_zmk M F hr hb hd (hx σ) I1 r q
theorem pe_zmk0 (M : Mk X.K C f) (F : FnOk X.prog X.w X.K X.mg X.base CX k f fd ps sp) (hr : Room (k + 1) X.A) (hg : Gl X x) (hm : X.mg x = some (.ref C)) (hb : Binds X.K fd ps ds) (hd : Vals dvs ds) (hx : ∀ σ, PassesAt CX X σ (E σ))
    (hdb : (x == ("__debug__" : Str)) = false := by decide) : PE X (.Call (.Name x p) [] [] pos) (tZmk C sp dvs E tNil) := by
  refine ⟨fun pins s σ H Q I h => ?_⟩
  refine wpAny_Call_Name_kw (ld_glob I hg hm ?_ hdb)
  exact PySem.W.callWith_K0 I.kIn M.kp (run_zmk (us := []) M F hr hb hd (hx σ) I .nil h)
end
end L2
namespace Dl
open PySem L2
/-! ### places by their names -/
abbrev dP_ := List S → (Nat → List Nat → Prop) → Prop
structure SimP (K : Kx) (A : Ax) (te : TE) (dp : dP_) : Prop where
  run : ∀ {B H : Hp} {G : Addr → Prop} {σ : St} {ρ : List S} {Qd : Nat → List Nat → Prop} {Q : VK}, Rep K A B H G σ ρ → dp ρ Qd →
    (∀ i p u B' H', Gr B H B' H' → ValS H' σ ρ i p u → (∀ j q, ρ[i]? ≠ some (.al j q)) → Qd i p → Q u H') → te σ H Q
def dpVar (i : Nat) : dP_ := fun ρ Q => match ρ[i]? with
  | some (.al j p) => (match ρ[j]? with
    | some (.al _ _) => False
    | _ => Q j p)
  | some (.no) => False
  | some (.gh _ _ _) => False
  | some _ => Q i []
  | none => False
/-- e.f, f by its number -/
def dpFld (k : Nat) (dp : dP_) : dP_ := fun ρ Q => dp ρ fun i p => match atP ρ i p with
  | .ob _ cs => (match cs.pos k with
    | some n => Q i (p ++ [n])
    | none => False)
  | _ => False
theorem val_app {H : Hp} : ∀ (p : List Nat) {s t : S} {v u w : V} {n : Nat} {cs : SF}, Val H s v p u → s.at p = t → t.kids = some cs → n < cs.len → (∃ a o, u = .ref a ∧ H a = some o ∧ (kidsH o)[n]? = some w) → Val H s v (p ++ [n]) w
  | [], s, t, v, u, w, n, cs, hv, e, ek, hn, hk => by
    have e : s = t := e
    subst e
    have hv : u = v := hv
    subst hv
    obtain ⟨a, o, rfl, ho, hw⟩ := hk
    exact ⟨cs, a, o, w, ek, hn, rfl, ho, hw, rfl⟩
  | m :: p, s, t, v, u, w, n, cs, hv, e, ek, hn, hk => by
    obtain ⟨cs', a, o, w', e', hm, rfl, ho, hw', q1⟩ := hv
    rw [at_kids e'] at e
    exact ⟨cs', a, o, w', e', hm, rfl, ho, hw', val_app p q1 e ek hn hk⟩
theorem ValS.app {H : Hp} {σ : St} {ρ : List S} {i : Nat} {p : List Nat} {t : S} {u w : V} {n : Nat} {cs : SF} (h : ValS H σ ρ i p u) (e : atP ρ i p = t) (ek : t.kids = some cs) (hn : n < cs.len) (hk : ∃ a o, u = .ref a ∧ H a = some o ∧ (kidsH o)[n]? = some w) : ValS H σ ρ i (p ++ [n]) w := by
  obtain ⟨s, x, e1, e2, hv⟩ := h
  rw [atP_some e1] at e
  exact ⟨s, x, e1, e2, val_app p hv e ek hn hk⟩
theorem pos_lab : ∀ {cs : SF} {k n : Nat}, cs.pos k = some n → n < cs.len ∧ cs.labs[n]? = some (.int (k : Int))
  | .nil, _, _, h => by cases h
  | .cons m s t, k, n, h => by
    have go : (t.pos k).map (· + 1) = some n → n < (SF.cons m s t).len ∧ (SF.cons m s t).labs[n]? = some (.int (k : Int)) := fun h => by
      cases e : t.pos k with
      | none => rw [e] at h; cases h
      | some j =>
        rw [e] at h
        cases h
        obtain ⟨a, b⟩ := pos_lab e
        exact ⟨Nat.succ_lt_succ a, b⟩
    cases m with
    | int i =>
      have h : (if i = (k : Int) then some 0 else (t.pos k).map (· + 1)) = some n := h
      by_cases c : i = (k : Int)
      · rw [if_pos c] at h
        cases h
        subst c
        exact ⟨Nat.succ_pos _, rfl⟩
      · rw [if_neg c] at h
        exact go h
    | _ => exact go h
theorem pos_no : ∀ {cs : SF} {k : Nat}, cs.pos k = none → PyData.int (k : Int) ∉ cs.labs
  | .nil, _, _, h => by cases h
  | .cons m s t, k, h, hm => by
    have go : (t.pos k).map (· + 1) = none → PyData.int (k : Int) ∈ t.labs → False := fun h hm => by
      cases e : t.pos k with
      | none => exact pos_no e hm
      | some j => rw [e] at h; cases h
    have hm : PyData.int (k : Int) ∈ m :: t.labs := hm
    cases m with
    | int i =>
      have h : (if i = (k : Int) then some 0 else (t.pos k).map (· + 1)) = none := h
      by_cases c : i = (k : Int)
      · rw [if_pos c] at h
        cases h
      · rw [if_neg c] at h
        rcases List.mem_cons.mp hm with e | hm
        · cases e
          exact c rfl
        · exact go h hm
    | _ =>
      rcases List.mem_cons.mp hm with e | hm
      · cases e
      · exact go h hm
theorem nodup_lookup {f : Str} {v : V} : ∀ {fs : List (Str × V)} {n : Nat}, (fs.map (·.1)).Nodup → fs[n]? = some (f, v) → fs.lookup f = some v
  | [], _, _, h => by simp at h
  | (g, w) :: fs, 0, _, h => by
    cases h
    show (match f == f with | true => some v | false => fs.lookup f) = some v
    rw [beq_self_eq_true]
  | (g, w) :: fs, n + 1, nd, h => by
    rw [List.map_cons, List.nodup_cons] at nd
    have h : fs[n]? = some (f, v) := h
    have hm : f ∈ fs.map (·.1) := List.mem_map_of_mem (f := (·.1)) (List.mem_of_getElem? h)
    have ne : (f == g) = false := by
      rw [beq_eq_false_iff_ne]
      intro z
      subst z
      exact nd.1 hm
    show (match f == g with | true => some w | false => fs.lookup f) = some v
    rw [ne]
    exact nodup_lookup nd.2 h
/-- an attribute of an instance of our own -/
theorem node_fld {K : Kx} {H : Hp} {C : Nat} {cs : SF} {a : Addr} {vs : List V} {N : Addr → Prop} {k n : Nat} (h : Node K H (.ob C cs) a vs N) (e : cs.pos k = some n) : ∃ dx fs w, H a = some (.ins (K.cl C) dx fs) ∧ Cls K.f (K.cl C) ∧ NoAttr K.f (K.cl C) (K.nm k) ∧ fs.lookup (K.nm k) = some w ∧ vs[n]? = some w ∧ vs = fs.map (·.2) := by
  obtain ⟨dx, fs, h1, h2, h3, h4, h5, h6, h7, _⟩ := h
  obtain ⟨hn, hl⟩ := pos_lab e
  have e1 : (fs.map (·.1))[n]? = some (K.nm k) := by
    rw [← h5.1, List.getElem?_map, hl]
    rfl
  rw [List.getElem?_map] at e1
  cases e2 : fs[n]? with
  | none => rw [e2] at e1; cases e1
  | some kv =>
    rw [e2] at e1
    obtain ⟨g, w⟩ := kv
    have e1 : g = K.nm k := Option.some.inj e1
    subst e1
    exact ⟨dx, fs, w, h1, h6, h7 _ (List.mem_of_getElem? e2), nodup_lookup h5.2 e2, by rw [h4, List.getElem?_map, e2]; rfl, h4⟩
section
variable {K : Kx} {A : Ax} {B H : Hp} {G : Addr → Prop} {σ : St} {ρ : List S} {i : Nat} {p : List Nat} {u : V} {C : Nat} {cs : SF}
theorem Rep.ob (P : Rep K A B H G σ ρ) (hv : ValS H σ ρ i p u) (hs : ∀ j q, ρ[i]? ≠ some (.al j q)) (e : atP ρ i p = .ob C cs) : ∃ a vs N R, u = .ref a ∧ Node K H (.ob C cs) a vs N ∧ OwnF K B H cs vs R ∧ (∀ x, N x → G x) ∧ ∀ x, R x → G x ∧ ¬ N x := by
  obtain ⟨u', R, hv', o, r⟩ := P.at (i := i) (p := p) (by rw [e]; rfl) hs
  obtain rfl := hv.fun hv'
  rw [e, Own] at o
  obtain ⟨a, vs, N, R', rfl, na, nd, hN, hR, q⟩ := o
  exact ⟨a, vs, N, R', rfl, nd, q, fun x n => r x (hN x n), fun x z => ⟨r x (hR x z).1, (hR x z).2⟩⟩
theorem simp_var : SimP K A (tVar i) (dpVar i) := by
  refine ⟨fun {B H G σ ρ Qd Q} P h k => ?_⟩
  unfold dpVar at h
  cases e : ρ[i]? with
  | none => rw [e] at h; exact h.elim
  | some s =>
    rw [e] at h
    have go : s.live = true → (∀ j q, s ≠ .al j q) → Qd i [] → tVar i σ H Q := fun hl ha h => by
      obtain ⟨v, e1, R, r, q⟩ := P.get e hl
      exact ⟨v, e1, k i [] v B H (Gr.refl P.ex) ⟨s, v, e, e1, rfl⟩ (fun j q z => ha j q (by rw [e] at z; exact Option.some.inj z)) h⟩
    cases s with
    | al j q =>
      have h : (match ρ[j]? with
        | some (.al _ _) => False
        | _ => Qd j q) := h
      have hj : ∀ j' q', ρ[j]? ≠ some (.al j' q') := fun j' q' z => by rw [z] at h; exact h
      have h : Qd j q := by
        split at h
        · exact h.elim
        · exact h
      obtain ⟨_, v, e1, hv⟩ := P.al i j q e
      exact ⟨v, e1, k j q v B H (Gr.refl P.ex) hv hj h⟩
    | no => exact (show False from h).elim
    | gh w j q => exact (show False from h).elim
    | v d => exact go rfl (fun _ _ z => nomatch z) h
    | l d => exact go rfl (fun _ _ z => nomatch z) h
    | dc t d => exact go rfl (fun _ _ z => nomatch z) h
    | lk t o d => exact go rfl (fun _ _ z => nomatch z) h
    | nl d => exact go rfl (fun _ _ z => nomatch z) h
    | nt d => exact go rfl (fun _ _ z => nomatch z) h
    | nd d => exact go rfl (fun _ _ z => nomatch z) h
    | ob c d => exact go rfl (fun _ _ z => nomatch z) h
theorem simp_fld {te : TE} {dp : dP_} {k : Nat} {f : Str} (hf : f = K.nm k) (h : SimP K A te dp) : SimP K A (tFld K.f te f) (dpFld k dp) := by
  subst hf
  refine ⟨fun {B H G σ ρ Qd Q} P q c => ?_⟩
  refine h.run P q fun i p u B1 H1 g1 hv hs h1 => ?_
  have h1 : (match atP ρ i p with
    | .ob _ cs => (match cs.pos k with
      | some n => Qd i (p ++ [n])
      | none => False)
    | _ => False) := h1
  split at h1
  · rename_i C cs e
    split at h1
    · rename_i n en
      obtain ⟨a, vs, N, R, rfl, nd, _, _⟩ := (P.gr g1).ob hv hs e
      obtain ⟨dx, fs, w, e1, e2, e3, e4, e5, e6⟩ := node_fld nd en
      refine ⟨a, _, dx, fs, w, rfl, e1, e2, e3, e4, c i (p ++ [n]) w B1 H1 g1 (hv.app e rfl (pos_lab en).1 ⟨a, _, rfl, e1, ?_⟩) hs h1⟩
      rw [e6] at e5
      exact e5
    · exact h1.elim
  · exact h1.elim
end
end Dl

set_option maxHeartbeats 2000000
namespace Dl
open PySem L2
/-! ### an attribute, read -/
def dFld (k : Nat) (de : dE) : dE := fun ρ Q => de ρ fun z => match z with
  | .b (.ob _ cs) => (match cs.pos k with
    | some n => rdS (cs.get n) Q
    | none => False)
  | _ => False
section
variable {K : Kx} {A : Ax}
theorem sim_fld {te : TE} {de : dE} {k : Nat} {f : Str} (hf : f = K.nm k) (h : SimE K A te de) : SimE K A (tFld K.f te f) (dFld k de) := by
  subst hf
  refine ⟨fun {B H G σ ρ Qd Q} P q c => ?_⟩
  refine h.run P q fun z v B1 H1 g1 z1 h1 => ?_
  have hz : ∃ C cs, z = .b (.ob C cs) := by
    cases z with
    | b s => cases s <;> first | exact ⟨_, _, rfl⟩ | exact (show False from h1).elim
    | _ => exact (show False from h1).elim
  obtain ⟨C, cs, rfl⟩ := hz
  have h1 : (match cs.pos k with
      | some n => rdS (cs.get n) Qd
      | none => False) := h1
  · split at h1
    · rename_i n en
      obtain ⟨R, r, _, o⟩ := z1
      rw [Own] at o
      obtain ⟨a, vs, N, R', rfl, na, nd, hN, hR, q⟩ := o
      obtain ⟨dx, fs, w, e1, e2, e3, e4, e5, e6⟩ := node_fld nd en
      obtain ⟨w', R1, ew, ow, r1, _⟩ := ownF_kid q (pos_lab en).1
      rw [e5] at ew
      cases ew
      refine ⟨a, _, dx, fs, w, rfl, e1, e2, e3, e4, ?_⟩
      exact rd_own (G := G) g1.ex h1 ow (fun a z => r a (hR a (r1 a z)).1) fun z v B' H' g' zi qd => c z v B' H' (g1.trans g') (zi.early g1.h) qd
    · exact h1.elim
end
/-! ### argument lists -/
abbrev dPA := List S → (List Arg → Prop) → Prop
abbrev dXA := List S → (List Arg → List S → Prop) → (Exn → List S → Prop) → Prop
/-- nothing changes -/
structure SimPA (K : Kx) (A : Ax) (ta : TA) (da : dPA) : Prop where
  run : ∀ {B H : Hp} {G : Addr → Prop} {σ : St} {ρ : List S} {Qd : List Arg → Prop} {Q : List V → Hp → Prop}, Rep K A B H G σ ρ → da ρ Qd →
    (∀ as vs B' H' R, Gr B H B' H' → ArgIs K H G B' H' G σ ρ as vs R → Qd as → Q vs H') → ta σ H Q
structure SimXA (K : Kx) (A : Ax) (W : WX) (ta : TA) (da : dXA) : Prop where
  run : ∀ {B H : Hp} {G : Addr → Prop} {σ : St} {ρ : List S} {Qd : List Arg → List S → Prop} {Ed : Exn → List S → Prop} {Q : List V → Hp → Prop}, Rep K A B H G σ ρ → da ρ Qd Ed →
    (∀ as vs B' H' G' ρ' R, Ext B H G B' H' G' → Rep K A B' H' G' σ ρ' → ArgIs K H G B' H' G' σ ρ' as vs R → Qd as ρ' → Q vs H') → WAt K A W B H G σ Ed → ta σ H Q
def dpaNil : dPA := fun _ Q => Q []
def dpaP (dp : dP_) (dr : dPA) : dPA := fun ρ Q => dp ρ fun i p => dr ρ fun as => Q (.p i p :: as)
def dpaD (de : dE) (dr : dPA) : dPA := fun ρ Q => de ρ fun z => match z.own with
  | some d => dr ρ fun as => Q (.d d :: as)
  | none => False
def dPPA (da : dPA) : dXA := fun ρ Q _ => da ρ fun as => Q as ρ
def dxaNil : dXA := fun ρ Q _ => Q [] ρ
/-- a name: what it names, behind the other arguments -/
def nmArg (i : Nat) (ρ : List S) (Q : Arg → Prop) : Prop := match ρ[i]? with
  | some (.al j p) => (match ρ[j]? with
    | some (.al _ _) => False
    | _ => Q (.p j p))
  | some (.no) => False
  | some (.gh _ _ _) => False
  | some (.v d) => Q (.d d)
  | some _ => Q (.p i [])
  | none => False
def dxaV (i : Nat) (dr : dXA) : dXA := fun ρ Q E => (∃ s, ρ[i]? = some s ∧ s.live = true) ∧ dr ρ (fun as ρ2 => nmArg i ρ2 fun a => Q (a :: as) ρ2) E
def dxaD (dx : dX) (dr : dXA) : dXA := fun ρ Q E => dx ρ (fun z ρ1 => match z.own with
  | some d => dr ρ1 (fun as ρ2 => Q (.d d :: as) ρ2) E
  | none => False) E
def dxaN (dx : dX) (dr : dXA) : dXA := fun ρ Q E => dx ρ (fun z ρ1 => match z with
  | .n s => dr ρ1 (fun as ρ2 => Q (.n s :: as) ρ2) E
  | _ => False) E
section
variable {K : Kx} {A : Ax} {W : WX} {B B' H H' H_0 H_1 : Hp} {G G' G_0 G_1 : Addr → Prop} {σ : St} {ρ ρ' : List S} {as : List Arg} {vs : List V} {R : Addr → Prop}
theorem ArgIs.gr (h : ArgIs K H_0 G_0 B H G σ ρ as vs R) (P : Rep K A B H G σ ρ) (g : Gr B H B' H') : ArgIs K H_0 G_0 B' H' G σ ρ as vs R := by
  induction h with
  | nil => exact .nil
  | d x _ ih => exact .d (dp_mono g.b _ _ x) ih
  | p x _ ih => exact .p (P.sval (fun a o _ e => g.h a o e) x) ih
  | n x y z w _ ih => exact .n (fun a r => ⟨(x a r).1, (x a r).2.1, Classical.byContradiction fun q => (g.nw a q).elim (fun q => q (x a r).2.2.1) (x a r).2.2.2, g.h.fwd (x a r).2.2.2⟩) y z (w.frame g.b fun a o _ e => g.h a o e) ih
theorem ArgIs.base (h : ArgIs K H_0 G_0 B H G σ ρ as vs R) (e : Ex B B') (off : ∀ a, R a → B' a = none) : ArgIs K H_0 G_0 B' H G σ ρ as vs R := by
  induction h with
  | nil => exact .nil
  | d x _ ih => exact .d (dp_mono e _ _ x) (ih off)
  | p x _ ih => exact .p x (ih off)
  | n x y z w _ ih => exact .n (fun a r => ⟨(x a r).1, (x a r).2.1, off a (.inl r), (x a r).2.2.2⟩) y z (w.frame e fun _ _ _ e => e) (ih fun a r => off a (.inr r))
theorem ArgIs.back (h : ArgIs K H_1 G_1 B H G σ ρ as vs R) (c : ∀ a, (H_1 a = none ∨ G_1 a) → (H_0 a = none ∨ G_0 a)) : ArgIs K H_0 G_0 B H G σ ρ as vs R := by
  induction h with
  | nil => exact .nil
  | d x _ ih => exact .d x ih
  | p x _ ih => exact .p x ih
  | n x y z w _ ih => exact .n (fun a r => ⟨c a (x a r).1, (x a r).2⟩) y z w ih
theorem ext_back (x : Ext B H G B' H' G') : ∀ a, (H' a = none ∨ G' a) → (H a = none ∨ G a) := fun a q => q.elim (fun q => .inl (Classical.byContradiction fun z => x.all a z q)) fun q => (x.own a q).elim .inr .inl
theorem simpa_nil : SimPA K A tNil dpaNil := ⟨fun {B H G σ ρ Qd Q} P q k => k [] [] B H _ (Gr.refl P.ex) .nil q⟩
theorem simpa_p {te : TE} {tr : TA} {dp : dP_} {dr : dPA} (h1 : SimP K A te dp) (h2 : SimPA K A tr dr) : SimPA K A (tCons te tr) (dpaP dp dr) := by
  refine ⟨fun {B H G σ ρ Qd Q} P q k => ?_⟩
  refine h1.run P q fun i p u B1 H1 g1 hv hs q1 => ?_
  refine h2.run (P.gr g1) q1 fun as vs B2 H2 R g2 ar q2 => ?_
  exact k _ _ B2 H2 R (g1.trans g2) (.p ((P.gr g1).sval (fun a o _ e => g2.h a o e) hv) (ar.back fun a z => z.imp g1.h.back fun z => z)) q2
theorem simpa_d {te : TE} {tr : TA} {de : dE} {dr : dPA} (h1 : SimE K A te de) (h2 : SimPA K A tr dr) : SimPA K A (tCons te tr) (dpaD de dr) := by
  refine ⟨fun {B H G σ ρ Qd Q} P q k => ?_⟩
  refine h1.run P q fun z v B1 H1 g1 z1 q1 => ?_
  have q1 : (match z.own with
    | some d => dr ρ fun as => Qd (.d d :: as)
    | none => False) := q1
  cases e : z.own with
  | none => rw [e] at q1; exact q1.elim
  | some d =>
    rw [e] at q1
    obtain ⟨B2, g2, _, hd⟩ := z1.clean g1 e
    refine h2.run (P.gr g2) q1 fun as vs B3 H3 R g3 ar q3 => ?_
    exact k _ _ B3 H3 R (g2.trans g3) (.d (dp_mono g3.b _ _ hd) (ar.back fun a z => z.imp g2.h.back fun z => z)) q3
theorem sim_ppa {ta : TA} {da : dPA} (h : SimPA K A ta da) : SimXA K A W ta (dPPA da) := by
  refine ⟨fun {B H G σ ρ Qd Ed Q} P q k kx => ?_⟩
  exact h.run P q fun as vs B' H' R g ar q' => k as vs B' H' G ρ R (Ext.gr g) (P.gr g) ar q'
theorem simxa_nil : SimXA K A W tNil dxaNil := ⟨fun {B H G σ ρ Qd Ed Q} P q k kx => k [] [] B H G ρ _ Ext.refl P .nil q⟩
theorem simxa_v {tr : TA} {dr : dXA} {i : Nat} (h : SimXA K A W tr dr) : SimXA K A W (tCons (tVar i) tr) (dxaV i dr) := by
  refine ⟨fun {B H G σ ρ Qd Ed Q} P q k kx => ?_⟩
  obtain ⟨⟨s, e, hl⟩, q⟩ := q
  obtain ⟨v, e1, _⟩ := P.get e hl
  refine ⟨v, e1, h.run P q (fun as vs B' H' G' ρ' R x P' ar q' => ?_) kx⟩
  have q' : nmArg i ρ' fun a => Qd (a :: as) ρ' := q'
  have rt : ∀ s, ρ'[i]? = some s → ValS H' σ ρ' i [] v := fun s e => ⟨s, v, e, e1, rfl⟩
  unfold nmArg at q'
  split at q'
  · rename_i j p e2
    split at q'
    · exact q'.elim
    · obtain ⟨_, v', e3, hv⟩ := P'.al i j p e2
      rw [e1] at e3
      cases e3
      exact k _ _ B' H' G' ρ' R x P' (.p hv ar) q'
  · exact q'.elim
  · exact q'.elim
  · rename_i d e2
    obtain ⟨v', e3, R', _, o⟩ := P'.get e2 rfl
    rw [e1] at e3
    cases e3
    exact k _ _ B' H' G' ρ' R x P' (.d o.vv ar) q'
  · rename_i e2 _ _ _ _
    exact k _ _ B' H' G' ρ' R x P' (.p (rt _ (by assumption)) ar) q'
  · exact q'.elim
theorem simxa_d {te : TE} {tr : TA} {dx : dX} {dr : dXA} (h1 : SimX K A W te dx) (h2 : SimXA K A W tr dr) : SimXA K A W (tCons te tr) (dxaD dx dr) := by
  refine ⟨fun {B H G σ ρ Qd Ed Q} P q k kx => ?_⟩
  refine h1.run P q (fun z v B1 H1 G1 ρ1 x1 p1 z1 q1 => ?_) kx
  have q1 : (match z.own with
    | some d => dr ρ1 (fun as ρ2 => Qd (.d d :: as) ρ2) Ed
    | none => False) := q1
  cases e : z.own with
  | none => rw [e] at q1; exact q1.elim
  | some d =>
    rw [e] at q1
    obtain ⟨B2, ok2, x2, e2, hd⟩ := z1.clean p1.ok x1 e
    refine h2.run (p1.base ok2 e2) q1 (fun as vs B3 H3 G3 ρ3 R x3 p3 ar q3 => ?_) (kx.on x2)
    exact k _ _ B3 H3 G3 ρ3 R (x2.trans x3) p3 (.d (dp_mono x3.b _ _ hd) (ar.back (ext_back x2))) q3
theorem simxa_n {te : TE} {tr : TA} {dx : dX} {dr : dXA} (h1 : SimX K A W te dx) (h2 : SimXA K A W tr dr) : SimXA K A W (tCons te tr) (dxaN dx dr) := by
  refine ⟨fun {B H G σ ρ Qd Ed Q} P q k kx => ?_⟩
  refine h1.run P q (fun z v B1 H1 G1 ρ1 x1 p1 z1 q1 => ?_) kx
  cases z with
  | v d => exact (show False from q1).elim
  | b d => exact (show False from q1).elim
  | n s =>
    refine h2.run p1 q1 (fun as vs B3 H3 G3 ρ3 R x3 p3 ar q3 => ?_) (kx.on x1)
    obtain ⟨R1, r1, tr, o⟩ := ZIx.step (z := .n s) x3 p3.ok True.intro z1
    obtain ⟨R0, r0, _, o0⟩ := z1
    -- the region of the thing stays apart from what is newer
    have z2 : ∃ R2 : Addr → Prop, (∀ a, R2 a → (H a = none ∨ G a) ∧ ¬ G3 a ∧ B3 a = none ∧ H3 a ≠ none) ∧ (∀ a, R2 a → R a → False) ∧ Own K B3 H3 s v R2 := by
      refine ⟨R0, fun a r => ⟨(r0 a r).1, fun g => (x3.own a g).elim (r0 a r).2.1 (r0 a r).2.2.2, Classical.byContradiction fun z => (x3.nw a z).elim (fun q => q (r0 a r).2.2.1) fun z => z.elim (r0 a r).2.2.2 (r0 a r).2.1, x3.all a (r0 a r).2.2.2⟩, fun a r r' => ?_, o0.frame x3.b fun a o r e => x3.keep a o (r0 a r).2.1 e⟩
      exact (ar.new a r').1.elim (r0 a r).2.2.2 (r0 a r).2.1
    obtain ⟨R2, q1', q2', q3'⟩ := z2
    exact k _ _ B3 H3 G3 ρ3 _ (x1.trans x3) p3 (.n q1' q2' tr q3' (ar.back (ext_back x1))) q3
end
/-! ### calls of defs that change their arguments, or raise -/
/-- a call with these arguments -/
def callA (F : FT) (as : List Arg) (ρ : List S) (Q : Z → List S → Prop) (E : Exn → List S → Prop) : Prop :=
  lendOk as ρ ∧ F (lendT as ρ) (fun z ts => Q z (backR as ts (lendR as ρ))) (fun x ts => E x (backR as ts (lendR as ρ)))
def MonT (F : FT) : Prop := ∀ ρ (Q Q' : Z → List S → Prop) (E E' : Exn → List S → Prop), (∀ z r, Q z r → Q' z r) → (∀ x r, E x r → E' x r) → F ρ Q E → F ρ Q' E'
theorem spT_call {K : Kx} {A : Ax} {W : WX} {F : FT} {B H B1 H1 : Hp} {G G1 : Addr → Prop} {σ : St} {ρ : List S} {as : List Arg} {vs dvs : List V} {dds : List D} {R : Addr → Prop} {Qd : Z → List S → Prop} {Ed : Exn → List S → Prop} {Q : VK} (hm : MonT F) (hd : ∀ B, DqAll K.f B dvs dds) (x1 : Ext B H G B1 H1 G1) (P : Rep K A B1 H1 G1 σ ρ) (ar : ArgIs K H G B1 H1 G1 σ ρ as vs R)
    (h : callA F (as ++ dds.map Arg.d) ρ Qd Ed) (k : ∀ z v B' H' G' ρ', Ext B H G B' H' G' → Rep K A B' H' G' σ ρ' → ZIx K H G B' H' G' z v → Qd z ρ' → Q v H') (kx : WAt K A W B H G σ Ed) : spT K F (vs ++ dvs) H1 Q (WE W σ) := by
  have ar2 : ArgIs K H G B1 H1 G1 σ ρ (as ++ dds.map Arg.d) (vs ++ dvs) R := by
    clear h
    induction ar with
    | nil =>
      have : ∀ {dds : List D} {dvs : List V}, DqAll K.f B1 dvs dds → ArgIs K H G B1 H1 G1 σ ρ (dds.map Arg.d) dvs (fun _ => False) := by
        intro dds dvs h
        induction dds generalizing dvs with
        | nil => cases h; exact .nil
        | cons d ds ih => cases h with | cons a b => exact .d a (ih b)
      exact this (hd B1)
    | d x _ ih => exact .d x ih
    | p x _ ih => exact .p x ih
    | n x y z w _ ih => exact .n x y z w ih
  obtain ⟨lo, h⟩ := h
  obtain ⟨Gr, Gc, g1, g2, g3, P1, args, back⟩ := lend_run P ar2 lo
  have hnew := ar2.new
  have key : ∀ B' H' Gc' (ts' : List S), Ext B1 H1 Gc B' H' Gc' → Args K B' H' Gc' (vs ++ dvs) ts' → ∃ G', Rep K A B' H' G' σ (backR (as ++ dds.map Arg.d) ts' (lendR (as ++ dds.map Arg.d) ρ)) ∧ (∀ a, G' a → Gr a ∨ Gc' a) ∧ Ext B H G B' H' G' := fun B' H' Gc' ts' x ar' => by
    have off : ∀ a, Gr a → B' a = none := fun a r => Classical.byContradiction fun z => (x.nw a z).elim (fun z => z (P1.ok.off a r)) fun z => z.elim (P1.ok.on a r) (g3 a r)
    have kp : ∀ a o, Gr a → H1 a = some o → H' a = some o := fun a o r e => x.keep a o (fun z => g3 a r z) e
    have P2 : Rep K A B' H' Gr σ (lendR (as ++ dds.map Arg.d) ρ) := P1.frame ⟨ar'.ok.ex, off, fun a r => x.all a (P1.ok.on a r)⟩ x.b kp
    obtain ⟨G', P3, gg⟩ := back B' H' Gc' ts' (fun a c r => (x.own a c).elim (g3 a r) (P1.ok.on a r)) kp ar' P2
    refine ⟨G', P3, gg, ?_⟩
    refine ⟨x1.b.trans x.b, fun a o ng e => ?_, fun a h => ?_, fun a g => ?_, fun a h => x.all a (x1.all a h)⟩
    · have e1 := x1.keep a o ng e
      refine x.keep a o (fun c => ?_) e1
      rcases g2 a c with z | z
      · rcases x1.own a z with z | z
        · exact ng z
        · rw [z] at e; cases e
      · rcases (hnew a z).1 with q | q
        · rw [q] at e; cases e
        · exact ng q
    · rcases x.nw a h with z | z | z
      · exact x1.nw a z
      · exact .inr (.inl (Classical.byContradiction fun q => x1.all a q z))
      · rcases g2 a z with z | z
        · exact .inr ((x1.own a z).symm)
        · exact .inr (hnew a z).1
    · have fin : ∀ a, Gc a → G a ∨ H a = none := fun a c => (g2 a c).elim (fun z => x1.own a z) fun z => (hnew a z).1.symm
      rcases gg a g with z | z
      · exact x1.own a (g1 a z)
      · rcases x.own a z with z | z
        · exact fin a z
        · exact .inr (Classical.byContradiction fun q => x1.all a q z)
  refine ⟨B1, Gc, _, args, hm _ _ _ _ _ (fun z ts hz v B' H' G' x ar' kp zi => ?_) (fun e ts hz c d B' H' G' x ar' ei => ?_) h⟩
  · obtain ⟨G2, P3, gg, x3⟩ := key B' H' G' ts x ar'
    refine k z v B' H' G2 _ x3 P3 ?_ hz
    cases z with
    | v d => exact zi
    | b s => exact kp.elim
    | n s =>
      obtain ⟨R0, r0, tr, o⟩ := zi
      refine ⟨R0, fun a r => ⟨?_, fun g => ?_, (r0 a r).2.2⟩, tr, o⟩
      · rcases (r0 a r).1 with z | z
        · exact .inl (Classical.byContradiction fun q => x1.all a q z)
        · exact (g2 a z).elim (fun z => (x1.own a z).symm) fun z => (hnew a z).1
      · rcases gg a g with z | z
        · rcases (r0 a r).1 with q | q
          · exact P1.ok.on a z q
          · exact g3 a z q
        · exact (r0 a r).2.1 z
  · obtain ⟨G2, P3, gg, x3⟩ := key B' H' G' ts x ar'
    exact kx e c d B' H' G2 _ x3 P3 ei hz
end Dl

set_option maxHeartbeats 2000000
namespace Dl
open PySem L2
/-! ### calls -/
def dxCall (F : FT) (dds : List D) (da : dXA) : dX := fun ρ Q E => da ρ (fun as ρ1 => callA F (as ++ dds.map Arg.d) ρ1 Q E) E
/-- the receiver: an instance of the class c -/
def isOb (c : Nat) (s : S) : Prop := match s with
  | .ob d _ => d = c
  | _ => False
def dxMethP (c : Nat) (F : FT) (dds : List D) (dp : dP_) (da : dPA) : dX := fun ρ Q E => dp ρ fun i p => isOb c (atP ρ i p) ∧ da ρ fun as => callA F (Arg.p i p :: as ++ dds.map Arg.d) ρ Q E
/-- the place that a name stands for -/
def nmAt (i : Nat) (ρ : List S) : S := match ρ[i]? with
  | some (.al j p) => (match ρ[j]? with
    | some (.al _ _) => .no
    | _ => atP ρ j p)
  | some s => s
  | none => .no
def dxMethV (c : Nat) (F : FT) (dds : List D) (i : Nat) (da : dXA) : dX := fun ρ Q E => isOb c (nmAt i ρ) ∧ da ρ (fun as ρ1 => nmArg i ρ1 fun a => callA F (a :: as ++ dds.map Arg.d) ρ1 Q E) E
def dxMake (c : Nat) (F : FT) (dds : List D) (da : dXA) : dX := fun ρ Q E => da ρ (fun as ρ1 => lendOk (as ++ dds.map Arg.d) ρ1 ∧ F (.ob c .nil :: lendT (as ++ dds.map Arg.d) ρ1) (fun z ts => z = .v .none ∧ match ts with
    | t :: ts' => t.tru = true ∧ Q (.n t) (backR (as ++ dds.map Arg.d) ts' (lendR (as ++ dds.map Arg.d) ρ1))
    | [] => False) (fun x ts => E x (backR (as ++ dds.map Arg.d) ts.tail (lendR (as ++ dds.map Arg.d) ρ1)))) E
theorem isOb_eq {c : Nat} {s : S} (h : isOb c s) : ∃ cs, s = .ob c cs := by
  cases s with
  | ob d cs =>
    have h : d = c := h
    subst h
    exact ⟨cs, rfl⟩
  | _ => exact (show False from h).elim
/-- a method's name is no attribute -/
theorem node_nometh {K : Kx} {H : Hp} {c : Nat} {cs : SF} {a : Addr} {vs : List V} {N : Addr → Prop} {m : Str} {f : Addr} (nd : Node K H (.ob c cs) a vs N) (hm : Meth K.f (K.cl c) m f) : ∃ dx fs, H a = some (.ins (K.cl c) dx fs) ∧ fs.lookup m = none := by
  obtain ⟨dx, fs, h1, _, _, _, _, _, h7, _⟩ := nd
  refine ⟨dx, fs, h1, ?_⟩
  cases e : fs.lookup m with
  | none => rfl
  | some v =>
    exfalso
    have : ∀ {fs : List (Str × V)}, (∀ kv ∈ fs, NoAttr K.f (K.cl c) kv.1) → fs.lookup m = some v → False := by
      intro fs
      induction fs with
      | nil => intro _ h; cases h
      | cons kv fs ih =>
        intro hn h
        obtain ⟨g, w⟩ := kv
        by_cases q : m = g
        · subst q
          have := hn (m, w) List.mem_cons_self
          unfold NoAttr at this
          rw [hm.at_] at this
          cases this
        · have h : (match m == g with | true => some w | false => fs.lookup m) = some v := h
          rw [show (m == g) = false from beq_eq_false_iff_ne.mpr q] at h
          exact ih (fun kv hk => hn kv (List.mem_cons_of_mem _ hk)) h
    exact this h7 e
section
variable {K : Kx} {A : Ax} {W : WX} {F : FT} {dvs : List V} {dds : List D} {ta : TA}
theorem sim_xcall {da : dXA} (hm : MonT F) (hd : ∀ B, DqAll K.f B dvs dds) (h : SimXA K A W ta da) : SimX K A W (tCallSD (spT K F) dvs (WE W) ta) (dxCall F dds da) := by
  refine ⟨fun {B H G σ ρ Qd Ed Q} P q k kx => ?_⟩
  exact h.run P q (fun as vs B1 H1 G1 ρ1 R x1 P1 ar q1 => spT_call hm hd x1 P1 ar q1 k kx) kx
theorem sim_xmethP {te : TE} {dp : dP_} {da : dPA} {c : Nat} {m : Str} {f : Addr} (hm : MonT F) (hd : ∀ B, DqAll K.f B dvs dds) (hM : Meth K.f (K.cl c) m f) (h1 : SimP K A te dp) (h2 : SimPA K A ta da) : SimX K A W (tZmS (K.cl c) m (spT K F) dvs (WE W) te ta) (dxMethP c F dds dp da) := by
  refine ⟨fun {B H G σ ρ Qd Ed Q} P q k kx => ?_⟩
  refine h1.run P q fun i p u B1 H1 g1 hv hs q1 => ?_
  obtain ⟨io, q1⟩ := q1
  obtain ⟨cs, e⟩ := isOb_eq io
  obtain ⟨a, vs, N, R, rfl, nd, _, _⟩ := (P.gr g1).ob hv hs e
  obtain ⟨dx, fs, e1, e2⟩ := node_nometh nd hM
  refine ⟨a, dx, fs, rfl, e1, e2, ?_⟩
  refine h2.run (P.gr g1) q1 fun as vs B2 H2 R g2 ar q2 => ?_
  have hv2 := (P.gr g1).sval (fun a o _ e => g2.h a o e) hv
  exact spT_call (as := .p i p :: as) hm hd (Ext.gr (g1.trans g2)) (P.gr (g1.trans g2)) (.p hv2 (ar.back fun a z => z.imp g1.h.back fun z => z)) q2 k kx
theorem nmAt_ob {B H : Hp} {G : Addr → Prop} {σ : St} {ρ : List S} {i c : Nat} {cs : SF} (P : Rep K A B H G σ ρ) (e : nmAt i ρ = .ob c cs) : ∃ a vs N, σ[i]? = some (some (.ref a)) ∧ Node K H (.ob c cs) a vs N := by
  unfold nmAt at e
  split at e
  · rename_i j p e1
    split at e
    · cases e
    · rename_i hj
      obtain ⟨_, v, e2, hv⟩ := P.al i j p e1
      have hs : ∀ j' q', ρ[j]? ≠ some (.al j' q') := fun j' q' z => hj j' q' z
      obtain ⟨a, vs, N, R, rfl, nd, _⟩ := P.ob hv hs e
      exact ⟨a, vs, N, e2, nd⟩
  · rename_i s hs e1
    subst e
    obtain ⟨v, e2, R, r, o⟩ := P.get e1 rfl
    rw [Own] at o
    obtain ⟨a, vs, N, R', rfl, na, nd, _⟩ := o
    exact ⟨a, vs, N, e2, nd⟩
  · cases e
theorem sim_xmethV {da : dXA} {c i : Nat} {m : Str} {f : Addr} (hm : MonT F) (hd : ∀ B, DqAll K.f B dvs dds) (hM : Meth K.f (K.cl c) m f) (h2 : SimXA K A W ta da) : SimX K A W (tZmS (K.cl c) m (spT K F) dvs (WE W) (tVar i) ta) (dxMethV c F dds i da) := by
  refine ⟨fun {B H G σ ρ Qd Ed Q} P q k kx => ?_⟩
  obtain ⟨io, q⟩ := q
  obtain ⟨cs, e⟩ := isOb_eq io
  obtain ⟨a, vs, N, e1, nd⟩ := nmAt_ob P e
  obtain ⟨dx, fs, e2, e3⟩ := node_nometh nd hM
  refine ⟨.ref a, e1, a, dx, fs, rfl, e2, e3, ?_⟩
  refine h2.run P q (fun as vs B1 H1 G1 ρ1 R x1 P1 ar q1 => ?_) kx
  have rt : ∀ s, ρ1[i]? = some s → ValS H1 σ ρ1 i [] (.ref a) := fun s e => ⟨s, .ref a, e, e1, rfl⟩
  have q1 : nmArg i ρ1 fun a => callA F (a :: as ++ dds.map Arg.d) ρ1 Qd Ed := q1
  unfold nmArg at q1
  split at q1
  · rename_i j p e4
    split at q1
    · exact q1.elim
    · obtain ⟨_, v', e5, hv⟩ := P1.al i j p e4
      rw [e1] at e5
      cases e5
      exact spT_call (as := .p j p :: as) hm hd x1 P1 (.p hv ar) q1 k kx
  · exact q1.elim
  · exact q1.elim
  · rename_i d e4
    obtain ⟨v', e5, R', _, o⟩ := P1.get e4 rfl
    rw [e1] at e5
    cases e5
    exact spT_call (as := .d d :: as) hm hd x1 P1 (.d o.vv ar) q1 k kx
  · exact spT_call (as := .p i [] :: as) hm hd x1 P1 (.p (rt _ (by assumption)) ar) q1 k kx
  · exact q1.elim
theorem ArgIs.withD {H_0 B H : Hp} {G_0 G : Addr → Prop} {σ : St} {ρ : List S} {as : List Arg} {vs : List V} {R : Addr → Prop} (hd : ∀ B, DqAll K.f B dvs dds) (ar : ArgIs K H_0 G_0 B H G σ ρ as vs R) : ArgIs K H_0 G_0 B H G σ ρ (as ++ dds.map Arg.d) (vs ++ dvs) R := by
  induction ar with
  | nil =>
    have : ∀ {dds : List D} {dvs : List V}, DqAll K.f B dvs dds → ArgIs K H_0 G_0 B H G σ ρ (dds.map Arg.d) dvs (fun _ => False) := by
      intro dds dvs h
      induction dds generalizing dvs with
      | nil => cases h; exact .nil
      | cons d ds ih => cases h with | cons a b => exact .d a (ih b)
    exact this (hd B)
  | d x _ ih => exact .d x ih
  | p x _ ih => exact .p x ih
  | n x y z w _ ih => exact .n x y z w ih
theorem sim_xmake {da : dXA} {c : Nat} (hm : MonT F) (hd : ∀ B, DqAll K.f B dvs dds) (hC : Cls K.f (K.cl c)) (h : SimXA K A W ta da) : SimX K A W (tZmk (K.cl c) (spT K F) dvs (WE W) ta) (dxMake c F dds da) := by
  refine ⟨fun {B H G σ ρ Qd Ed Q} P q k kx => ?_⟩
  refine h.run P q (fun as vs B1 H1 G1 ρ1 R x1 P1 ar q1 => ?_) kx
  obtain ⟨lo, q1⟩ := q1
  have ar2 := ar.withD (dvs := dvs) hd
  obtain ⟨Gr, Gc, g1, g2, g3, P2, args, back⟩ := lend_run P1 ar2 lo
  have hnew := ar2.new
  intro x dx nx ndx ne
  -- the heap with the new instance
  have ex2 : Ex H1 (upd (upd H1 dx (.own x)) x (.ins (K.cl c) dx [])) := fun a o e => by
    rw [upd_ne (ne_of_none e nx), upd_ne (ne_of_none e ndx)]
    exact e
  have hx : (upd (upd H1 dx (.own x)) x (.ins (K.cl c) dx [])) x = some (.ins (K.cl c) dx []) := upd_same
  have hdx : (upd (upd H1 dx (.own x)) x (.ins (K.cl c) dx [])) dx = some (.own x) := by rw [upd_ne ne, upd_same]
  generalize upd (upd H1 dx (.own x)) x (.ins (K.cl c) dx []) = H2 at ex2 hx hdx
  have ok2 : Ok B1 H2 Gc := ⟨P1.ok.ex.trans ex2, args.ok.off, fun a g => ex2.fwd (args.ok.on a g)⟩
  have args2 : Args K B1 H2 Gc (vs ++ dvs) (lendT (as ++ dds.map Arg.d) ρ1) := by
    obtain ⟨R, r1, r2, r3⟩ := args.slot
    exact ⟨ok2, args.len, args.ob, R, r1, r2, fun i s v e1 e2 ht => (r3 i s v e1 e2 ht).frame (Ex.refl _) fun a o _ e => ex2 a o e⟩
  have new : ∀ a, (a = x ∨ a = dx) → ¬ Gc a ∧ B1 a = none ∧ H2 a ≠ none := fun a e => by
    have hn : H1 a = none := e.elim (fun e => e ▸ nx) fun e => e ▸ ndx
    refine ⟨fun g => args.ok.on a g hn, P1.ok.ex.back hn, fun z => ?_⟩
    rcases e with rfl | rfl
    · rw [hx] at z; cases z
    · rw [hdx] at z; cases z
  have own0 : Own K B1 H2 (.ob c .nil) (.ref x) (fun a => a = x ∨ a = dx) := by
    rw [Own]
    exact ⟨x, [], fun a => a = x ∨ a = dx, fun _ => False, rfl, .inl rfl, ⟨dx, [], hx, hdx, Ne.symm ne, rfl, ⟨rfl, List.nodup_nil⟩, hC, (fun _ h => nomatch h), fun _ => Iff.rfl⟩, fun _ z => z, fun _ z => z.elim, by show OwnF K B1 H2 .nil [] _; rw [OwnF]⟩
  have args3 := Args.cons (v := .ref x) args2 (t := .ob c .nil) (R0 := fun a => a = x ∨ a = dx) rfl (fun _ => own0) new
  have key : ∀ B' H' Gc' (ts' : List S), Ext B1 H2 (fun a => Gc a ∨ (a = x ∨ a = dx)) B' H' Gc' → Args K B' H' Gc' (.ref x :: (vs ++ dvs)) ts' → ∃ t ts R0 G', ts' = t :: ts ∧ t.noT = true ∧ (t.tru = true → Own K B' H' t (.ref x) R0) ∧ (∀ a, R0 a → (H a = none ∨ G a) ∧ ¬ G' a ∧ B' a = none ∧ H' a ≠ none) ∧ Rep K A B' H' G' σ (backR (as ++ dds.map Arg.d) ts (lendR (as ++ dds.map Arg.d) ρ1)) ∧ Ext B H G B' H' G' := fun B' H' Gc' ts' xx ar' => by
    cases ts' with
    | nil => exact absurd ar'.len (by simp)
    | cons t ts =>
      obtain ⟨R0, nt, r0, ow, at_⟩ := ar'.tail
      have nG : ∀ a, (Gc a ∨ (a = x ∨ a = dx)) → (H a = none ∨ G a) := fun a z => by
        rcases z with z | z
        · exact (g2 a z).elim (fun z => (x1.own a z).symm) fun z => (hnew a z).1
        · have hn : H1 a = none := z.elim (fun e => e ▸ nx) fun e => e ▸ ndx
          exact .inl (Classical.byContradiction fun q => x1.all a q hn)
      have back2 : ∀ a, H2 a = none → H a = none := fun a z => Classical.byContradiction fun q => ex2.fwd (x1.all a q) z
      have notr : ∀ a, Gr a → ¬ (Gc a ∨ (a = x ∨ a = dx)) := fun a r z => z.elim (g3 a r) fun z => P2.ok.on a r (z.elim (fun e => e ▸ nx) fun e => e ▸ ndx)
      have off : ∀ a, Gr a → B' a = none := fun a r => Classical.byContradiction fun z => (xx.nw a z).elim (fun z => z (P2.ok.off a r)) fun z => z.elim (ex2.fwd (P2.ok.on a r)) (notr a r)
      have kp : ∀ a o, Gr a → H1 a = some o → H' a = some o := fun a o r e => xx.keep a o (notr a r) (ex2 a o e)
      have P3 : Rep K A B' H' Gr σ (lendR (as ++ dds.map Arg.d) ρ1) := P2.frame ⟨ar'.ok.ex, off, fun a r => xx.all a (ex2.fwd (P2.ok.on a r))⟩ xx.b kp
      obtain ⟨G', P4, gg⟩ := back B' H' _ ts (fun a c r => (xx.own a c.1).elim (notr a r) fun z => ex2.fwd (P2.ok.on a r) z) kp at_ P3
      refine ⟨t, ts, R0, G', rfl, nt, ow, fun a r => ⟨?_, fun g => ?_, ar'.ok.off a (r0 a r), ar'.ok.on a (r0 a r)⟩, P4, ?_⟩
      · exact (xx.own a (r0 a r)).elim (nG a) fun z => .inl (back2 a z)
      · exact (gg a g).elim (fun z => (xx.own a (r0 a r)).elim (notr a z) fun q => ex2.fwd (P2.ok.on a z) q) fun z => z.2 r
      · refine ⟨x1.b.trans xx.b, fun a o ng e => ?_, fun a h => ?_, fun a g => ?_, fun a h => xx.all a (ex2.fwd (x1.all a h))⟩
        · have e1 := x1.keep a o ng e
          refine xx.keep a o (fun c => ?_) (ex2 a o e1)
          exact (nG a c).elim (fun z => by rw [z] at e; cases e) ng
        · rcases xx.nw a h with z | z | z
          · exact x1.nw a z
          · exact .inr (.inl (back2 a z))
          · exact .inr (nG a z)
        · rcases gg a g with z | z
          · exact x1.own a (g1 a z)
          · exact (xx.own a z.1).elim (fun z => (nG a z).symm) fun z => .inr (back2 a z)
  refine ⟨B1, _, _, args3, hm _ _ _ _ _ (fun z ts hz v B' H' G' xx ar' kp zi => ?_) (fun e ts hz c' d B' H' G' xx ar' ei => ?_) q1⟩
  · obtain ⟨rfl, hz⟩ := hz
    obtain ⟨t, ts2, R0, G2, rfl, nt, ow, r0, P4, x4⟩ := key B' H' G' ts xx ar'
    refine ⟨dp_non zi, ?_⟩
    exact k (.n t) _ B' H' G2 _ x4 P4 ⟨R0, r0, hz.1, ow hz.1⟩ hz.2
  · obtain ⟨t, ts2, R0, G2, rfl, nt, ow, r0, P4, x4⟩ := key B' H' G' ts xx ar'
    exact kx e c' d B' H' G2 _ x4 P4 ei hz
end
/-! ### what is handed back of one's own -/
/-- return name -/
def dRetV (i : Nat) : dS := fun E ρ => match ρ[i]? with
  | some (.v d) => E.rt (.v d) ρ
  | some s => s.tru = true ∧ E.rt (.n s) (ρ.set i .no)
  | none => False
section
variable {K : Kx} {A : Ax} {W : WX} {B H : Hp} {G : Addr → Prop} {σ : St} {ρ : List S} {i : Nat} {s : S}
/-- what a name holds, taken out of it -/
theorem Rep.move (p : Rep K A B H G σ ρ) (na : NoAl ρ i) (e : ρ[i]? = some s) (ht : s.tru = true) : ∃ v R, σ[i]? = some (some v) ∧ Own K B H s v R ∧ (∀ a, R a → G a) ∧ Rep K A B H (fun a => G a ∧ ¬ R a) σ (ρ.set i .no) := by
  obtain ⟨R, r1, r2, r3⟩ := p.slot
  obtain ⟨v, e1, q⟩ := r3 i s e (S.tru_live ht)
  have vset : ∀ {k : Nat} {q : List Nat} {u : V}, k ≠ i → ValS H σ ρ k q u → ValS H σ (ρ.set i .no) k q u := fun hk h => by
    obtain ⟨s, w, e1, e2, hv⟩ := h
    exact ⟨s, w, by rw [List.getElem?_set_ne (Ne.symm hk)]; exact e1, e2, hv⟩
  refine ⟨v, R i, e1, q, r1 i, ⟨⟨p.ok.ex, fun a g => p.ok.off a g.1, fun a g => p.ok.on a g.1⟩, by rw [List.length_set]; exact p.len, ⟨fun j a => R j a ∧ ¬ R i a, fun j a h => ⟨r1 j a h.1, h.2⟩, fun j k a h1 h2 => r2 j k a h1.1 h2.1, fun j t ej ns => ?_⟩, fun j k q ej => ?_, fun j w k q ej => ?_⟩⟩
  · rcases get_set ej with ⟨rfl, rfl, _⟩ | ⟨hj, ej⟩
    · cases ns
    · obtain ⟨w, e2, q2⟩ := r3 j t ej ns
      exact ⟨w, e2, q2.wide fun a ra => ⟨ra, fun z => hj (r2 j i a ra z)⟩⟩
  · rcases get_set ej with ⟨rfl, z, _⟩ | ⟨hj, ej⟩
    · cases z
    · obtain ⟨a1, x, e1, hv⟩ := p.al j k q ej
      exact ⟨a1, x, e1, vset (na.1 j k q ej) hv⟩
  · rcases get_set ej with ⟨rfl, z, _⟩ | ⟨hj, ej⟩
    · cases z
    · obtain ⟨a1, hv⟩ := p.gh j w k q ej
      exact ⟨a1, vset (na.2 j w k q ej) hv⟩
theorem sim_retV (hA : A.A i = false) : SimS K A W (tRet (tVar i)) (dRetV i) := by
  refine ⟨fun {B H G σ ρ D E} p q k1 k2 k3 k4 k5 => ?_⟩
  unfold dRetV at q
  split at q
  · rename_i d e
    obtain ⟨v, e1, R, r, o⟩ := p.get e rfl
    exact ⟨v, e1, k2 B H G σ ρ (.v d) v Ext.refl p o.vv q⟩
  · rename_i s _ e
    obtain ⟨v, R, e1, o, r, p2⟩ := p.move (p.noAl hA) e q.1
    refine ⟨v, e1, k2 B H _ σ _ (.n s) v ⟨Ex.refl B, fun _ _ _ e => e, fun a h => .inl h, fun a g => .inl g.1, fun _ z => z⟩ p2 ⟨R, fun a ra => ⟨.inr (r a ra), fun g => g.2 ra, p.ok.off a (r a ra), p.ok.on a (r a ra)⟩, q.1, o⟩ q.2⟩
  · exact q.elim
end
/-! ### defs -/
structure CS (X : Cx) (A : Ax) (W : WX) (st : Stmt) (ts : TS) (ds : dS) : Prop where
  ps : PS X st ts
  sim : SimS (kx A X) A W ts ds
structure CSs (X : Cx) (A : Ax) (W : WX) (sts : List Stmt) (ts : TS) (ds : dS) : Prop where
  ps : PSs X sts ts
  sim : SimS (kx A X) A W ts ds
/-- the lent parameters -/
def backM : List Bool → List S → List S
  | true :: m, s :: ρ => s :: backM m ρ
  | false :: m, _ :: ρ => .no :: backM m ρ
  | _, _ => []
def ghM (g : Nat → V) : Nat → List Bool → List S
  | _, [] => []
  | i, true :: m => .gh (g i) i [] :: ghM g (i + 1) m
  | i, false :: m => ghM g (i + 1) m
def argT (M : List Bool) (n : Nat) (g : Nat → V) (ρ : List S) : List S := ρ ++ List.replicate (n - ρ.length) .no ++ ghM g 0 M
/-- what is wanted at the end of a def's body -/
def fT (M : List Bool) (n : Nat) (g : Nat → V) (Q : Z → List S → Prop) (E : Exn → List S → Prop) : DE where
  nx := fun ρ => (ρ.drop n = ghM g 0 M ∧ (backM M ρ).all S.noT = true) ∧ Q (.v .none) (backM M ρ)
  rt := fun z ρ => (ρ.drop n = ghM g 0 M ∧ (backM M ρ).all S.noT = true) ∧ z.keep ∧ Q z (backM M ρ)
  ex := fun x ρ => (ρ.drop n = ghM g 0 M ∧ (backM M ρ).all S.noT = true) ∧ E x (backM M ρ)
theorem ghM_get {g : Nat → V} : ∀ {M : List Bool} {i j : Nat} {s : S}, (ghM g i M)[j]? = some s → ∃ k, M[k]? = some true ∧ s = .gh (g (i + k)) (i + k) []
  | [], i, j, s, h => by simp [ghM] at h
  | true :: m, i, 0, s, h => by
    cases h
    exact ⟨0, rfl, rfl⟩
  | true :: m, i, j + 1, s, h => by
    obtain ⟨k, a, b⟩ := ghM_get (M := m) (i := i + 1) (j := j) h
    exact ⟨k + 1, a, by rw [b, show i + 1 + k = i + (k + 1) by omega]⟩
  | false :: m, i, j, s, h => by
    obtain ⟨k, a, b⟩ := ghM_get (M := m) (i := i + 1) (j := j) h
    exact ⟨k + 1, a, by rw [b, show i + 1 + k = i + (k + 1) by omega]⟩
theorem ghM_has {g : Nat → V} : ∀ {M : List Bool} {i k : Nat}, M[k]? = some true → ∃ j : Nat, (ghM g i M)[j]? = some (S.gh (g (i + k)) (i + k) [])
  | [], _, _, h => by simp at h
  | true :: m, i, 0, _ => ⟨0, rfl⟩
  | true :: m, i, k + 1, h => by
    obtain ⟨j, e⟩ := ghM_has (g := g) (M := m) (i := i + 1) (k := k) h
    exact ⟨j + 1, by rw [show i + (k + 1) = i + 1 + k by omega]; exact e⟩
  | false :: m, i, 0, h => by cases h
  | false :: m, i, k + 1, h => by
    obtain ⟨j, e⟩ := ghM_has (g := g) (M := m) (i := i + 1) (k := k) h
    exact ⟨j, by rw [show i + (k + 1) = i + 1 + k by omega]; exact e⟩
theorem backM_get : ∀ {M : List Bool} {ρ : List S} {i : Nat} {s : S}, (backM M ρ)[i]? = some s → s = .no ∨ (M[i]? = some true ∧ ρ[i]? = some s)
  | [], ρ, i, s, h => by cases ρ <;> simp [backM] at h
  | true :: m, [], i, s, h => by simp [backM] at h
  | false :: m, [], i, s, h => by simp [backM] at h
  | true :: m, t :: ρ, 0, s, h => .inr ⟨rfl, h⟩
  | false :: m, t :: ρ, 0, s, h => by cases h; exact .inl rfl
  | true :: m, t :: ρ, i + 1, s, h => backM_get (M := m) (ρ := ρ) (i := i) h
  | false :: m, t :: ρ, i + 1, s, h => backM_get (M := m) (ρ := ρ) (i := i) h
theorem backM_len : ∀ {M : List Bool} {ρ : List S}, M.length ≤ ρ.length → (backM M ρ).length = M.length
  | [], ρ, _ => by cases ρ <;> rfl
  | true :: m, [], h => absurd h (Nat.not_succ_le_zero _)
  | false :: m, [], h => absurd h (Nat.not_succ_le_zero _)
  | true :: m, t :: ρ, h => congrArg (· + 1) (backM_len (Nat.le_of_succ_le_succ h))
  | false :: m, t :: ρ, h => congrArg (· + 1) (backM_len (Nat.le_of_succ_le_succ h))
section
variable {K : Kx} {A : Ax} {B H : Hp} {G : Addr → Prop} {vs : List V} {ρ : List S} {M : List Bool} {N : List Str}
theorem Args.rep (h : Args K B H G vs ρ) (hn : A.n = N.length) (hl : ρ.length ≤ N.length) (hM : ∀ i, M[i]? = some true → A.A i = true ∧ i < ρ.length) : Rep K A B H G (L2.start N vs) (argT M N.length (fun i => (vs[i]?).getD .non) ρ) := by
  obtain ⟨R, r1, r2, r3⟩ := h.slot
  have hlv := h.len
  have sg : ∀ {i : Nat} {v : V}, vs[i]? = some v → (L2.start N vs)[i]? = some (some v) := fun {i v} e => by
    unfold L2.start
    have hi := (List.getElem?_eq_some_iff.mp e).1
    rw [List.getElem?_append_left (by rw [List.length_map]; exact hi), List.getElem?_map, e]
    rfl
  have rg : ∀ {i : Nat} {s : S}, (argT M N.length (fun i => (vs[i]?).getD .non) ρ)[i]? = some s → (ρ[i]? = some s) ∨ s = .no ∨ ∃ k, M[k]? = some true ∧ s = .gh ((vs[k]?).getD .non) k [] := fun {i s} e => by
    unfold argT at e
    by_cases h1 : i < (ρ ++ List.replicate (N.length - ρ.length) S.no).length
    · rw [List.getElem?_append_left h1] at e
      by_cases h2 : i < ρ.length
      · rw [List.getElem?_append_left h2] at e
        exact .inl e
      · rw [List.getElem?_append_right (by omega), List.getElem?_replicate] at e
        split at e
        · cases e; exact .inr (.inl rfl)
        · cases e
    · rw [List.getElem?_append_right (by omega)] at e
      obtain ⟨k, a, b⟩ := ghM_get e
      rw [Nat.zero_add] at b
      exact .inr (.inr ⟨k, a, b⟩)
  have ob := List.all_eq_true.mp h.ob
  refine ⟨h.ok, ⟨?_, ?_⟩, ⟨R, r1, r2, fun i s e ns => ?_⟩, fun j i p e => ?_, fun j w i p e => ?_⟩
  · unfold L2.start
    rw [List.length_append, List.length_map, List.length_replicate, hn]
    omega
  · unfold argT
    rw [List.length_append, List.length_append, List.length_replicate, hn]
    omega
  · rcases rg e with e | rfl | ⟨k, _, rfl⟩
    · have hi := (List.getElem?_eq_some_iff.mp e).1
      have ev : vs[i]? = some (vs[i]'(by omega)) := List.getElem?_eq_getElem (by omega)
      refine ⟨_, sg ev, r3 i s _ e ev ?_⟩
      rcases S.noT_cases (ob s (List.mem_of_getElem? e)) with z | z
      · subst z; cases ns
      · exact z
    · cases ns
    · cases ns
  · rcases rg e with e | e | ⟨k, _, e⟩
    · have := ob _ (List.mem_of_getElem? e)
      cases this
    · cases e
    · cases e
  · rcases rg e with e | e | ⟨k, hk, e⟩
    · have := ob _ (List.mem_of_getElem? e)
      cases this
    · cases e
    · cases e
      obtain ⟨a1, a2⟩ := hM _ hk
      refine ⟨a1, ?_⟩
      have ev : vs[i]? = some (vs[i]'(by omega)) := List.getElem?_eq_getElem (by omega)
      rw [ev]
      refine ⟨ρ[i]'a2, vs[i]'(by omega), ?_, sg ev, rfl⟩
      unfold argT
      rw [List.getElem?_append_left (by rw [List.length_append]; omega), List.getElem?_append_left a2]
      exact List.getElem?_eq_getElem a2
/-- at the end -/
theorem Rep.args {σ : St} {ρ' : List S} (P : Rep K A B H G σ ρ') (hn : A.n = N.length) (hg : ρ'.drop N.length = ghM (fun i => (vs[i]?).getD .non) 0 M) (ob : (backM M ρ').all S.noT = true) (hl : vs.length = M.length) (hN : M.length ≤ N.length) : Args K B H G vs (backM M ρ') := by
  obtain ⟨R, r1, r2, r3⟩ := P.slot
  refine ⟨P.ok, ?_, ob, R, r1, r2, fun i s v e1 e2 ht => ?_⟩
  · rw [backM_len (by have := P.len; omega), hl]
  · rcases backM_get e1 with rfl | ⟨hM, e⟩
    · cases ht
    · obtain ⟨w, ew, o⟩ := r3 i s e (S.tru_live ht)
      obtain ⟨j, ej⟩ := ghM_has (g := fun i => (vs[i]?).getD .non) (i := 0) hM
      rw [Nat.zero_add, ← hg, List.getElem?_drop] at ej
      obtain ⟨_, s', w', e3, e4, hv⟩ := P.gh _ _ _ _ ej
      have hv : (vs[i]?).getD .non = w' := hv
      rw [e2] at hv
      have hv : v = w' := hv
      rw [ew] at e4
      cases e4
      rw [hv]
      exact o
end
end Dl

set_option maxHeartbeats 2000000
namespace Dl
open PySem L2
/-! ### a def by its body -/
/-- the world by names -/
abbrev kt (A : Ax) (K : PySem.W.Frag) (mg : Str → Option Value) : Kx := ⟨K, fun n => clOf mg (A.cn.getD n ""), fun n => A.fn.getD n ""⟩
section
variable {P : Program} {w : World} {K : PySem.W.Frag} {mg : Str → Option Value} {base : Heap} {A : Ax} {k : Nat} {f : Addr} {fd : FuncData} {N ps : List Str} {M : List Bool} {F : FT} {ds : dS}
/-- F asks for so many arguments -/
def LenT (F : FT) (n : Nat) : Prop := ∀ ρ Q E, F ρ Q E → ρ.length = n
theorem tree_end {x qual : Str} {st : Stmt} (Sc : FnScope N ps (defScope st)) (hn : A.n = N.length) (hps : ps.length ≤ N.length) (hMl : M.length = ps.length) (hM : ∀ i, M[i]? = some true → A.A i = true) (len : LenT F ps.length) {W : WX} {ts : TS} {H : Hp} {vs : List V} {Q : VK} {E : XK}
    (hW : W = fun c d _ H' => E c d H') (sim : SimS (kt A K mg) A W ts ds) (ok : ∀ ρ Q Ed, F ρ Q Ed → ∀ g, ds (fT M N.length g Q Ed) (argT M N.length g ρ)) (h : spT (kt A K mg) F vs H Q E) : ts { nx := fun _ H' => Q .non H', rt := Q } (L2.start N vs) H := by
  subst hW
  obtain ⟨B, G, ρ, ar, hf⟩ := h
  have hl := len _ _ _ hf
  have rep := ar.rep (A := A) (M := M) (N := N) hn (by omega) (fun i h => ⟨hM i h, by have := (List.getElem?_eq_some_iff.mp h).1; omega⟩)
  have hlv := ar.len
  have fin : ∀ {B' H' : Hp} {G' : Addr → Prop} {σ' : St} {ρ' : List S}, Rep (kt A K mg) A B' H' G' σ' ρ' → (ρ'.drop N.length = ghM (fun i => (vs[i]?).getD .non) 0 M ∧ (backM M ρ').all S.noT = true) → Args (kt A K mg) B' H' G' vs (backM M ρ') := fun P' h =>
    P'.args hn h.1 h.2 (by omega) (by omega)
  refine sim.run rep (ok _ _ _ hf _) (fun B' H' G' σ' ρ' x p q => ?_) (fun B' H' G' σ' ρ' z v x p r q => ?_) (fun _ _ _ _ _ _ _ z => z.elim) (fun _ _ _ _ _ _ _ z => z.elim) (fun B' H' G' σ' ρ' e c d x p i q => ?_)
  · exact q.2 .non B' H' G' x (fin p q.1) True.intro .non
  · exact q.2.2 v B' H' G' x (fin p q.1) q.2.1 r
  · exact q.2 c d B' H' G' x (fin p q.1) i
theorem fn_tree {x qual : Str} {st : Stmt} (Fn : Fun K x qual st f fd) (Sc : FnScope N ps (defScope st)) (hn : A.n = N.length) (hps : ps.length ≤ N.length) (hMl : M.length = ps.length) (hM : ∀ i, M[i]? = some true → A.A i = true) (len : LenT F ps.length)
    (hb : ∀ (cdv : Value) (Ar : Around) (outer : List Env) (s : Shared) (H : Hp) (E : XK), Room k (Ar.deeper (PyProof.Rows.envOfC qual (defScope st) s.heap.objs.size f cdv)) → ∀ (X : Cx), X = cxOf (L2.CX P w) P w K mg base N qual (defScope st) f cdv Ar outer s H E → Takes X (fun c d _ H' => E c d H') → PassesOwn (model X.prog X.w) X.A X.env X.xe →
      ∃ ts, PSs X (defBody st) ts ∧ SimS (kt A K mg) A (fun c d _ H' => E c d H') ts ds)
    (ok : ∀ ρ Q Ed, F ρ Q Ed → ∀ g, ds (fT M N.length g Q Ed) (argT M N.length g ρ)) : FnOk P w K mg base (L2.CX P w) (k + 1) f fd ps (spT (kt A K mg) F) := by
  refine Fn.okX Sc (fun vs H Q E h => ?_) (fun cdv Ar outer s H vs Q E hr h => ?_)
  · obtain ⟨B, G, ρ, ar, hf⟩ := h
    rw [ar.len]
    exact len _ _ _ hf
  · obtain ⟨ts, ps', sim⟩ := hb cdv Ar outer s H E hr _ rfl (takes_of rfl rfl rfl rfl) (passes_of rfl)
    exact ⟨ts, ps', tree_end (x := x) (qual := qual) Sc hn hps hMl hM len rfl sim ok h⟩
end
end Dl

set_option maxHeartbeats 2000000
namespace Dl
open PySem L2

/-! ### built-in functions -/
def dL1 (f : D → (Z → Prop) → Prop) (zs : List Z) (Q : Z → Prop) : Prop := match zs with
  | [z] => match z.data with
    | some d => f d Q
    | none => False
  | _ => False
def dL2 (f : D → D → (Z → Prop) → Prop) (zs : List Z) (Q : Z → Prop) : Prop := match zs with
  | [y, z] => match y.data, z.data with
    | some d, some e => f d e Q
    | _, _ => False
  | _ => False
section
variable {K : Kx} {A : Ax}
theorem simL_1 {r : List V → Hp → VK → Prop} {f : D → (Z → Prop) → Prop}
    (h : ∀ {B H : Hp} {G : Addr → Prop} {H_0 : Hp} {z : Z} {v : V} {d : D} {Qd : Z → Prop} {Q : VK}, Ok B H G → ZIs K B H G H_0 z v → z.data = some d → f d Qd → (∀ z v' B' H', Gr B H B' H' → ZIs K B' H' G H z v' → Qd z → Q v' H') → r [v] H Q) : SimL K r (dL1 f) := by
  intro B H G H_0 xs vs Qd Q ok za q k
  cases za with
  | nil => exact (show False from q).elim
  | cons a b =>
    cases b with
    | cons _ _ => exact (show False from q).elim
    | nil =>
      rename_i z v
      have q : (match z.data with
        | some d => f d Qd
        | none => False) := q
      cases e : z.data with
      | none => rw [e] at q; exact q.elim
      | some d => rw [e] at q; exact h ok a e q k
theorem simL_2 {r : List V → Hp → VK → Prop} {f : D → D → (Z → Prop) → Prop}
    (h : ∀ {B H : Hp} {G : Addr → Prop} {H_0 : Hp} {y z : Z} {v w : V} {d e : D} {Qd : Z → Prop} {Q : VK}, Ok B H G → ZIs K B H G H_0 y v → ZIs K B H G H_0 z w → y.data = some d → z.data = some e → f d e Qd → (∀ z v' B' H', Gr B H B' H' → ZIs K B' H' G H z v' → Qd z → Q v' H') → r [v, w] H Q) : SimL K r (dL2 f) := by
  intro B H G H_0 xs vs Qd Q ok za q k
  cases za with
  | nil => exact (show False from q).elim
  | cons a b =>
    cases b with
    | nil => exact (show False from q).elim
    | cons c d =>
      cases d with
      | cons _ _ => exact (show False from q).elim
      | nil =>
        rename_i y v z w
        have q : (match y.data, z.data with
          | some d, some e => f d e Qd
          | _, _ => False) := q
        cases e1 : y.data with
        | none => rw [e1] at q; exact q.elim
        | some d =>
          cases e2 : z.data with
          | none => rw [e1, e2] at q; exact q.elim
          | some e => rw [e1, e2] at q; exact h ok a c e1 e2 q k
def fLen : D → (Z → Prop) → Prop
  | .str y, Q => y.length ≤ sizeLine ∧ Q (.v (.int y.length))
  | .list xs, Q => Q (.v (.int xs.length))
  | .dict [(.none, .list xs)], Q => Q (.v (.int xs.length))
  | .tuple xs, Q => Q (.v (.int xs.length))
  | _, _ => False
def rLen (K : PySem.W.Frag) : List V → Hp → VK → Prop := fun xs H Q => ∃ x n, xs = [x] ∧ LenV K x H n ∧ Q (.int n) H
theorem sim_len : SimL K (rLen K) (dL1 fLen) := simL_1 fun {B H G H_0 z v d Qd Q} ok za e q k => by
  unfold fLen at q
  split at q
  · rename_i y
    refine ⟨v, y.length, rfl, ?_, k (.v (.int y.length)) _ B H (Gr.refl ok.ex) (.int _) q.2⟩
    rw [dp_str (za.dp ok.ex e)]
    exact ⟨q.1, rfl⟩
  · rename_i xs
    obtain ⟨a, vs, rfl, r, qq⟩ := za.items ok (items_of e)
    refine ⟨_, xs.length, rfl, .inl ⟨vs, r, (dps_len qq).symm⟩, k (.v (.int xs.length)) _ B H (Gr.refl ok.ex) (.int _) q⟩
  · rename_i xs
    obtain ⟨a, vs, rfl, r, qq⟩ := za.items ok (items_scr e)
    refine ⟨_, xs.length, rfl, .inl ⟨vs, r, (dps_len qq).symm⟩, k (.v (.int xs.length)) _ B H (Gr.refl ok.ex) (.int _) q⟩
  · rename_i xs
    obtain ⟨a, vs, rfl, r, _, qq⟩ := za.mems ok (mems_of e)
    refine ⟨_, xs.length, rfl, .inr ⟨vs, r, (dps_len qq).symm⟩, k (.v (.int xs.length)) _ B H (Gr.refl ok.ex) (.int _) q⟩
  · exact q.elim
def fAbs : D → (Z → Prop) → Prop
  | .int i, Q => Q (.v (.int (if i < 0 then -i else i)))
  | _, _ => False
def rAbs : List V → Hp → VK → Prop := fun xs H Q => ∃ i, xs = [.int i] ∧ Q (.int (if i < 0 then -i else i)) H
theorem sim_abs : SimL K rAbs (dL1 fAbs) := simL_1 fun {B H G H_0 z v d Qd Q} ok za e q k => by
  unfold fAbs at q
  split at q
  · rename_i i
    exact ⟨i, by rw [dp_int (za.dp ok.ex e)], k (.v (.int _)) _ B H (Gr.refl ok.ex) (.int _) q⟩
  · exact q.elim
def fInt : D → (Z → Prop) → Prop
  | .int i, Q => Q (.v (.int i))
  | .bool b, Q => Q (.v (.int (if b then 1 else 0)))
  | _, _ => False
def rInt : List V → Hp → VK → Prop := fun xs H Q => (∃ i, xs = [.int i] ∧ Q (.int i) H) ∨ ∃ k, xs = [.bl k] ∧ Q (.int (if k then 1 else 0)) H
theorem sim_int : SimL K rInt (dL1 fInt) := simL_1 fun {B H G H_0 z v d Qd Q} ok za e q k => by
  unfold fInt at q
  split at q
  · rename_i i
    exact .inl ⟨i, by rw [dp_int (za.dp ok.ex e)], k (.v (.int _)) _ B H (Gr.refl ok.ex) (.int _) q⟩
  · rename_i b
    exact .inr ⟨b, by rw [dp_bl (za.dp ok.ex e)], k (.v (.int _)) _ B H (Gr.refl ok.ex) (.int _) q⟩
  · exact q.elim
def fStr : D → (Z → Prop) → Prop
  | .int i, Q => i.natAbs.log2 < 1920 ∧ Q (.v (.str (toString i)))
  | _, _ => False
def rStrI : List V → Hp → VK → Prop := fun xs H Q => ∃ i, xs = [.int i] ∧ i.natAbs.log2 < 1920 ∧ Q (.str (toString i)) H
theorem sim_str : SimL K rStrI (dL1 fStr) := simL_1 fun {B H G H_0 z v d Qd Q} ok za e q k => by
  unfold fStr at q
  split at q
  · rename_i i
    exact ⟨i, by rw [dp_int (za.dp ok.ex e)], q.1, k (.v (.str _)) _ B H (Gr.refl ok.ex) (.str _) q.2⟩
  · exact q.elim
def fMax : D → D → (Z → Prop) → Prop
  | .int i, .int j, Q => Q (.v (.int (if j > i then j else i)))
  | _, _, _ => False
def rMax2 : List V → Hp → VK → Prop := fun xs H Q => ∃ i j, xs = [.int i, .int j] ∧ Q (.int (if j > i then j else i)) H
theorem sim_max : SimL K rMax2 (dL2 fMax) := simL_2 fun {B H G H_0 y z v w d e Qd Q} ok za zb e1 e2 q k => by
  unfold fMax at q
  split at q
  · rename_i i j
    exact ⟨i, j, by rw [dp_int (za.dp ok.ex e1), dp_int (zb.dp ok.ex e2)], k (.v (.int _)) _ B H (Gr.refl ok.ex) (.int _) q⟩
  · exact q.elim
def fMin : D → D → (Z → Prop) → Prop
  | .int i, .int j, Q => Q (.v (.int (if j < i then j else i)))
  | _, _, _ => False
def rMin2 : List V → Hp → VK → Prop := fun xs H Q => ∃ i j, xs = [.int i, .int j] ∧ Q (.int (if j < i then j else i)) H
theorem sim_min : SimL K rMin2 (dL2 fMin) := simL_2 fun {B H G H_0 y z v w d e Qd Q} ok za zb e1 e2 q k => by
  unfold fMin at q
  split at q
  · rename_i i j
    exact ⟨i, j, by rw [dp_int (za.dp ok.ex e1), dp_int (zb.dp ok.ex e2)], k (.v (.int _)) _ B H (Gr.refl ok.ex) (.int _) q⟩
  · exact q.elim
def fList : D → (Z → Prop) → Prop
  | .list xs, Q => Q (.n (.l xs))
  | .dict [(.none, .list xs)], Q => Q (.n (.l xs))
  | .tuple xs, Q => Q (.n (.l xs))
  | _, _ => False
def rList (K : PySem.W.Frag) : List V → Hp → VK → Prop := fun xs H Q => ∃ p ys, xs = [.ref p] ∧ (SqL K H p ys ∨ SqT K H p ys) ∧ ∀ l, H l = none → Q (.ref l) (upd H l (.lst ys))
theorem sim_list : SimL K (rList K) (dL1 fList) := simL_1 fun {B H G H_0 z v d Qd Q} ok za e q k => by
  unfold fList at q
  split at q
  · rename_i xs
    obtain ⟨a, vs, rfl, r, qq⟩ := za.items ok (items_of e)
    refine ⟨a, vs, rfl, .inl r, fun l hl => ?_⟩
    obtain ⟨g, z⟩ := new_list ok hl qq
    exact k _ _ _ _ g z q
  · rename_i xs
    obtain ⟨a, vs, rfl, r, qq⟩ := za.items ok (items_scr e)
    refine ⟨a, vs, rfl, .inl r, fun l hl => ?_⟩
    obtain ⟨g, z⟩ := new_list ok hl qq
    exact k _ _ _ _ g z q
  · rename_i xs
    obtain ⟨a, vs, rfl, r, _, qq⟩ := za.mems ok (mems_of e)
    refine ⟨a, vs, rfl, .inr r, fun l hl => ?_⟩
    obtain ⟨g, z⟩ := new_list ok hl qq
    exact k _ _ _ _ g z q
  · exact q.elim
def fTup : D → (Z → Prop) → Prop
  | .list xs, Q => Q (.v (.tuple xs))
  | .dict [(.none, .list xs)], Q => Q (.v (.tuple xs))
  | .tuple xs, Q => Q (.v (.tuple xs))
  | _, _ => False
def rTup (K : PySem.W.Frag) : List V → Hp → VK → Prop := fun xs H Q => ∃ p ys, xs = [.ref p] ∧ ((SqL K H p ys ∧ ∀ l, H l = none → Q (.ref l) (upd H l (.tup ys))) ∨ (SqT K H p ys ∧ Q (.ref p) H))
theorem sim_tuple : SimL K (rTup K) (dL1 fTup) := simL_1 fun {B H G H_0 z v d Qd Q} ok za e q k => by
  unfold fTup at q
  split at q
  · rename_i xs
    obtain ⟨a, vs, rfl, r, qq⟩ := za.items ok (items_of e)
    refine ⟨a, vs, rfl, .inl ⟨r, fun l hl => ?_⟩⟩
    obtain ⟨g, z⟩ := new_tup ok hl qq
    exact k _ _ _ _ g z q
  · rename_i xs
    obtain ⟨a, vs, rfl, r, qq⟩ := za.items ok (items_scr e)
    refine ⟨a, vs, rfl, .inl ⟨r, fun l hl => ?_⟩⟩
    obtain ⟨g, z⟩ := new_tup ok hl qq
    exact k _ _ _ _ g z q
  · rename_i xs
    obtain ⟨a, vs, rfl, r, rb, qq⟩ := za.mems ok (mems_of e)
    exact ⟨a, vs, rfl, .inr ⟨r, k (.v (.tuple xs)) _ B H (Gr.refl ok.ex) (.tup rb qq) q⟩⟩
  · exact q.elim
end
/-! isinstance(e, T), T a built-in class -/
def dTy : D → String
  | .none => "NoneType" | .bool _ => "bool" | .int _ => "int" | .str _ => "str" | .list _ => "list" | .tuple _ => "tuple" | .dict _ => "dict"
def isiB (a T : String) : Bool := a == T || (a == "bool" && T == "int")
def dIsi (T : String) (de : dE) : dE := fun ρ Q => de ρ fun z => match z.data with
  | some (.dict _) => False
  | some d => kitB (dTy d) T = some (isiB (dTy d) T) ∧ Q (.v (.bool (isiB (dTy d) T)))
  | none => False
theorem sim_isi {K : Kx} {A : Ax} {te : TE} {de : dE} {T : String} (h : SimE K A te de) : SimE K A (tCB (rIsi K) (tCons te (tCons (tC (.ty T)) tNil))) (dIsi T de) := by
  refine ⟨fun {B H G σ ρ Qd Q} p q k => ?_⟩
  refine h.run p q fun z v B1 H1 g1 z1 h1 => ?_
  have ok := p.ok.gr g1
  have h1 : (match z.data with
    | some (.dict _) => False
    | some d => kitB (dTy d) T = some (isiB (dTy d) T) ∧ Qd (.v (.bool (isiB (dTy d) T)))
    | none => False) := h1
  split at h1
  · exact h1.elim
  · rename_i d nd e
    have hd := z1.dp ok.ex e
    have fin : Q (.bl (isiB (dTy d) T)) H1 := k (.v (.bool _)) _ B1 H1 g1 (.bl _) h1.2
    have ty : TyX K H1 v (.type (dTy d)) := by
      cases hd with
      | non => exact .base .non
      | bl b => exact .base (.bl b)
      | int i => exact .base (.int i)
      | str x => exact .base (.str x)
      | lst r _ =>
        rcases r with r | ⟨o, r⟩
        · exact .base (.lst r)
        · exact .base (.frz r)
      | tup r _ =>
        rcases r with (r | ⟨o, r⟩) | ⟨o, its, n, hk, hc, _⟩
        · exact .base (.tup r)
        · exact .fTuple r
        · exact .kTuple hk hc
      | scr _ _ => exact (nd _ rfl).elim
      | dic _ _ => exact (nd _ rfl).elim
      | dit _ _ => exact (nd _ rfl).elim
    exact ⟨v, .ty T, .type (dTy d), .type T, isiB (dTy d) T, rfl, .ty T, ty, kit_ty h1.1, fin⟩
  · exact h1.elim

/-! ### comprehensions -/
def wipeS (ρ : List S) : List Nat → List S
  | [] => ρ
  | v :: vs => (wipeS ρ vs).set v .no
theorem Rep.wipe {K : Kx} {A : Ax} {B H : Hp} {G : Addr → Prop} {σ : St} {ρ : List S} (p : Rep K A B H G σ ρ) : ∀ {vs : List Nat}, (∀ v ∈ vs, A.A v = false) → Rep K A B H G (wipe σ vs) (wipeS ρ vs)
  | [], _ => p
  | v :: vs, h => by
    have q := Rep.wipe p (vs := vs) fun x hx => h x (List.mem_cons_of_mem _ hx)
    exact q.out (q.noAl (h v List.mem_cons_self)) none
def lcGo (dg : dG) (dt : dT) (de : dE) (ρ : List S) (Q : Z → Prop) : List D → List D → Prop
  | [], acc => Q (.n (.l acc))
  | x :: xs, acc => dg x ρ fun ρ1 => dt ρ1 fun b => if b = true then de ρ1 fun z => match z.own with
      | some d => acc.length < sizeLine ∧ lcGo dg dt de ρ Q xs (acc ++ [d])
      | none => False
    else lcGo dg dt de ρ Q xs acc
def dLc (di : dI_) (dg : dG) (dt : dT) (de : dE) (vs : List Nat) : dE := fun ρ Q => di ρ fun items => lcGo dg dt de (wipeS ρ vs) Q items []
def dYes : dT := fun _ Q => Q true
theorem sim_yes {K : Kx} {A : Ax} : SimT K A tYes dYes := ⟨fun {B H G σ ρ Qd Q} p q k => k true B H (Gr.refl p.ex) q⟩
theorem sim_lc {K : Kx} {A : Ax} {wi : TI} {di : dI_} {js : List Nat} {g : TG} {dg : dG} {tt : TT} {dt : dT} {te : TE} {de : dE} {vs : List Nat} (hi : SimI K A wi di) (hg : SimG K A js g dg) (ht : SimT K A tt dt) (he : SimE K A te de) (hj : ∀ j ∈ js, j ∈ vs) (hv : ∀ v ∈ vs, A.A v = false) :
    SimE K A (tLc wi g tt te vs) (dLc di dg dt de vs) := by
  refine ⟨fun {B H G σ ρ Qd Q} p q k => ?_⟩
  refine hi.run p q fun items J B1 H1 g1 hJ h1 => ?_
  intro Dl hD
  have p1 := p.gr g1
  -- what holds between the turns
  refine ⟨fun i m H' => m = items.length - i ∧ i ≤ items.length ∧ ∃ B' acc ws, Gr B1 H1 B' H' ∧ B' Dl = none ∧ H' Dl = some (.lst ws) ∧ DqAll K B' ws acc ∧ lcGo dg dt de (wipeS ρ vs) Qd (items.drop i) acc, ⟨items.length, by simp, Nat.zero_le _, B1, [], [], ?_⟩, ?_⟩
  · have hb : B1 Dl = none := g1.ex.back hD
    exact ⟨⟨Ex.refl B1, Ex.new hD, g1.ex.trans (Ex.new hD), fun a h => .inl h⟩, hb, upd_same, .nil, h1⟩
  · rintro i m H' ⟨rfl, hle, B', acc, ws, g', hb, hw, hq, hgo⟩
    have p' := (p1.gr g').wipe hv
    by_cases hlt : i < items.length
    · refine .inr ⟨hJ.go g'.b g'.ex hlt, fun H2 => items.length - (i + 1) < items.length - i ∧ i + 1 ≤ items.length ∧ ∃ B' acc ws, Gr B1 H1 B' H2 ∧ B' Dl = none ∧ H2 Dl = some (.lst ws) ∧ DqAll K B' ws acc ∧ lcGo dg dt de (wipeS ρ vs) Qd (items.drop (i + 1)) acc, fun H2 h2 => ⟨items.length - (i + 1), h2.1, rfl, h2.2⟩, fun v H2 hy => ?_⟩
      have e : items[i]? = some items[i] := List.getElem?_eq_getElem hlt
      rw [List.drop_eq_getElem_cons hlt] at hgo
      obtain ⟨B2, g2, hd⟩ := hJ.yld g'.b g'.ex e hy
      have stay : ∀ {B3 H3 : Hp}, Gr B' H' B3 H3 → B3 Dl = none := fun {B3 H3} g => Classical.byContradiction fun z => (g.nw Dl z).elim (fun q => q hb) fun q => by rw [hw] at q; cases q
      refine hg.run (p'.gr g2) hd hgo fun σ3 ρ3 p3 w3 q3 => ⟨?_, ?_⟩
      · rw [w3 vs hj]
        apply List.ext_getElem?
        intro k
        rw [wipe_at, wipe_at]
        by_cases hk : k ∈ vs
        · rw [if_pos hk, if_pos hk]
          cases σ[k]? <;> rfl
        · rw [if_neg hk]
      refine ht.run p3 q3 fun b B4 H4 g4 q4 => ?_
      cases b with
      | false =>
        have gg := (g'.trans g2).trans g4
        exact ⟨by omega, hlt, B4, acc, ws, gg, stay (g2.trans g4), g4.h _ _ (g2.h _ _ hw), dps_mono (g2.b.trans g4.b) _ _ hq, q4⟩
      | true =>
        refine he.run (p3.gr g4) q4 fun z y B5 H5 g5 z5 q5 => ?_
        have q5 : (match z.own with
          | some d => acc.length < sizeLine ∧ lcGo dg dt de (wipeS ρ vs) Qd (items.drop (i + 1)) (acc ++ [d])
          | none => False) := q5
        cases ez : z.own with
        | none => rw [ez] at q5; exact q5.elim
        | some d =>
          rw [ez] at q5
          obtain ⟨B6, g6, _, hd6⟩ := z5.clean g5 ez
          have gl := (g2.trans g4).trans g6
          have gg := g'.trans gl
          have hD5 := gl.h _ _ hw
          have hb6 := stay gl
          refine ⟨ws, hD5, by rw [dps_len hq]; exact q5.1, by omega, hlt, B6, acc ++ [d], ws ++ [y], ⟨gg.b, fun a o h => ?_, fun a o h => ?_, gg.nw⟩, hb6, upd_same, dps_app (dps_mono gl.b _ _ hq) (.cons hd6 .nil), q5.2⟩
          · have : a ≠ Dl := fun z => by rw [z, hD] at h; cases h
            rw [upd_ne this]
            exact gg.h a o h
          · have : a ≠ Dl := fun z => by rw [z, hb6] at h; cases h
            rw [upd_ne this]
            exact gg.ex a o h
    · have e : i = items.length := by omega
      subst e
      rw [List.drop_length] at hgo
      refine .inl ⟨hJ.stop g'.b g'.ex, ?_⟩
      refine k (.n (.l acc)) _ B' H' (g1.trans g') ⟨fun a => a = Dl, fun a ea => ?_, rfl, .ofl rfl hw hq⟩ hgo
      subst ea
      exact ⟨g1.h.back hD, hb, by rw [hw]; intro z; cases z⟩

/-! ### calls of defs -/
abbrev FD := List D → (Z → Prop) → Prop
def spV (K : Kx) (f : FD) : Sp := fun vs H Q E => ∃ (B : Hp) (G : Addr → Prop) (ds : List D), Ok B H G ∧ DqAll K B vs ds ∧ f ds fun z => ∀ v B' H', Gr B H B' H' → ZIs K B' H' G H z v → Q v H'
def dCallF (f : FD) (dds : List D) (dc : dC) : dE := fun ρ Q => dc ρ fun ds => f (ds ++ dds) Q
/-- f is a monotone promise -/
def Mon (f : FD) : Prop := ∀ ds (Q Q' : Z → Prop), (∀ z, Q z → Q' z) → f ds Q → f ds Q'
theorem sim_call {K : Kx} {A : Ax} {f : FD} {dds : List D} {dvs : List V} {E : XK} {ta : TA} {dc : dC} (hm : Mon f) (hd : ∀ B, DqAll K B dvs dds) (h : SimC K A ta dc) : SimE K A (tCall (spV K f) dvs E ta) (dCallF f dds dc) := by
  refine ⟨fun {B H G σ ρ Qd Q} p q k => ?_⟩
  refine h.run p q fun ds vs B1 H1 g1 z1 h1 => ?_
  refine ⟨B1, G, ds ++ dds, p.ok.gr g1, dps_app z1 (hd B1), hm _ _ _ (fun z hz => fun v B' H' g' z' => ?_) h1⟩
  exact k z v B' H' (g1.trans g') (z'.early g1.h) hz
def Z.fin : Z → Z
  | .v d => .v d
  | .b s => .n s
  | .n s => .n s
def args (n : Nat) (ds : List D) : List S := ds.map S.v ++ List.replicate (n - ds.length) .no
section
variable {P : Program} {w : World} {K : Kx} {mg : Str → Option Value} {base : Heap}
theorem args_v {K : Kx} {B H : Hp} {G : Addr → Prop} {vs : List V} {ds : List D} (ok : Ok B H G) (h : DqAll K.f B vs ds) : Args K B H G vs (ds.map S.v) := by
  refine ⟨ok, by rw [List.length_map]; exact dps_len h, by rw [List.all_map]; exact List.all_eq_true.mpr fun _ _ => rfl, fun _ _ => False, fun _ _ z => z.elim, fun _ _ _ z => z.elim, fun i s v e1 e2 ht => ?_⟩
  rw [List.getElem?_map] at e1
  cases e : ds[i]? with
  | none => rw [e] at e1; cases e1
  | some d =>
    rw [e] at e1
    cases e1
    obtain ⟨v', ev, dv⟩ := dps_get h e
    rw [e2] at ev
    cases ev
    exact .ofv dv
abbrev fE (Q : Z → Prop) : DE := { nx := fun _ => Q (.v .none), rt := fun z _ => Q z.fin }
theorem rep_start {A : Ax} {K : Kx} {B H : Hp} {N : List Str} {vs : List V} {ds : List D} (ex : Ex B H) (hn : A.n = N.length) (hl : ds.length ≤ N.length) (h : DqAll K.f B vs ds) : Rep K A B H (fun _ => False) (L2.start N vs) (args N.length ds) := by
  have r := (args_v (K := K) (G := fun _ => False) ⟨ex, fun _ z => z.elim, fun _ z => z.elim⟩ h).rep (A := A) (M := []) (N := N) hn (by rw [List.length_map]; exact hl) (fun i h => by simp at h)
  unfold argT at r
  unfold args
  simpa [ghM] using r
/-- a pure def by its body's reading -/
theorem fn_data {x qual : Str} {st : Stmt} {f : Addr} {fd : FuncData} {N ps : List Str} {k : Nat} {F : FD} {ds : dS} {A : Ax} (Fn : Fun K x qual st f fd) (Sc : FnScope N ps (defScope st)) (hn : A.n = N.length) (hps : ps.length ≤ N.length)
    (hb : ∀ (cdv : Value) (Ar : Around) (outer : List Env) (s : Shared) (H : Hp) (E : XK), Room k (Ar.deeper (PyProof.Rows.envOfC qual (defScope st) s.heap.objs.size f cdv)) → ∃ ts, PSs (cxOf CX0 P w K mg base N qual (defScope st) f cdv Ar outer s H E).nox (defBody st) ts ∧ SimS (kt A K mg) A (fun _ _ _ _ => False) ts ds)
    (len : ∀ as Q, F as Q → as.length = ps.length)
    (ok : ∀ as Q, F as Q → ds (fE Q) (args N.length as)) : FnOk P w K mg base CX0 (k + 1) f fd ps (spV (kt A K mg) F) := by
  refine Fn.ok Sc (fun vs H Q E h => ?_) (fun cdv Ar outer s H vs Q E hr h => ?_)
  · obtain ⟨B, G, as, _, hv, hf⟩ := h
    rw [dps_len hv]
    exact len _ _ hf
  · obtain ⟨B, G, as, o, hv, hf⟩ := h
    obtain ⟨ts, c, sim⟩ := hb cdv Ar outer s H E hr
    have hl := len _ _ hf
    refine ⟨ts, c, sim.run (rep_start o.ex hn (by omega) hv) (ok as _ hf) (fun B' H' G' σ' ρ' x p q => ?_) (fun B' H' G' σ' ρ' z v x p r q => ?_) (fun _ _ _ _ _ _ _ z => z.elim) (fun _ _ _ _ _ _ _ z => z.elim) (fun _ _ _ _ _ _ _ _ _ _ _ z => z.elim)⟩
    · exact q .non B' H' ⟨x.b, fun a o h => x.keep a o (fun z => z) h, p.ex, fun a h => (x.nw a h).elim .inl fun z => z.elim .inr fun z => z.elim⟩ .non
    · have gr : Gr B H B' H' := ⟨x.b, fun a o h => x.keep a o (fun z => z) h, p.ex, fun a h => (x.nw a h).elim .inl fun z => z.elim .inr fun z => z.elim⟩
      refine q v B' H' gr ?_
      cases z with
      | v d => exact r
      | b s => obtain ⟨R, r1, n, q1⟩ := r; exact ⟨R, fun a ra => ⟨(x.own a (r1 a ra)).elim (fun z => z.elim) fun z => z, p.ok.off a (r1 a ra), p.ok.on a (r1 a ra)⟩, n, q1⟩
      | n s => obtain ⟨R, r1, n, q1⟩ := r; exact ⟨R, fun a ra => ⟨(r1 a ra).1.elim (fun z => z) (fun z => z.elim), (r1 a ra).2.2⟩, n, q1⟩
end
end Dl

set_option maxHeartbeats 2000000
namespace Dl
open PySem L2
/-! ### expressions whose parts may change the world -/
def dxOp (dr : Z → Z → (Z → Prop) → Prop) (dx dy : dX) : dX := fun ρ Q E => dx ρ (fun x ρ1 => match x.own with
  | some d => dy ρ1 (fun y ρ2 => dr (.v d) y fun z => Q z ρ2) E
  | none => False) E
def dxOpL (dr : Z → Z → (Z → Prop) → Prop) (dx : dX) (db : dE) : dX := fun ρ Q E => dx ρ (fun x ρ1 => db ρ1 fun y => dr x y fun z => Q z ρ1) E
def dxUn (dr : Z → (Z → Prop) → Prop) (dx : dX) : dX := fun ρ Q E => dx ρ (fun x ρ1 => dr x fun z => Q z ρ1) E
def dxTst (dx : dX) : dXT := fun ρ Q E => dx ρ (fun z ρ1 => match z.data with
  | some (.bool b) => Q b ρ1
  | _ => False) E
def truD (z : Z) (Q : Bool → Prop) : Prop := match z.data with
  | some .none => Q false
  | some (.bool b) => Q b
  | some (.int i) => Q (i != 0)
  | some (.str y) => y.length ≤ sizeLine ∧ Q ((y.length : Int) != 0)
  | some (.list xs) => Q (!xs.isEmpty)
  | some (.tuple xs) => Q (!xs.isEmpty)
  | _ => False
def dxTru (dx : dX) : dXT := fun ρ Q E => dx ρ (fun z ρ1 => truD z fun b => Q b ρ1) E
def dxAndT (t u : dXT) : dXT := fun ρ Q E => t ρ (fun b ρ1 => if b = true then u ρ1 Q E else Q false ρ1) E
def dxOrT (t u : dXT) : dXT := fun ρ Q E => t ρ (fun b ρ1 => if b = true then Q true ρ1 else u ρ1 Q E) E
def dxNotT (t : dXT) : dXT := fun ρ Q E => t ρ (fun b ρ1 => Q (!b) ρ1) E
def dxAndE (da db : dX) : dX := fun ρ Q E => da ρ (fun z ρ1 => match z.data with
  | some (.bool b) => if b = true then db ρ1 Q E else Q (.v (.bool false)) ρ1
  | _ => False) E
def dxOrE (da db : dX) : dX := fun ρ Q E => da ρ (fun z ρ1 => match z.data with
  | some (.bool b) => if b = true then Q (.v (.bool true)) ρ1 else db ρ1 Q E
  | _ => False) E
def dxNotE (da : dX) : dX := fun ρ Q E => da ρ (fun z ρ1 => match z.data with
  | some (.bool b) => Q (.v (.bool (!b))) ρ1
  | _ => False) E
def dxIfE (t : dXT) (da db : dX) : dX := fun ρ Q E => t ρ (fun b ρ1 => if b = true then da ρ1 Q E else db ρ1 Q E) E
def dxTup (dc : dXC) : dX := fun ρ Q E => dc ρ (fun ds ρ1 => ds.length ≤ sizeLine ∧ Q (.v (.tuple ds)) ρ1) E
def dxLst (dc : dXC) : dX := fun ρ Q E => dc ρ (fun ds ρ1 => ds.length ≤ sizeLine ∧ Q (.n (.l ds)) ρ1) E
def dxCB (dr : List Z → (Z → Prop) → Prop) (dc : dXC) : dX := fun ρ Q E => dc ρ (fun ds ρ1 => dr (ds.map Z.v) fun z => Q z ρ1) E
section
variable {K : Kx} {A : Ax} {W : WX} {B H B1 H1 B' H' : Hp} {G G1 : Addr → Prop} {z : Z} {v : V}
theorem Ex.none : Ex (fun _ => none) H := fun _ _ h => nomatch h
theorem ZIx.zis0 (h : ZIx K H G B1 H1 G1 z v) : ZIs K B1 H1 G1 (fun _ => none) z v := by
  cases z with
  | v d => exact h
  | b s => exact h
  | n s => obtain ⟨R, r, n, q⟩ := h; exact ⟨R, fun a ra => ⟨rfl, (r a ra).2.2⟩, n, q⟩
theorem ZIx.dp (h : ZIx K H G B1 H1 G1 z v) (e : Ex B1 H1) {d : D} (hd : z.data = some d) : Dq K.f H1 v d := h.zis0.dp e hd
theorem ZIs.x1 (x : Ext B H G B1 H1 G1) (ok : Ok B1 H1 G1) (g : Gr B1 H1 B' H') (h : ZIs K B' H' G1 H1 z v) : ZIx K H G B' H' G1 z v := (h.x g ok).back x
theorem sim_xop {r : R2} {dr : Z → Z → (Z → Prop) → Prop} {ta tb : TE} {dx dy : dX} (hr : SimR K r dr) (h1 : SimX K A W ta dx) (h2 : SimX K A W tb dy) : SimX K A W (tOp r ta tb) (dxOp dr dx dy) := by
  refine ⟨fun {B H G σ ρ Qd Ed Q} p q k kx => ?_⟩
  refine h1.run p q (fun x v B1 H1 G1 ρ1 x1 p1 z1 q1 => ?_) kx
  have q1 : (match x.own with
    | some d => dy ρ1 (fun y ρ2 => dr (.v d) y fun z => Qd z ρ2) Ed
    | none => False) := q1
  cases e : x.own with
  | none => rw [e] at q1; exact q1.elim
  | some d =>
    rw [e] at q1
    obtain ⟨B2, ok2, x2, e2, hd⟩ := z1.clean p1.ok x1 e
    refine h2.run (p1.base ok2 e2) q1 (fun y w B3 H3 G3 ρ3 x3 p3 z3 q3 => ?_) (kx.on x2)
    have xx := x2.trans x3
    refine hr p3.ok (x := .v d) (H_0 := fun _ => none) (dp_mono x3.b _ _ hd) z3.zis0 q3 fun z v' B4 H4 g4 z4 q4 => ?_
    exact k z v' B4 H4 G3 ρ3 (xx.trans (Ext.gr g4)) (p3.gr g4) (z4.x1 xx p3.ok g4) q4
theorem sim_xopL {r : R2} {dr : Z → Z → (Z → Prop) → Prop} {ta tb : TE} {dx : dX} {db : dE} (hr : SimR K r dr) (h1 : SimX K A W ta dx) (h2 : SimE K A tb db) : SimX K A W (tOp r ta tb) (dxOpL dr dx db) := by
  refine ⟨fun {B H G σ ρ Qd Ed Q} p q k kx => ?_⟩
  refine h1.run p q (fun x v B1 H1 G1 ρ1 x1 p1 z1 q1 => ?_) kx
  refine h2.run p1 q1 fun y w B2 H2 g2 z2 q2 => ?_
  refine hr (p1.ok.gr g2) (x := x) (H_0 := fun _ => none) (z1.zis0.gr g2) (z2.early Ex.none) q2 fun z v' B4 H4 g4 z4 q4 => ?_
  exact k z v' B4 H4 G1 ρ1 (x1.trans (Ext.gr (g2.trans g4))) (p1.gr (g2.trans g4)) ((z4.early g2.h).x1 x1 p1.ok (g2.trans g4)) q4
theorem sim_xun {r : V → Hp → VK → Prop} {dr : Z → (Z → Prop) → Prop} {ta : TE} {dx : dX} (hr : SimU K r dr) (h1 : SimX K A W ta dx) : SimX K A W (tUn r ta) (dxUn dr dx) := by
  refine ⟨fun {B H G σ ρ Qd Ed Q} p q k kx => ?_⟩
  refine h1.run p q (fun x v B1 H1 G1 ρ1 x1 p1 z1 q1 => ?_) kx
  refine hr p1.ok (x := x) (H_0 := fun _ => none) z1.zis0 q1 fun z v' B4 H4 g4 z4 q4 => ?_
  exact k z v' B4 H4 G1 ρ1 (x1.trans (Ext.gr g4)) (p1.gr g4) (z4.x1 x1 p1.ok g4) q4
theorem sim_xtst {te : TE} {dx : dX} (h : SimX K A W te dx) : SimXT K A W (tTest te) (dxTst dx) := by
  refine ⟨fun {B H G σ ρ Qd Ed Q} p q k kx => ?_⟩
  refine h.run p q (fun z v B1 H1 G1 ρ1 x1 p1 z1 q1 => ?_) kx
  have q1 : (match z.data with
    | some (.bool b) => Qd b ρ1
    | _ => False) := q1
  split at q1
  · rename_i b e
    exact ⟨b, dp_bl (z1.dp p1.ex e), k b B1 H1 G1 ρ1 x1 p1 q1⟩
  · exact q1.elim
theorem sim_xtru {te : TE} {dx : dX} (h : SimX K A W te dx) : SimXT K A W (fun σ H Q => te σ H fun x H' => ∃ k, TruV K.f x H' k ∧ Q k H') (dxTru dx) := by
  refine ⟨fun {B H G σ ρ Qd Ed Q} p q k kx => ?_⟩
  refine h.run p q (fun z v B1 H1 G1 ρ1 x1 p1 z1 q1 => ?_) kx
  have q1 : (match z.data with
    | some .none => Qd false ρ1
    | some (.bool b) => Qd b ρ1
    | some (.int i) => Qd (i != 0) ρ1
    | some (.str y) => y.length ≤ sizeLine ∧ Qd ((y.length : Int) != 0) ρ1
    | some (.list xs) => Qd (!xs.isEmpty) ρ1
    | some (.tuple xs) => Qd (!xs.isEmpty) ρ1
    | _ => False) := q1
  have z0 := z1.zis0
  split at q1
  · rename_i e
    rw [dp_non (z0.dp p1.ex e)]
    exact ⟨false, rfl, k _ _ _ _ _ x1 p1 q1⟩
  · rename_i b e
    rw [dp_bl (z0.dp p1.ex e)]
    exact ⟨b, rfl, k _ _ _ _ _ x1 p1 q1⟩
  · rename_i i e
    rw [dp_int (z0.dp p1.ex e)]
    exact ⟨_, rfl, k _ _ _ _ _ x1 p1 q1⟩
  · rename_i y e
    rw [dp_str (z0.dp p1.ex e)]
    exact ⟨_, ⟨q1.1, rfl⟩, k _ _ _ _ _ x1 p1 q1.2⟩
  · rename_i xs e
    obtain ⟨a, vs, rfl, r, qq⟩ := z0.items p1.ok (items_of e)
    refine ⟨_, .inl ⟨vs, r, rfl⟩, ?_⟩
    rw [isEmpty_len (dps_len qq)]
    exact k _ _ _ _ _ x1 p1 q1
  · rename_i xs e
    obtain ⟨a, vs, rfl, r, _, qq⟩ := z0.mems p1.ok (mems_of e)
    refine ⟨_, .inr (.inl ⟨vs, r, rfl⟩), ?_⟩
    rw [isEmpty_len (dps_len qq)]
    exact k _ _ _ _ _ x1 p1 q1
  · exact q1.elim
theorem sim_xandT {t u : TT} {a b : dXT} (h1 : SimXT K A W t a) (h2 : SimXT K A W u b) : SimXT K A W (tAnd t u) (dxAndT a b) := by
  refine ⟨fun {B H G σ ρ Qd Ed Q} p q k kx => ?_⟩
  refine h1.run p q (fun c B1 H1 G1 ρ1 x1 p1 q1 => ?_) kx
  cases c with
  | true => exact h2.run p1 q1 (fun c B2 H2 G2 ρ2 x2 p2 q2 => k c _ _ _ _ (x1.trans x2) p2 q2) (kx.on x1)
  | false => exact k _ _ _ _ _ x1 p1 q1
theorem sim_xorT {t u : TT} {a b : dXT} (h1 : SimXT K A W t a) (h2 : SimXT K A W u b) : SimXT K A W (tOr t u) (dxOrT a b) := by
  refine ⟨fun {B H G σ ρ Qd Ed Q} p q k kx => ?_⟩
  refine h1.run p q (fun c B1 H1 G1 ρ1 x1 p1 q1 => ?_) kx
  cases c with
  | false => exact h2.run p1 q1 (fun c B2 H2 G2 ρ2 x2 p2 q2 => k c _ _ _ _ (x1.trans x2) p2 q2) (kx.on x1)
  | true => exact k _ _ _ _ _ x1 p1 q1
theorem sim_xnotT {t : TT} {a : dXT} (h1 : SimXT K A W t a) : SimXT K A W (tNot t) (dxNotT a) :=
  ⟨fun {B H G σ ρ Qd Ed Q} p q k kx => h1.run p q (fun c B1 H1 G1 ρ1 x1 p1 q1 => k _ _ _ _ _ x1 p1 q1) kx⟩
theorem sim_xandE {t u : TE} {a b : dX} (h1 : SimX K A W t a) (h2 : SimX K A W u b) : SimX K A W (tAndV t u) (dxAndE a b) := by
  refine ⟨fun {B H G σ ρ Qd Ed Q} p q k kx => ?_⟩
  refine h1.run p q (fun z v B1 H1 G1 ρ1 x1 p1 z1 q1 => ?_) kx
  have q1 : (match z.data with
    | some (.bool c) => if c = true then b ρ1 Qd Ed else Qd (.v (.bool false)) ρ1
    | _ => False) := q1
  split at q1
  · rename_i c e
    refine ⟨c, dp_bl (z1.dp p1.ex e), ?_⟩
    cases c with
    | true => exact h2.run p1 q1 (fun z v B2 H2 G2 ρ2 x2 p2 z2 q2 => k z v _ _ _ _ (x1.trans x2) p2 (z2.back x1) q2) (kx.on x1)
    | false => exact k (.v (.bool false)) _ _ _ _ _ x1 p1 (.bl _) q1
  · exact q1.elim
theorem sim_xorE {t u : TE} {a b : dX} (h1 : SimX K A W t a) (h2 : SimX K A W u b) : SimX K A W (tOrV t u) (dxOrE a b) := by
  refine ⟨fun {B H G σ ρ Qd Ed Q} p q k kx => ?_⟩
  refine h1.run p q (fun z v B1 H1 G1 ρ1 x1 p1 z1 q1 => ?_) kx
  have q1 : (match z.data with
    | some (.bool c) => if c = true then Qd (.v (.bool true)) ρ1 else b ρ1 Qd Ed
    | _ => False) := q1
  split at q1
  · rename_i c e
    refine ⟨c, dp_bl (z1.dp p1.ex e), ?_⟩
    cases c with
    | false => exact h2.run p1 q1 (fun z v B2 H2 G2 ρ2 x2 p2 z2 q2 => k z v _ _ _ _ (x1.trans x2) p2 (z2.back x1) q2) (kx.on x1)
    | true => exact k (.v (.bool true)) _ _ _ _ _ x1 p1 (.bl _) q1
  · exact q1.elim
theorem sim_xnotE {t : TE} {a : dX} (h1 : SimX K A W t a) : SimX K A W (tNotV t) (dxNotE a) := by
  refine ⟨fun {B H G σ ρ Qd Ed Q} p q k kx => ?_⟩
  refine h1.run p q (fun z v B1 H1 G1 ρ1 x1 p1 z1 q1 => ?_) kx
  have q1 : (match z.data with
    | some (.bool c) => Qd (.v (.bool (!c))) ρ1
    | _ => False) := q1
  split at q1
  · rename_i c e
    exact ⟨c, dp_bl (z1.dp p1.ex e), k (.v (.bool (!c))) _ _ _ _ _ x1 p1 (.bl _) q1⟩
  · exact q1.elim
theorem sim_xifE {t : TT} {ta tb : TE} {a : dXT} {da db : dX} (h1 : SimXT K A W t a) (h2 : SimX K A W ta da) (h3 : SimX K A W tb db) : SimX K A W (tIf t ta tb) (dxIfE a da db) := by
  refine ⟨fun {B H G σ ρ Qd Ed Q} p q k kx => ?_⟩
  refine h1.run p q (fun c B1 H1 G1 ρ1 x1 p1 q1 => ?_) kx
  cases c with
  | true => exact h2.run p1 q1 (fun z v B2 H2 G2 ρ2 x2 p2 z2 q2 => k z v _ _ _ _ (x1.trans x2) p2 (z2.back x1) q2) (kx.on x1)
  | false => exact h3.run p1 q1 (fun z v B2 H2 G2 ρ2 x2 p2 z2 q2 => k z v _ _ _ _ (x1.trans x2) p2 (z2.back x1) q2) (kx.on x1)
theorem sim_xtup {ta : TA} {dc : dXC} (h : SimXC K A W ta dc) : SimX K A W (tTup ta) (dxTup dc) := by
  refine ⟨fun {B H G σ ρ Qd Ed Q} p q k kx => ?_⟩
  refine h.run p q (fun ds vs B1 H1 G1 ρ1 x1 p1 z1 h1 => ?_) kx
  refine ⟨by rw [dps_len z1]; exact h1.1, fun c hc => ?_⟩
  obtain ⟨g4, z4⟩ := new_tup (K := K) p1.ok hc z1
  exact k _ _ _ _ _ _ (x1.trans (Ext.gr g4)) (p1.gr g4) (z4.x1 x1 p1.ok g4) h1.2
theorem sim_xlst {ta : TA} {dc : dXC} (h : SimXC K A W ta dc) : SimX K A W (tLst ta) (dxLst dc) := by
  refine ⟨fun {B H G σ ρ Qd Ed Q} p q k kx => ?_⟩
  refine h.run p q (fun ds vs B1 H1 G1 ρ1 x1 p1 z1 h1 => ?_) kx
  refine ⟨by rw [dps_len z1]; exact h1.1, fun c hc => ?_⟩
  obtain ⟨g4, z4⟩ := new_list (K := K) p1.ok hc z1
  exact k _ _ _ _ _ _ (x1.trans (Ext.gr g4)) (p1.gr g4) (z4.x1 x1 p1.ok g4) h1.2
theorem zall_v {H_0 : Hp} : ∀ {vs : List V} {ds : List D}, DqAll K.f B vs ds → ZAll K B H G H_0 (ds.map Z.v) vs
  | _, _, .nil => .nil
  | _, _, .cons a b => .cons (z := .v _) a (zall_v b)
theorem sim_xcb {r : List V → Hp → VK → Prop} {dr : List Z → (Z → Prop) → Prop} {ta : TA} {dc : dXC} (hr : SimL K r dr) (h : SimXC K A W ta dc) : SimX K A W (fun σ H Q => ta σ H fun xs H' => r xs H' Q) (dxCB dr dc) := by
  refine ⟨fun {B H G σ ρ Qd Ed Q} p q k kx => ?_⟩
  refine h.run p q (fun ds vs B1 H1 G1 ρ1 x1 p1 z1 h1 => ?_) kx
  refine hr p1.ok (H_0 := fun _ => none) (zall_v z1) h1 fun z v' B4 H4 g4 z4 q4 => ?_
  exact k z v' B4 H4 G1 ρ1 (x1.trans (Ext.gr g4)) (p1.gr g4) (z4.x1 x1 p1.ok g4) q4
/-! ### x += e -/
def dAug (i : Nat) (dr : Z → Z → (Z → Prop) → Prop) (dx : dX) : dS := fun E ρ => dVar i ρ fun x => match x with
  | .v d => dx ρ (fun y ρ1 => dr (.v d) y fun z => match z with
    | .v e => E.nx (ρ1.set i (.v e))
    | _ => False) E.ex
  | _ => False
theorem sim_aug {r : TIp} {dr : Z → Z → (Z → Prop) → Prop} {te : TE} {dx : dX} {i : Nat} (hA : A.A i = false) (hi : i < A.n) (hr : SimR K r dr) (h : SimX K A W te dx) : SimS K A W (tAug i te r) (dAug i dr dx) := by
  refine ⟨fun {B H G σ ρ D E} p q k1 k2 k3 k4 k5 => ?_⟩
  have hv : SimE K A (tVar i) (dVar i) := sim_var
  have go : tVar i σ H fun x H' => H' = H → te σ H fun y H1 => r x y H1 fun z H2 => D.nx (σ.set i (some z)) H2 := by
    refine hv.run p q fun x v B1 H1 g1 z1 h1 e => ?_
    subst e
    cases x with
    | b s => exact (show False from h1).elim
    | n s => exact (show False from h1).elim
    | v d =>
      refine h.run (p.gr g1) h1 (fun y w B2 H2 G2 ρ2 x2 p2 z2 h2 => ?_) (fun x c d B2 H2 G2 ρ2 x2 p2 ei q2 => k5 _ _ _ _ _ x c d ((Ext.gr g1).trans x2) p2 ei q2)
      refine hr p2.ok (x := .v d) (H_0 := fun _ => none) (dp_mono x2.b _ _ z1) z2.zis0 h2 fun z u B3 H3 g3 z3 h3 => ?_
      have gg := ((Ext.gr (G := G) g1).trans x2).trans (Ext.gr g3)
      cases z with
      | v d => exact k1 _ _ _ _ _ gg ((p2.gr g3).setV ((p2.gr g3).noAl hA) hi z3) h3
      | b _ => exact (show False from h3).elim
      | n _ => exact (show False from h3).elim
  obtain ⟨x, e, k⟩ := go
  exact ⟨x, e, k rfl⟩
end
end Dl

set_option maxHeartbeats 2000000
namespace Dl
open PySem L2
/-! ### a place is changed -/
/-- the place (i, p) gets t -/
def repl (ρ : List S) (i : Nat) (p : List Nat) (t : S) : List S := putP (kill i p.length ρ) i p t
section
variable {K : Kx} {A : Ax} {W : WX} {B H H_0 H' : Hp} {G G_0 : Addr → Prop} {σ : St} {ρ : List S} {i : Nat} {p : List Nat} {u v : V}
theorem Rep.mut (x0 : ∀ {B0 : Hp}, True) {B_0 : Hp} (x : Ext B_0 H_0 G_0 B H G) (P : Rep K A B H G σ ρ) (hv : ValS H σ ρ i p u) (ht : (atP ρ i p).tru = true) (hs : ∀ j q, ρ[i]? ≠ some (.al j q)) :
    ∃ R : Addr → Prop, Own K B H (atP ρ i p) u R ∧ (∀ a, R a → G a) ∧ ∀ (H' : Hp) (t : S) (R' : Addr → Prop), Own K B H' t u R' → t.noT = true → (∀ a, R' a → (R a ∧ H' a ≠ none) ∨ ((H_0 a = none ∨ G_0 a) ∧ ¬ G a ∧ B a = none ∧ H' a ≠ none)) →
      (∀ a o, ¬ R a → H a = some o → H' a = some o) → (∀ a, H a ≠ none → H' a ≠ none) → ∃ G', Rep K A B H' G' σ (repl ρ i p t) ∧ Ext B_0 H_0 G_0 B H' G' := by
  obtain ⟨u', R, v1, v2, ow, r0, hole, P0⟩ := P.take (S.tru_live ht) hs
  obtain rfl := hv.fun v1
  refine ⟨R, ow, r0, fun H' t R' ot nt cR kp al => ?_⟩
  have off : ∀ a, R a → B a = none := fun a r => P.ok.off a (r0 a r)
  have exB : Ex B H' := fun a o e => kp a o (fun r => by rw [off a r] at e; cases e) (P.ok.ex a o e)
  have kp0 : ∀ a o, (G a ∧ ¬ R a) → H a = some o → H' a = some o := fun a o g e => kp a o g.2 e
  have P1 : Rep K A B H' (fun a => G a ∧ ¬ R a) σ (putP (Dl.kill i p.length ρ) i p .no) := P0.frame ⟨exB, fun a g => P.ok.off a g.1, fun a g => al a (P.ok.on a g.1)⟩ (Ex.refl B) kp0
  have hv' : ValS H' σ (putP (Dl.kill i p.length ρ) i p .no) i p u := P0.sval kp0 v2
  have hR' : ∀ a, R' a → ¬ (G a ∧ ¬ R a) ∧ B a = none ∧ H' a ≠ none := fun a r => by
    rcases cR a r with z | z
    · exact ⟨fun g => g.2 z.1, off a z.1, z.2⟩
    · exact ⟨fun g => z.2.1 g.1, z.2.2⟩
  have nt2 : (∀ j q, t ≠ .al j q) ∧ ∀ w j q, t ≠ .gh w j q := by
    constructor
    · intro j q z
      rw [z] at nt
      cases nt
    · intro w j q z
      rw [z] at nt
      cases nt
  have P2 := P1.give hv' hole ot hR' nt2.1 nt2.2
  rw [putP_putP] at P2
  refine ⟨_, P2, x.b, fun a o ng e => ?_, fun a h => x.nw a h, fun a g => ?_, fun a h => al a (x.all a h)⟩
  · refine kp a o (fun r => ?_) (x.keep a o ng e)
    rcases x.own a (r0 a r) with z | z
    · exact ng z
    · rw [z] at e; cases e
  · rcases g with g | r
    · exact x.own a g.1
    · rcases cR a r with z | z
      · exact x.own a (r0 a z.1)
      · exact z.1.symm
/-- a list of data of our own is changed -/
theorem Rep.mutL2 {B_0 : Hp} (x : Ext B_0 H_0 G_0 B H G) (P : Rep K A B H G σ ρ) (hv : ValS H σ ρ i p u) (hs : ∀ j q, ρ[i]? ≠ some (.al j q)) {xs : List D} (e : atP ρ i p = .l xs) : ∃ a vs, u = .ref a ∧ H a = some (.lst vs) ∧ DqAll K.f B vs xs ∧
    ∀ ws ys, DqAll K.f B ws ys → ∃ G', Rep K A B (upd H a (.lst ws)) G' σ (repl ρ i p (.l ys)) ∧ Ext B_0 H_0 G_0 B (upd H a (.lst ws)) G' := by
  obtain ⟨R, ow, r0, k⟩ := P.mut (fun {_} => True.intro) x hv (by rw [e]; rfl) hs
  rw [e] at ow
  obtain ⟨a, vs, rfl, ra, ha, q⟩ := ow.ll
  refine ⟨a, vs, rfl, ha, q, fun ws ys hw => ?_⟩
  have al : ∀ b, H b ≠ none → (upd H a (.lst ws)) b ≠ none := fun b h => by
    by_cases hb : b = a
    · rw [hb, upd_same]; exact fun z => nomatch z
    · rw [upd_ne hb]; exact h
  refine k _ (.l ys) (fun b => b = a) (.ofl rfl upd_same hw) rfl (fun b e => ?_) (fun b o nr h => ?_) al
  · subst e
    exact .inl ⟨ra, by rw [upd_same]; exact fun z => nomatch z⟩
  · rw [upd_ne (fun z => nr (by rw [z]; exact ra))]; exact h
end
/-! ### methods of our own lists -/
abbrev dM := List S → (Z → List S → Prop) → (Exn → List S → Prop) → Prop
/-- e.append(x) -/
def appAt (ρ : List S) (i : Nat) (p : List Nat) (d : D) (Q : Z → List S → Prop) : Prop := match atP ρ i p with
  | .l xs => xs.length < sizeLine ∧ Q (.v .none) (repl ρ i p (.l (xs ++ [d])))
  | _ => False
def dxAppP (dp : dP_) (de : dE) : dX := fun ρ Q _ => dp ρ fun i p => isL (atP ρ i p) ∧ de ρ fun z => match z.own with
  | some d => appAt ρ i p d Q
  | none => False
where isL (s : S) : Prop := match s with
  | .l _ => True
  | .nl _ => True
  | _ => False
/-- the place that a name stands for, later -/
def nmPl (i : Nat) (ρ : List S) (Q : Nat → List Nat → Prop) : Prop := dpVar i ρ Q
def dxAppV (i : Nat) (dx : dX) : dX := fun ρ Q E => dxAppP.isL (nmAt i ρ) ∧ dx ρ (fun z ρ1 => match z.own with
  | some d => nmPl i ρ1 fun j p => appAt ρ1 j p d Q
  | none => False) E
section
variable {K : Kx} {A : Ax} {W : WX} {B H : Hp} {G : Addr → Prop} {σ : St} {ρ : List S} {i : Nat} {p : List Nat} {u v : V}
theorem isL_cases {s : S} (h : dxAppP.isL s) : (∃ xs, s = .l xs) ∨ ∃ cs, s = .nl cs := by
  cases s with
  | l xs => exact .inl ⟨xs, rfl⟩
  | nl cs => exact .inr ⟨cs, rfl⟩
  | _ => exact (show False from h).elim
theorem own_isL {s : S} {R : Addr → Prop} (h : dxAppP.isL s) (o : Own K B H s v R) : ∃ a vs, v = .ref a ∧ H a = some (.lst vs) := by
  rcases isL_cases h with ⟨xs, rfl⟩ | ⟨cs, rfl⟩
  · obtain ⟨a, vs, rfl, _, e, _⟩ := o.ll
    exact ⟨a, vs, rfl, e⟩
  · rw [Own] at o
    obtain ⟨a, vs, N, R, rfl, na, nd, _⟩ := o
    exact ⟨a, vs, rfl, nd.1⟩
theorem tyL {a : Addr} {vs : List V} (h : H a = some (.lst vs)) : tyV K.f "list" (.ref a) H := .inl ⟨rfl, vs, .inl (.inl h)⟩
theorem app_run {B_0 H_0 : Hp} {G_0 : Addr → Prop} {d : D} {Qd : Z → List S → Prop} {Q : VK} (x : Ext B_0 H_0 G_0 B H G) (P : Rep K A B H G σ ρ) (hv : ValS H σ ρ i p u) (hs : ∀ j q, ρ[i]? ≠ some (.al j q)) (hd : Dq K.f B v d) (h : appAt ρ i p d Qd)
    (k : ∀ z w B' H' G' ρ', Ext B_0 H_0 G_0 B' H' G' → Rep K A B' H' G' σ ρ' → ZIx K H_0 G_0 B' H' G' z w → Qd z ρ' → Q w H') : rAppend u [v] H Q := by
  unfold appAt at h
  split at h
  · rename_i xs e
    obtain ⟨a, vs, rfl, ha, q, up⟩ := P.mutL2 x hv hs e
    obtain ⟨G', P', x'⟩ := up (vs ++ [v]) (xs ++ [d]) (dps_app q (.cons hd .nil))
    exact ⟨a, vs, v, rfl, rfl, ha, by rw [dps_len q]; exact h.1, k (.v .none) _ B _ G' _ x' P' .non h.2⟩
  · exact h.elim
theorem sim_xappP {te tx : TE} {dp : dP_} {de : dE} (h1 : SimP K A te dp) (h2 : SimE K A tx de) : SimX K A W (tBM K.f "list" rAppend te (tCons tx tNil)) (dxAppP dp de) := by
  refine ⟨fun {B H G σ ρ Qd Ed Q} P q k kx => ?_⟩
  refine h1.run P q fun i p u B1 H1 g1 hv hs q1 => ?_
  have P1 := P.gr g1
  obtain ⟨u', R, hv', o, _⟩ := P1.at (i := i) (p := p) (by rcases isL_cases q1.1 with ⟨xs, e⟩ | ⟨cs, e⟩ <;> (rw [e]; rfl)) hs
  obtain rfl := hv.fun hv'
  obtain ⟨a, vs, rfl, ha⟩ := own_isL q1.1 o
  refine ⟨tyL ha, h2.run P1 q1.2 fun z v B2 H2 g2 z2 q2 => ?_⟩
  have q2 : (match z.own with
    | some d => appAt ρ i p d Qd
    | none => False) := q2
  cases e : z.own with
  | none => rw [e] at q2; exact q2.elim
  | some d =>
    rw [e] at q2
    obtain ⟨B3, g3, _, hd⟩ := z2.clean g2 e
    exact app_run (Ext.gr (g1.trans g3)) (P1.gr g3) (P1.sval (fun a o _ e => g3.h a o e) hv) hs hd q2 k
theorem nmAt_own (P : Rep K A B H G σ ρ) (ht : (nmAt i ρ).tru = true) : ∃ v R, σ[i]? = some (some v) ∧ Own K B H (nmAt i ρ) v R := by
  unfold nmAt at ht ⊢
  split
  · rename_i j p e1
    rw [e1] at ht
    dsimp only at ht
    split
    · rename_i h
      rw [h] at ht
      cases ht
    · rename_i hj
      obtain ⟨_, v, e2, hv⟩ := P.al i j p e1
      have ht2 : (atP ρ j p).tru = true := by
        split at ht
        · cases ht
        · exact ht
      obtain ⟨u', R, hv', o, _⟩ := P.at (S.tru_live ht2) (fun j' q' z => hj j' q' z)
      obtain rfl := hv.fun hv'
      exact ⟨v, R, e2, o⟩
  · rename_i s hs e1
    rw [e1] at ht
    have ht : s.tru = true := by
      cases s <;> first | rfl | cases ht | exact absurd rfl (hs _ _)
    obtain ⟨v, e2, R, r, o⟩ := P.get e1 (S.tru_live ht)
    exact ⟨v, R, e2, o⟩
  · rename_i e1
    rw [e1] at ht
    cases ht
theorem sim_xappV {tx : TE} {dx : dX} (h2 : SimX K A W tx dx) : SimX K A W (tBM K.f "list" rAppend (tVar i) (tCons tx tNil)) (dxAppV i dx) := by
  refine ⟨fun {B H G σ ρ Qd Ed Q} P q k kx => ?_⟩
  obtain ⟨il, q⟩ := q
  obtain ⟨v0, R0, e0, o0⟩ := nmAt_own P (i := i) (by rcases isL_cases il with ⟨xs, e⟩ | ⟨cs, e⟩ <;> (rw [e]; rfl))
  obtain ⟨a, vs, rfl, ha⟩ := own_isL il o0
  refine ⟨.ref a, e0, tyL ha, h2.run P q (fun z v B2 H2 G2 ρ2 x2 P2 z2 q2 => ?_) kx⟩
  have q2 : (match z.own with
    | some d => nmPl i ρ2 fun j p => appAt ρ2 j p d Qd
    | none => False) := q2
  cases e : z.own with
  | none => rw [e] at q2; exact q2.elim
  | some d =>
    rw [e] at q2
    obtain ⟨B3, ok3, x3, e3, hd⟩ := z2.clean P2.ok x2 e
    have P3 := P2.base ok3 e3
    obtain ⟨v', ev', hq⟩ := (simp_var (K := K) (A := A) (i := i)).run (Q := fun w H' => H' = H2 → rAppend w [v] H2 Q) P3 q2 fun j p w B4 H4 g4 hv hs q4 eH => by
      subst eH
      exact app_run (x3.trans (Ext.gr g4)) (P3.gr g4) hv hs (dp_mono g4.b _ _ hd) q4 k
    rw [e0] at ev'
    cases ev'
    exact hq rfl
end
/-! ### attributes are set -/
/-- e.f = x, f by its number -/
def fldAt (c0 k : Nat) (ρ : List S) (i : Nat) (p : List Nat) (t : S) (Q : List S → Prop) : Prop := match atP ρ i p with
  | .ob c cs => cs.len < 1000 ∧ (match cs.pos k with
    | some n => Q (repl ρ i p (.ob c (cs.set n t)))
    | none => c = c0 ∧ Q (repl ρ i p (.ob c (cs.app (.int (k : Int)) t))))
  | _ => False
def dFldS (c0 k : Nat) (dp : dP_) (dx : dX) : dS := fun E ρ => dx ρ (fun z ρ1 => match z with
  | .v d => dp ρ1 fun i p => fldAt c0 k ρ1 i p (.v d) E.nx
  | .n s => dp ρ1 fun i p => fldAt c0 k ρ1 i p s E.nx
  | .b _ => False) E.ex
theorem app_len : ∀ {cs : SF} {n : D} {s : S}, (cs.app n s).len = cs.len + 1
  | .nil, _, _ => rfl
  | .cons _ _ t, n, s => congrArg (· + 1) (app_len (cs := t) (n := n) (s := s))
theorem app_labs : ∀ {cs : SF} {n : D} {s : S}, (cs.app n s).labs = cs.labs ++ [n]
  | .nil, _, _ => rfl
  | .cons m _ t, n, s => congrArg (m :: ·) (app_labs (cs := t) (n := n) (s := s))
section
variable {K : Kx} {B H : Hp} {t : S} {y : V} {Rt : Addr → Prop}
theorem ownF_set : ∀ {cs : SF} {vs : List V} {n : Nat} {F : Addr → Prop}, OwnF K B H cs vs F → Own K B H t y Rt → (∀ a, Rt a → F a → False) → OwnF K B H (cs.set n t) (vs.set n y) (fun a => F a ∨ Rt a)
  | .nil, vs, n, F, h, _, _ => by
    rw [OwnF] at h
    subst h
    show OwnF K B H .nil _ _
    rw [OwnF]
    rfl
  | .cons m s r, vs, 0, F, h, o, d => by
    rw [OwnF] at h
    obtain ⟨v, ws, R1, R2, rfl, i1, i2, dj, q1, q2⟩ := h
    show OwnF K B H (.cons m t r) (y :: ws) _
    rw [OwnF]
    exact ⟨y, ws, Rt, R2, rfl, fun a z => .inr z, fun a z => .inl (i2 a z), fun a z z2 => d a z (i2 a z2), o, q2⟩
  | .cons m s r, vs, n + 1, F, h, o, d => by
    rw [OwnF] at h
    obtain ⟨v, ws, R1, R2, rfl, i1, i2, dj, q1, q2⟩ := h
    show OwnF K B H (.cons m s (r.set n t)) (v :: ws.set n y) _
    rw [OwnF]
    exact ⟨v, _, R1, _, rfl, fun a z => .inl (i1 a z), fun a z => z.imp (i2 a) fun z => z, fun a z z2 => z2.elim (dj a z) fun z2 => d a z2 (i1 a z), q1, ownF_set q2 o fun a z z2 => d a z (i2 a z2)⟩
theorem ownF_app {lb : D} : ∀ {cs : SF} {vs : List V} {F : Addr → Prop}, OwnF K B H cs vs F → Own K B H t y Rt → (∀ a, Rt a → F a → False) → OwnF K B H (cs.app lb t) (vs ++ [y]) (fun a => F a ∨ Rt a)
  | .nil, vs, F, h, o, d => by
    rw [OwnF] at h
    subst h
    show OwnF K B H (.cons lb t .nil) [y] _
    rw [OwnF]
    exact ⟨y, [], Rt, fun _ => False, rfl, fun a z => .inr z, fun a z => z.elim, fun _ _ z => z, o, by rw [OwnF]⟩
  | .cons m s r, vs, F, h, o, d => by
    rw [OwnF] at h
    obtain ⟨v, ws, R1, R2, rfl, i1, i2, dj, q1, q2⟩ := h
    show OwnF K B H (.cons m s (r.app lb t)) (v :: (ws ++ [y])) _
    rw [OwnF]
    exact ⟨v, _, R1, _, rfl, fun a z => .inl (i1 a z), fun a z => z.imp (i2 a) fun z => z, fun a z z2 => z2.elim (dj a z) fun z2 => d a z2 (i1 a z), q1, ownF_app q2 o fun a z z2 => d a z (i2 a z2)⟩
theorem putF_at {f : Str} {v w : V} : ∀ {fs : List (Str × V)} {n : Nat}, (fs.map (·.1)).Nodup → fs[n]? = some (f, v) → putF f w fs = fs.set n (f, w)
  | [], _, _, h => by simp at h
  | (g, u) :: fs, 0, _, h => by
    cases h
    show (if f = f then (f, w) :: fs else _) = _
    rw [if_pos rfl]
    rfl
  | (g, u) :: fs, n + 1, nd, h => by
    rw [List.map_cons, List.nodup_cons] at nd
    have h : fs[n]? = some (f, v) := h
    have ne : ¬ g = f := fun z => nd.1 (by rw [z]; exact List.mem_map_of_mem (f := (·.1)) (List.mem_of_getElem? h))
    show (if g = f then (g, w) :: fs else (g, u) :: putF f w fs) = (g, u) :: fs.set n (f, w)
    rw [if_neg ne, putF_at nd.2 h]
theorem putF_new {f : Str} {w : V} : ∀ {fs : List (Str × V)}, f ∉ fs.map (·.1) → putF f w fs = fs ++ [(f, w)]
  | [], _ => rfl
  | (g, u) :: fs, h => by
    rw [List.map_cons, List.mem_cons, not_or] at h
    show (if g = f then (g, w) :: fs else (g, u) :: putF f w fs) = (g, u) :: (fs ++ [(f, w)])
    rw [if_neg (fun z => h.1 z.symm), putF_new h.2]
end
section
variable {K : Kx} {A : Ax} {W : WX}
/-- an instance of our own gets an attribute -/
theorem fld_run {B H B_0 H_0 : Hp} {G G_0 : Addr → Prop} {σ : St} {ρ : List S} {i c0 k : Nat} {p : List Nat} {u y : V} {t : S} {Rt : Addr → Prop} {Qd : List S → Prop} {Q : Hp → Prop} (hk : K.nm k ≠ "" ∧ ∀ j, K.nm j = K.nm k → j = k) (hna : NoAttr K.f (K.cl c0) (K.nm k))
    (x : Ext B_0 H_0 G_0 B H G) (P : Rep K A B H G σ ρ) (hv : ValS H σ ρ i p u) (hs : ∀ j q, ρ[i]? ≠ some (.al j q)) (ot : Own K B H t y Rt) (nt : t.noT = true) (rt : ∀ a, Rt a → (H_0 a = none ∨ G_0 a) ∧ ¬ G a ∧ B a = none ∧ H a ≠ none) (h : fldAt c0 k ρ i p t Qd)
    (fin : ∀ H' G' ρ', Ext B_0 H_0 G_0 B H' G' → Rep K A B H' G' σ ρ' → Qd ρ' → Q H') : ∃ a C dx fs, u = .ref a ∧ H a = some (.ins C dx fs) ∧ Cls K.f C ∧ NoAttr K.f C (K.nm k) ∧ fs.length < 1000 ∧ Q (upd H a (.ins C dx (putF (K.nm k) y fs))) := by
  unfold fldAt at h
  split at h
  · rename_i c cs e
    obtain ⟨hl, h⟩ := h
    obtain ⟨R, ow, r0, up⟩ := P.mut (fun {_} => True.intro) x hv (by rw [e]; rfl) hs
    rw [e, Own] at ow
    obtain ⟨a, vs, N, R', rfl, na, nd, hN, hR, q⟩ := ow
    obtain ⟨dx, fs, h1, h2, h3, h4, h5, h6, h7, h8⟩ := nd
    have hlen : fs.length = cs.len := by
      have := ownF_len q
      rw [h4, List.length_map] at this
      exact this
    have al : ∀ w b, H b ≠ none → (upd H a w) b ≠ none := fun w b h => by
      by_cases hb : b = a
      · rw [hb, upd_same]; exact fun z => nomatch z
      · rw [upd_ne hb]; exact h
    have Ra : R a := hN a na
    have fr : ∀ w b o, ¬ N b → H b = some o → (upd H a w) b = some o := fun w b o nb e => by
      rw [upd_ne (fun z => nb (by rw [z]; exact na))]; exact e
    have dj : ∀ b, Rt b → R' b → False := fun b z z2 => (rt b z).2.1 (r0 b (hR b z2).1)
    have djN : ∀ b, Rt b → ¬ N b := fun b z z2 => (rt b z).2.1 (r0 b (hN b z2))
    have go : ∀ (cs' : SF) (vs' : List V) (fs' : List (Str × V)), OwnF K B H cs' vs' (fun b => R' b ∨ Rt b) → vs' = fs'.map (·.2) → cs'.labs.map (labN K) = fs'.map (·.1) → (fs'.map (·.1)).Nodup → (∀ kv ∈ fs', NoAttr K.f (K.cl c) kv.1) → Qd (repl ρ i p (.ob c cs')) → Q (upd H a (.ins (K.cl c) dx fs')) := fun cs' vs' fs' o' e1 e2 e3 e4 q' => by
      obtain ⟨G', P', x'⟩ := up (upd H a (.ins (K.cl c) dx fs')) (.ob c cs') (fun b => N b ∨ (R' b ∨ Rt b)) (by
        rw [Own]
        refine ⟨a, vs', N, fun b => R' b ∨ Rt b, rfl, na, ⟨dx, fs', upd_same, by rw [upd_ne (Ne.symm h3)]; exact h2, h3, e1, ⟨e2, e3⟩, h6, e4, h8⟩, fun b z => .inl z, fun b z => ⟨.inr z, z.elim (fun z => (hR b z).2) (djN b)⟩, ?_⟩
        exact ownF_frame (Ex.refl B) cs' o' (fun _ z => z) fun b o z e => fr _ b o (z.elim (fun z => (hR b z).2) (djN b)) e) rfl
        (fun b z => by
          have on : H b ≠ none → (upd H a (.ins (K.cl c) dx fs')) b ≠ none := al _ b
          rcases z with z | z | z
          · exact .inl ⟨hN b z, on (P.ok.on b (r0 b (hN b z)))⟩
          · exact .inl ⟨(hR b z).1, on (P.ok.on b (r0 b (hR b z).1))⟩
          · exact .inr ⟨(rt b z).1, (rt b z).2.1, (rt b z).2.2.1, on (rt b z).2.2.2⟩)
        (fun b o nr e => fr _ b o (fun z => nr (hN b z)) e) (al _)
      exact fin _ _ _ x' P' q'
    split at h
    · rename_i n en
      obtain ⟨hn, hlab⟩ := pos_lab en
      have e1 : (fs.map (·.1))[n]? = some (K.nm k) := by
        rw [← h5.1, List.getElem?_map, hlab]
        rfl
      rw [List.getElem?_map] at e1
      cases e2 : fs[n]? with
      | none => rw [e2] at e1; cases e1
      | some kv =>
        rw [e2] at e1
        obtain ⟨g, w⟩ := kv
        have e1 : g = K.nm k := Option.some.inj e1
        subst e1
        refine ⟨a, _, dx, fs, rfl, h1, h6, h7 _ (List.mem_of_getElem? e2), by rw [hlen]; exact hl, ?_⟩
        rw [putF_at h5.2 e2]
        have m1 : (fs.set n (K.nm k, y)).map (·.1) = fs.map (·.1) := by
          rw [List.map_set]
          apply List.ext_getElem?
          intro j
          by_cases hj : n = j
          · subst hj
            have hi : n < (fs.map (·.1)).length := by rw [List.length_map]; exact (List.getElem?_eq_some_iff.mp e2).1
            rw [List.getElem?_set_self hi, List.getElem?_map, e2]
            rfl
          · rw [List.getElem?_set_ne hj]
        refine go (cs.set n t) (vs.set n y) _ (ownF_set q ot dj) (by rw [h4, List.map_set]) (by rw [SF.set_labs, m1]; exact h5.1) (by rw [m1]; exact h5.2) (fun kv hkv => ?_) h
        have : kv.1 ∈ (fs.set n (K.nm k, y)).map (·.1) := List.mem_map_of_mem hkv
        rw [m1] at this
        obtain ⟨kv', h', e'⟩ := List.mem_map.mp this
        rw [← e']
        exact h7 _ h'
    · rename_i en
      have hnot : K.nm k ∉ fs.map (·.1) := fun hm => by
        rw [← h5.1] at hm
        obtain ⟨lb, hlb, elb⟩ := List.mem_map.mp hm
        have : lb = PyData.int (k : Int) := by
          cases lb with
          | int j =>
            cases j with
            | ofNat j =>
              have : j = k := hk.2 j elb
              subst this
              rfl
            | negSucc j => exact absurd elb.symm hk.1
          | _ => exact absurd elb.symm hk.1
        exact pos_no en (this ▸ hlb)
      obtain ⟨rfl, h⟩ := h
      have nA := hna
      refine ⟨a, _, dx, fs, rfl, h1, h6, nA, by rw [hlen]; exact hl, ?_⟩
      rw [putF_new hnot]
      refine go (cs.app (.int (k : Int)) t) (vs ++ [y]) _ (ownF_app q ot dj) (by rw [h4, List.map_append]; rfl) (by rw [app_labs, List.map_append, List.map_append, h5.1]; rfl) ?_ (fun kv hkv => ?_) h
      · rw [List.map_append]
        exact List.nodup_append.mpr ⟨h5.2, by simp, fun x hx y hy e => by
          rw [List.mem_singleton.mp hy] at e
          have e : x = K.nm k := e
          rw [e] at hx
          exact hnot hx⟩
      · rcases List.mem_append.mp hkv with z | z
        · exact h7 _ z
        · rw [List.mem_singleton.mp z]; exact nA
  · exact h.elim
theorem sim_fldS {te tx : TE} {dp : dP_} {dx : dX} {c0 k : Nat} {f : Str} (hf : f = K.nm k) (hk : K.nm k ≠ "" ∧ ∀ j, K.nm j = K.nm k → j = k) (hna : NoAttr K.f (K.cl c0) (K.nm k)) (h1 : SimP K A te dp) (h2 : SimX K A W tx dx) : SimS K A W (sFld K.f te tx f) (dFldS c0 k dp dx) := by
  subst hf
  refine ⟨fun {B H G σ ρ D E} P q k1 k2 k3 k4 k5 => ?_⟩
  refine h2.run P q (fun z y B1 H1 G1 ρ1 x1 P1 z1 q1 => ?_) (wat k5)
  have fin : ∀ (t : S) (Rt : Addr → Prop), (∀ {B2 H2 : Hp}, Gr B1 H1 B2 H2 → Own K B2 H2 t y Rt ∧ ∀ a, Rt a → (H a = none ∨ G a) ∧ ¬ G1 a ∧ B2 a = none ∧ H2 a ≠ none) → t.noT = true → dp ρ1 (fun i p => fldAt c0 k ρ1 i p t E.nx) → te σ H1 fun x H2 => ∃ a C dx fs, x = .ref a ∧ H2 a = some (.ins C dx fs) ∧ Cls K.f C ∧ NoAttr K.f C (K.nm k) ∧ fs.length < 1000 ∧ D.nx σ (upd H2 a (.ins C dx (putF (K.nm k) y fs))) := fun t Rt ho nt q => by
    refine h1.run P1 q fun i p u B2 H2 g2 hv hs q2 => ?_
    obtain ⟨o2, r2⟩ := ho g2
    exact fld_run (Q := fun H' => D.nx σ H') hk hna (x1.trans (Ext.gr g2)) (P1.gr g2) hv hs o2 nt r2 q2 fun H' G' ρ' x' P' q' => k1 _ _ _ _ _ x' P' q'
  cases z with
  | v d => exact fin (.v d) (fun _ => False) (fun g => ⟨.ofv (dp_mono g.b _ _ z1), fun _ z => z.elim⟩) rfl q1
  | b s => exact (show False from q1).elim
  | n s =>
    obtain ⟨R, r, tr, o⟩ := z1
    refine fin s R (fun {B2 H2} g => ⟨o.frame g.b fun a o _ e => g.h a o e, fun a ra => ⟨(r a ra).1, (r a ra).2.1, ?_, g.h.fwd (r a ra).2.2.2⟩⟩) (S.tru_noT tr) q1
    exact Classical.byContradiction fun z => (g.nw a z).elim (fun q => q (r a ra).2.2.1) (r a ra).2.2.2
end
end Dl

set_option maxHeartbeats 2000000
namespace Dl
open PySem L2
/-! ### more operations by data -/
def dLt (x y : Z) (Q : Z → Prop) : Prop := match x.data, y.data with
  | some (.int i), some (.int j) => Q (.v (.bool (decide (i < j))))
  | some (.str i), some (.str j) => Q (.v (.bool (decide (i.cps.toList < j.cps.toList))))
  | _, _ => False
def rLtA : R2 := fun x y H Q => (rI0 fun i j => .bl (decide (i < j))) x y H Q ∨ ∃ i j, x = .str i ∧ y = .str j ∧ Q (.bl (decide (i.cps.toList < j.cps.toList))) H
theorem op_ltA {X : Cx} : OpR X (compareOp .Lt) rLtA := OpR.or op_lt op_lt_str
abbrev dSub := dI fun i j => .int (i - j)
abbrev dMul := dIC CMul fun i j => .int (i * j)
abbrev dFdiv := dIC CDiv fun i j => .int (i / j)
abbrev dMod := dIC (fun _ j => 0 < j) fun i j => .int (i % j)
abbrev dPow := dIC CPow fun i j => .int (i ^ j.toNat)
abbrev dLe := dI fun i j => .bool (decide (i ≤ j))
abbrev dGt := dI fun i j => .bool (decide (j < i))
abbrev dGe := dI fun i j => .bool (decide (j ≤ i))
abbrev dAddI := dI fun i j => .int (i + j)
def dNeg (x : Z) (Q : Z → Prop) : Prop := match x.data with
  | some (.int i) => Q (.v (.int (-i)))
  | _ => False
def flatD : D → Bool
  | .list _ => false | .tuple _ => false | .dict _ => false | _ => true
def vOf : D → V
  | .none => .non | .bool b => .bl b | .int i => .int i | .str s => .str s | _ => .non
def dIn (neg : Bool) (x y : Z) (Q : Z → Prop) : Prop := match x.data, y.data with
  | some d, some (.list xs) => flatD d = true ∧ xs.all flatD = true ∧ Q (.v (.bool (if neg then !inV (vOf d) (xs.map vOf) else inV (vOf d) (xs.map vOf))))
  | some d, some (.tuple xs) => flatD d = true ∧ xs.all flatD = true ∧ Q (.v (.bool (if neg then !inV (vOf d) (xs.map vOf) else inV (vOf d) (xs.map vOf))))
  | _, _ => False
section
variable {K : Kx} {A : Ax}
theorem simR_lt : SimR K rLtA dLt := by
  intro B H G H_0 x y v w Qd Q ok zx zy h k
  unfold dLt at h
  split at h
  · rename_i i j e1 e2
    exact .inl ⟨i, j, dp_int (zx.dp ok.ex e1), dp_int (zy.dp ok.ex e2), k (.v (.bool _)) _ B H (Gr.refl ok.ex) (.bl _) h⟩
  · rename_i i j e1 e2
    exact .inr ⟨i, j, dp_str (zx.dp ok.ex e1), dp_str (zy.dp ok.ex e2), k (.v (.bool _)) _ B H (Gr.refl ok.ex) (.bl _) h⟩
  · exact h.elim
theorem simU_neg : SimU K (rU fun i => .int (-i)) dNeg := by
  intro B H G H_0 x v Qd Q ok zx h k
  unfold dNeg at h
  split at h
  · rename_i i e
    exact ⟨i, dp_int (zx.dp ok.ex e), k (.v (.int _)) _ B H (Gr.refl ok.ex) (.int _) h⟩
  · exact h.elim
theorem flat_of {H : Hp} {v : V} {d : D} (h : Dq K H v d) (f : flatD d = true) : v = vOf d ∧ flatV v = true := by
  cases h with
  | non => exact ⟨rfl, rfl⟩
  | bl b => exact ⟨rfl, rfl⟩
  | int i => exact ⟨rfl, rfl⟩
  | str x => exact ⟨rfl, rfl⟩
  | lst _ _ => cases f
  | tup _ _ => cases f
  | scr _ _ => cases f
  | dic _ _ => cases f
  | dit _ _ => cases f
theorem flats_of {H : Hp} : ∀ {vs : List V} {ds : List D}, DqAll K H vs ds → ds.all flatD = true → vs = ds.map vOf ∧ vs.all flatV = true
  | _, _, .nil, _ => ⟨rfl, rfl⟩
  | _, _, .cons (d := d) (ds := ds) a t, f => by
    rw [List.all_cons, Bool.and_eq_true] at f
    obtain ⟨e1, f1⟩ := flat_of a f.1
    obtain ⟨e2, f2⟩ := flats_of t f.2
    refine ⟨?_, ?_⟩
    · rw [List.map_cons, ← e1, ← e2]
    · rw [List.all_cons, f1, f2]; rfl
theorem simR_in {neg : Bool} : SimR K (rIn K neg) (dIn neg) := by
  intro B H G H_0 x y v w Qd Q ok zx zy h k
  unfold dIn at h
  split at h
  · rename_i d xs e1 e2
    obtain ⟨a, vs, rfl, r, q⟩ := zy.items ok (items_of e2)
    obtain ⟨ev, fv⟩ := flat_of (zx.dp ok.ex e1) h.1
    obtain ⟨es, fs⟩ := flats_of q h.2.1
    refine ⟨a, vs, rfl, .inl r, fv, fs, ?_⟩
    rw [ev, es]
    exact k (.v (.bool _)) _ B H (Gr.refl ok.ex) (.bl _) h.2.2
  · rename_i d xs e1 e2
    obtain ⟨a, vs, rfl, r, _, q⟩ := zy.mems ok (mems_of e2)
    obtain ⟨ev, fv⟩ := flat_of (zx.dp ok.ex e1) h.1
    obtain ⟨es, fs⟩ := flats_of q h.2.1
    refine ⟨a, vs, rfl, .inr r, fv, fs, ?_⟩
    rw [ev, es]
    exact k (.v (.bool _)) _ B H (Gr.refl ok.ex) (.bl _) h.2.2
  · exact h.elim
end

abbrev rSubI : R2 := rI0 fun i j => .int (i - j)
abbrev rMulI : R2 := rI CMul fun i j => .int (i * j)
abbrev rFdivI : R2 := rI CDiv fun i j => .int (i / j)
abbrev rModI : R2 := rI (fun _ j => 0 < j) fun i j => .int (i % j)
abbrev rPowI : R2 := rI CPow fun i j => .int (i ^ j.toNat)
abbrev rLeI : R2 := rI0 fun i j => .bl (decide (i ≤ j))
abbrev rGtI : R2 := rI0 fun i j => .bl (decide (j < i))
abbrev rGeI : R2 := rI0 fun i j => .bl (decide (j ≤ i))
abbrev rNegI : V → Hp → VK → Prop := rU fun i => .int (-i)
/-! ### rules: syntax, reading by V, reading by data -/
section
variable {X : Cx} {A : Ax} {a b c e : Expr} {es : List Expr} {ta tb tc te : TE} {da db dc de : dE} {pos : Pos}
theorem ce_var (i : Nat) {x : Str} {pos : Pos} (hN : X.N[i]? = some x := by rfl) (hv : Vis X.env.scope x := by first | exact Or.inl rfl | exact Or.inr (Or.inl rfl) | exact Or.inr (Or.inr rfl)) (hd : (x == ("__debug__" : Str)) = false := by decide)
    (hcd : (x == ("__classdict__" : Str)) = false := by decide) : CE X A (.Name x pos) (tVar i) (dVar i) := ⟨pe_var hN hv hd hcd, sim_var⟩
theorem ce_int {i : Int} {j pos} : CE X A (.Constant (.int i) j pos) (tC (.int i)) (dK (.int i)) := ⟨pe_int, sim_c fun _ => .int i⟩
theorem ce_bl {b j pos} : CE X A (.Constant (.bool b) j pos) (tC (.bl b)) (dK (.bool b)) := ⟨pe_bl, sim_c fun _ => .bl b⟩
theorem ce_non {j pos} : CE X A (.Constant .none j pos) (tC .non) (dK .none) := ⟨pe_non, sim_c fun _ => .non⟩
theorem ce_str {x j pos} : CE X A (.Constant (.str x) j pos) (tC (.str x)) (dK (.str x)) := ⟨pe_str, sim_c fun _ => .str x⟩
/-- a module's constant -/
theorem ce_glob {x : Str} {v : V} {d : D} {u : Value} (hg : Gl X x) (hm : X.mg x = some u) (r : RelV v u) (hd : ∀ H, Dq X.K H v d) (hdb : (x == ("__debug__" : Str)) = false := by decide) : CE X A (.Name x pos) (tC v) (dK d) := ⟨pe_glob hg hm r hdb, sim_c hd⟩
theorem ce_op {op : Operator} {r : R2} {dr : Z → Z → (Z → Prop) → Prop} (ho : OpR X (binaryOp op) r) (hr : SimR (kx A X) r dr) (ha : CE X A a ta da) (hb : CE X A b tb db) : CE X A (.BinOp a op b pos) (tOp r ta tb) (dOp dr da db) := ⟨pe_op ho ha.pe hb.pe, sim_op hr ha.sim hb.sim⟩
theorem ce_add (ha : CE X A a ta da) (hb : CE X A b tb db) : CE X A (.BinOp a .Add b pos) (tOp (rAny X.K) ta tb) (dOp dAdd da db) := ce_op op_any simR_add ha hb
theorem ce_sub (ha : CE X A a ta da) (hb : CE X A b tb db) : CE X A (.BinOp a .Sub b pos) (tOp rSubI ta tb) (dOp dSub da db) := ce_op op_sub (simR_I0 fun _ _ _ => .int _) ha hb
theorem ce_mul (ha : CE X A a ta da) (hb : CE X A b tb db) : CE X A (.BinOp a .Mult b pos) (tOp rMulI ta tb) (dOp dMul da db) := ce_op op_mul (simR_I fun _ _ _ => .int _) ha hb
theorem ce_fdiv (ha : CE X A a ta da) (hb : CE X A b tb db) : CE X A (.BinOp a .FloorDiv b pos) (tOp rFdivI ta tb) (dOp dFdiv da db) := ce_op op_fdiv (simR_I fun _ _ _ => .int _) ha hb
theorem ce_mod (ha : CE X A a ta da) (hb : CE X A b tb db) : CE X A (.BinOp a .Mod b pos) (tOp rModI ta tb) (dOp dMod da db) := ce_op op_mod (simR_I fun _ _ _ => .int _) ha hb
theorem ce_pow (ha : CE X A a ta da) (hb : CE X A b tb db) : CE X A (.BinOp a .Pow b pos) (tOp rPowI ta tb) (dOp dPow da db) := ce_op op_pow (simR_I fun _ _ _ => .int _) ha hb
theorem ce_neg (ha : CE X A a ta da) : CE X A (.UnaryOp .USub a pos) (tUn rNegI ta) (dUn dNeg da) := ⟨pe_un un_neg ha.pe, sim_un simU_neg ha.sim⟩
theorem ce_cmp {op : CmpOp} {r : R2} {dr : Z → Z → (Z → Prop) → Prop} (ho : OpR X (compareOp op) r) (hr : SimR (kx A X) r dr) (ha : CE X A a ta da) (hb : CE X A b tb db) (hm : behindInMarks op b = false) : CE X A (.Compare a [op] [b] pos) (tOp r ta tb) (dOp dr da db) := ⟨pe_cmpR ho ha.pe hb.pe hm, sim_op hr ha.sim hb.sim⟩
theorem ct_cmp {op : CmpOp} {r : R2} {dr : Z → Z → (Z → Prop) → Prop} (ho : OpR X (compareOp op) r) (hr : SimR (kx A X) r dr) (ha : CE X A a ta da) (hb : CE X A b tb db) (hm : behindInMarks op b = false) : CT X A (.Compare a [op] [b] pos) (tTest (tOp r ta tb)) (dTst (dOp dr da db)) := ⟨pt_cmpR ho ha.pe hb.pe hm, sim_tst (sim_op hr ha.sim hb.sim)⟩
theorem ce_lt (ha : CE X A a ta da) (hb : CE X A b tb db) : CE X A (.Compare a [.Lt] [b] pos) (tOp rLtA ta tb) (dOp dLt da db) := ce_cmp op_ltA simR_lt ha hb (nomark _)
theorem ce_le (ha : CE X A a ta da) (hb : CE X A b tb db) : CE X A (.Compare a [.LtE] [b] pos) (tOp rLeI ta tb) (dOp dLe da db) := ce_cmp op_le (simR_I0 fun _ _ _ => .bl _) ha hb (nomark _)
theorem ce_gt (ha : CE X A a ta da) (hb : CE X A b tb db) : CE X A (.Compare a [.Gt] [b] pos) (tOp rGtI ta tb) (dOp dGt da db) := ce_cmp op_gt (simR_I0 fun _ _ _ => .bl _) ha hb (nomark _)
theorem ce_ge (ha : CE X A a ta da) (hb : CE X A b tb db) : CE X A (.Compare a [.GtE] [b] pos) (tOp rGeI ta tb) (dOp dGe da db) := ce_cmp op_ge (simR_I0 fun _ _ _ => .bl _) ha hb (nomark _)
theorem ce_eq (hu : X.A.units + 64 < cLine) (ha : CE X A a ta da) (hb : CE X A b tb db) : CE X A (.Compare a [.Eq] [b] pos) (tOp (rEqA X.K) ta tb) (dOp dEq da db) := ce_cmp (op_eqA hu) simR_eq ha hb (nomark _)
theorem ce_ne (hu : X.A.units + 64 < cLine) (ha : CE X A a ta da) (hb : CE X A b tb db) : CE X A (.Compare a [.NotEq] [b] pos) (tOp (rNeA X.K) ta tb) (dOp dNe da db) := ce_cmp (op_neA hu) simR_ne ha hb (nomark _)
theorem ce_is (ha : CE X A a ta da) (hb : CE X A b tb db) : CE X A (.Compare a [.Is] [b] pos) (tOp rIsA ta tb) (dOp (dIs false) da db) := ce_cmp op_isA simR_is ha hb (nomark _)
theorem ce_isnot (ha : CE X A a ta da) (hb : CE X A b tb db) : CE X A (.Compare a [.IsNot] [b] pos) (tOp rIsA' ta tb) (dOp (dIs true) da db) := ce_cmp op_isA' simR_isnot ha hb (nomark _)
theorem ce_in (ha : CE X A a ta da) (hb : CE X A b tb db) (hm : behindInMarks .In b = false := by rfl) : CE X A (.Compare a [.In] [b] pos) (tOp (rIn X.K false) ta tb) (dOp (dIn false) da db) := ce_cmp op_in_seq simR_in ha hb hm
theorem ce_notin (ha : CE X A a ta da) (hb : CE X A b tb db) (hm : behindInMarks .NotIn b = false := by rfl) : CE X A (.Compare a [.NotIn] [b] pos) (tOp (rIn X.K true) ta tb) (dOp (dIn true) da db) := ce_cmp op_notIn_seq simR_in ha hb hm
theorem ct_lt (ha : CE X A a ta da) (hb : CE X A b tb db) : CT X A (.Compare a [.Lt] [b] pos) (tTest (tOp rLtA ta tb)) (dTst (dOp dLt da db)) := ct_cmp op_ltA simR_lt ha hb (nomark _)
theorem ct_le (ha : CE X A a ta da) (hb : CE X A b tb db) : CT X A (.Compare a [.LtE] [b] pos) (tTest (tOp rLeI ta tb)) (dTst (dOp dLe da db)) := ct_cmp op_le (simR_I0 fun _ _ _ => .bl _) ha hb (nomark _)
theorem ct_gt (ha : CE X A a ta da) (hb : CE X A b tb db) : CT X A (.Compare a [.Gt] [b] pos) (tTest (tOp rGtI ta tb)) (dTst (dOp dGt da db)) := ct_cmp op_gt (simR_I0 fun _ _ _ => .bl _) ha hb (nomark _)
theorem ct_ge (ha : CE X A a ta da) (hb : CE X A b tb db) : CT X A (.Compare a [.GtE] [b] pos) (tTest (tOp rGeI ta tb)) (dTst (dOp dGe da db)) := ct_cmp op_ge (simR_I0 fun _ _ _ => .bl _) ha hb (nomark _)
theorem ct_eq (hu : X.A.units + 64 < cLine) (ha : CE X A a ta da) (hb : CE X A b tb db) : CT X A (.Compare a [.Eq] [b] pos) (tTest (tOp (rEqA X.K) ta tb)) (dTst (dOp dEq da db)) := ct_cmp (op_eqA hu) simR_eq ha hb (nomark _)
theorem ct_ne (hu : X.A.units + 64 < cLine) (ha : CE X A a ta da) (hb : CE X A b tb db) : CT X A (.Compare a [.NotEq] [b] pos) (tTest (tOp (rNeA X.K) ta tb)) (dTst (dOp dNe da db)) := ct_cmp (op_neA hu) simR_ne ha hb (nomark _)
theorem ct_is (ha : CE X A a ta da) (hb : CE X A b tb db) : CT X A (.Compare a [.Is] [b] pos) (tTest (tOp rIsA ta tb)) (dTst (dOp (dIs false) da db)) := ct_cmp op_isA simR_is ha hb (nomark _)
theorem ct_isnot (ha : CE X A a ta da) (hb : CE X A b tb db) : CT X A (.Compare a [.IsNot] [b] pos) (tTest (tOp rIsA' ta tb)) (dTst (dOp (dIs true) da db)) := ct_cmp op_isA' simR_isnot ha hb (nomark _)
theorem ct_in (ha : CE X A a ta da) (hb : CE X A b tb db) (hm : behindInMarks .In b = false := by rfl) : CT X A (.Compare a [.In] [b] pos) (tTest (tOp (rIn X.K false) ta tb)) (dTst (dOp (dIn false) da db)) := ct_cmp op_in_seq simR_in ha hb hm
theorem ct_notin (ha : CE X A a ta da) (hb : CE X A b tb db) (hm : behindInMarks .NotIn b = false := by rfl) : CT X A (.Compare a [.NotIn] [b] pos) (tTest (tOp (rIn X.K true) ta tb)) (dTst (dOp (dIn true) da db)) := ct_cmp op_notIn_seq simR_in ha hb hm
theorem ct_tru {te : TE} {de : dE} (h : CE X A e te de) (he : ∀ whole, isTrue e X.env whole = (do let v ← whole; standAt e.pos; holding [v] (truthy v)) := by intro _; rfl) : CT X A e (fun σ H Q => te σ H fun x H' => ∃ k, TruV X.K x H' k ∧ Q k H') (dTru de) := ⟨pt_truth h.pe he, sim_tru h.sim⟩
theorem ct_not {t : TT} {d : dT} (h : CT X A a t d) : CT X A (.UnaryOp .Not a pos) (tNot t) (dNotT d) := ⟨pt_not h.pt, sim_notT h.sim⟩
theorem ct_of_w {t : TT} {d : dT} (h : CW X A e t d) : CT X A e t d := ⟨h.pw.pt, h.sim⟩
theorem cw_and1 {t : TT} {d : dT} (h : CT X A a t d) : CW X A (.BoolOp .And [a] pos) t d := ⟨pw_and1 h.pt, h.sim⟩
theorem cw_or1 {t : TT} {d : dT} (h : CT X A a t d) : CW X A (.BoolOp .Or [a] pos) t d := ⟨pw_or1 h.pt, h.sim⟩
theorem cw_and {t u : TT} {d d' : dT} {rest : List Expr} (h : CT X A a t d) (h' : CW X A (.BoolOp .And (b :: rest) pos) u d') : CW X A (.BoolOp .And (a :: b :: rest) pos) (tAnd t u) (dAndT d d') := ⟨pw_and h.pt h'.pw, sim_andT h.sim h'.sim⟩
theorem cw_or {t u : TT} {d d' : dT} {rest : List Expr} (h : CT X A a t d) (h' : CW X A (.BoolOp .Or (b :: rest) pos) u d') : CW X A (.BoolOp .Or (a :: b :: rest) pos) (tOr t u) (dOrT d d') := ⟨pw_or h.pt h'.pw, sim_orT h.sim h'.sim⟩
theorem ce_one {op} (h : CE X A a ta da) : CE X A (.BoolOp op [a] pos) ta da := ⟨pe_one h.pe, h.sim⟩
theorem ce_and {rest : List Expr} (ha : CE X A a ta da) (hb : CE X A (.BoolOp .And (b :: rest) pos) tb db) : CE X A (.BoolOp .And (a :: b :: rest) pos) (tAndV ta tb) (dAndE da db) := ⟨pe_and ha.pe hb.pe, sim_andE ha.sim hb.sim⟩
theorem ce_or {rest : List Expr} (ha : CE X A a ta da) (hb : CE X A (.BoolOp .Or (b :: rest) pos) tb db) : CE X A (.BoolOp .Or (a :: b :: rest) pos) (tOrV ta tb) (dOrE da db) := ⟨pe_or ha.pe hb.pe, sim_orE ha.sim hb.sim⟩
theorem ce_not (ha : CE X A a ta da) : CE X A (.UnaryOp .Not a pos) (tNotV ta) (dNotE da) := ⟨pe_not ha.pe, sim_notE ha.sim⟩
theorem ce_if {t : TT} {d : dT} (hc : CT X A c t d) (ha : CE X A a ta da) (hb : CE X A b tb db) : CE X A (.IfExp c a b pos) (tIf t ta tb) (dIfE d da db) := ⟨pe_ifExp hc.pt ha.pe hb.pe, sim_ifE hc.sim ha.sim hb.sim⟩
theorem ce_ix (ha : CE X A a ta da) (hb : CE X A b tb db) (hs : PlainIx b := by exact fun _ _ => rfl) : CE X A (.Subscript a b pos) (tOp (rIx X.K) ta tb) (dOp dIx da db) := ⟨pe_ix ix_seq ha.pe hb.pe hs, sim_op simR_ix ha.sim hb.sim⟩
theorem ce_slice {lo hi : Option Expr} {tl th : TO} {dl dh : dO} {p2 : Pos} (ha : CE X A a ta da) (hl : CO X A lo tl dl) (hh : CO X A hi th dh) : CE X A (.Subscript a (.Slice lo hi none p2) pos) (tSl (rSl X.K) ta tl th) (dSl da dl dh) := ⟨pe_slice sl_any ha.pe hl.po hh.po, sim_sl ha.sim hl.sim hh.sim⟩
theorem ca_nil : CA X A [] tNil dNil := ⟨pa_nil, sim_nil⟩
theorem ca_cons {t : TA} {d : dA} (ha : CE X A e te de) (hr : CA X A es t d) (hs : starEach (e :: es) X.env = (false, eval e X.env) :: starEach es X.env := by rfl) : CA X A (e :: es) (tCons te t) (dCons de d) := ⟨pa_cons ha.pe hr.pa hs, sim_cons ha.sim hr.sim⟩
theorem cc_nil : CC X A [] tNil dCnil := ⟨pa_nil, sim_cnil⟩
theorem cc_cons {t : TA} {d : dC} (ha : CE X A e te de) (hr : CC X A es t d) (hs : starEach (e :: es) X.env = (false, eval e X.env) :: starEach es X.env := by rfl) : CC X A (e :: es) (tCons te t) (dCcons de d) := ⟨pa_cons ha.pe hr.pa hs, sim_ccons ha.sim hr.sim⟩
theorem ce_tup {t : TA} {d : dC} {x1} (h : CC X A es t d) : CE X A (.Tuple es x1 pos) (tTup t) (dTupD d) := ⟨pe_tup h.pa, sim_tup h.sim⟩
theorem ce_lst {t : TA} {d : dC} (h : CC X A es t d) : CE X A (.List es pos) (tLst t) (dLstD d) := ⟨pe_lst h.pa, sim_lst h.sim⟩
/-- built-in functions and classes by name -/
theorem ce_cb {x : Str} {id : String} {r : List V → Hp → VK → Prop} {dr : List Z → (Z → Prop) → Prop} {t : TA} {d : dA} {p : Pos} (hc : CallR X (.builtin id) r) (hr : SimL (kx A X) r dr) (hv : bootBuiltins x = some (.builtin id)) (hm : X.mg x = none) (ha : CA X A (e :: es) t d)
    (hg : Gl X x := by rfl) (hn : x ≠ "__name__" := by decide) (hdb : (x == ("__debug__" : Str)) = false := by decide)
    (he : starEach (e :: es) X.env = (false, eval e X.env) :: starEach es X.env := by rfl) (hpl : (backTo pos (starEach es X.env)).any (·.1) = false := by rfl) : CE X A (.Call (.Name x p) (e :: es) [] pos) (tCB r t) (dCall dr d) :=
  ⟨pe_callB hc hg hm hv ha.pa hn hdb he hpl, sim_cb hr ha.sim⟩
theorem ce_ct {x : Str} {T : String} {r : List V → Hp → VK → Prop} {dr : List Z → (Z → Prop) → Prop} {t : TA} {d : dA} {p : Pos} (hc : CallR X (.type T) r) (hr : SimL (kx A X) r dr) (hv : bootBuiltins x = some (.type T)) (hm : X.mg x = none) (ha : CA X A (e :: es) t d)
    (hg : Gl X x := by rfl) (hn : x ≠ "__name__" := by decide) (hdb : (x == ("__debug__" : Str)) = false := by decide)
    (he : starEach (e :: es) X.env = (false, eval e X.env) :: starEach es X.env := by rfl) (hpl : (backTo pos (starEach es X.env)).any (·.1) = false := by rfl) : CE X A (.Call (.Name x p) (e :: es) [] pos) (tCB r t) (dCall dr d) :=
  ⟨pe_callTy hc hg hm hv ha.pa hn hdb he hpl, sim_cb hr ha.sim⟩
theorem bt_len : bootBuiltins "len" = some (.builtin "len") := by decide +kernel
theorem bt_abs : bootBuiltins "abs" = some (.builtin "abs") := by decide +kernel
theorem bt_max : bootBuiltins "max" = some (.builtin "max") := by decide +kernel
theorem bt_min : bootBuiltins "min" = some (.builtin "min") := by decide +kernel
theorem bt_isi : bootBuiltins "isinstance" = some (.builtin "isinstance") := by decide +kernel
theorem bt_int : bootBuiltins "int" = some (.type "int") := by decide +kernel
theorem bt_str : bootBuiltins "str" = some (.type "str") := by decide +kernel
theorem bt_bool : bootBuiltins "bool" = some (.type "bool") := by decide +kernel
theorem bt_list : bootBuiltins "list" = some (.type "list") := by decide +kernel
theorem bt_tuple : bootBuiltins "tuple" = some (.type "tuple") := by decide +kernel
theorem bt_dict : bootBuiltins "dict" = some (.type "dict") := by decide +kernel
theorem ce_isi {y : Str} {ty : String} {p p2 : Pos} (hi : X.mg "isinstance" = none) (hv : bootBuiltins y = some (.type ty)) (hm : X.mg y = none) (ha : CE X A e te de) (hg : Gl X "isinstance" := by rfl) (hg2 : Gl X y := by rfl) (hn : y ≠ "__name__" := by decide) (hdb : (y == ("__debug__" : Str)) = false := by decide)
    (h1 : starEach [e, Expr.Name y p2] X.env = (false, eval e X.env) :: starEach [Expr.Name y p2] X.env := by rfl) (h2 : starEach [Expr.Name y p2] X.env = (false, eval (Expr.Name y p2) X.env) :: starEach [] X.env := by rfl) (hpl : (backTo pos (starEach [Expr.Name y p2] X.env)).any (·.1) = false := by rfl) :
    CE X A (.Call (.Name "isinstance" p) [e, .Name y p2] [] pos) (tCB (rIsi X.K) (tCons te (tCons (tC (.ty ty)) tNil))) (dIsi ty de) :=
  ⟨pe_callB call_isi hg hi bt_isi (pa_cons ha.pe (pa_cons (pe_bltn hg2 hm hv rfl hn hdb) pa_nil h2) h1) (by decide) (by decide) h1 hpl, sim_isi ha.sim⟩
/-- a def of the text -/
theorem ce_def {k : Nat} {f : Addr} {fd : FuncData} {ps : List Str} {F : FD} {dvs : List V} {dds : List D} {ds : List Value} {x : Str} {p : Pos} {t : TA} {d : dC} (hm' : Mon F) (G : FnOk X.prog X.w X.K X.mg X.base CX0 k f fd ps (spV (kx A X) F)) (hr : Room k X.A) (hm : X.mg x = some (.ref f)) (hk : PySem.W.keepIn X.K (.ref f) = true) (hb : Binds X.K fd ps ds) (hd : Vals dvs ds)
    (hdd : ∀ B, DqAll X.K B dvs dds) (ha : CC X A (e :: es) t d) (hg : Gl X x := by rfl) (hdb : (x == ("__debug__" : Str)) = false := by decide) (he : starEach (e :: es) X.env = (false, eval e X.env) :: starEach es X.env := by rfl) (hpl : (backTo pos (starEach es X.env)).any (·.1) = false := by rfl) :
    CE X A (.Call (.Name x p) (e :: es) [] pos) (tCall (spV (kx A X) F) dvs E0 t) (dCallF F dds d) := ⟨pe_call G hr hg hm hk hb hd pass0 ha.pa hdb he hpl, sim_call hm' hdd ha.sim⟩
/-! comprehensions -/
theorem ce_lc {elt tg iter : Expr} {ifs : List Expr} {scope : Scope} {own : List (Str × Nat)} {wi : TI} {di : dI_} {js : List Nat} {g : TG} {dg : dG} {tt : TT} {dt : dT} {te : TE} {de : dE} (hc : X.calm = true) (hN : X.N.Nodup) (hi : CI X A tg iter wi di) (ok : BlkOk X.N X.env.scope scope own)
    (hg : ∀ (s : Shared) (H : Hp) (C : Addr) (cl : List (Str × Addr)) (fp : List Addr), CG (X.blk s H scope (compEnvC scope cl C X.env) fp) A tg js g dg) (ht : ∀ (s : Shared) (H : Hp) (C : Addr) (cl : List (Str × Addr)) (fp : List Addr), PTs (X.blk s H scope (compEnvC scope cl C X.env) fp) ifs tt ∧ SimT (kx A X) A tt dt)
    (he : ∀ (s : Shared) (H : Hp) (C : Addr) (cl : List (Str × Addr)) (fp : List Addr), CE (X.blk s H scope (compEnvC scope cl C X.env) fp) A elt te de) (hj : ∀ j ∈ js, j ∈ own.map (·.2) := by decide) (hs : ∀ x, foldedSetIterable iter X.env x = pure x := by intro _; rfl) (hv : ∀ v ∈ own.map (·.2), A.A v = false := by decide) :
    CE X A (.ListComp elt [⟨tg, iter, ifs, 0⟩] scope pos) (tLc wi g tt te (own.map (·.2))) (dLc di dg dt de (own.map (·.2))) :=
  ⟨pe_lc hc hN hi.pi ok (fun s H C cl fp => (hg s H C cl fp).pg) (fun s H C cl fp => (ht s H C cl fp).1) (fun s H C cl fp => (he s H C cl fp).pe) hs,
    sim_lc hi.sim (hg X.s_0 X.H_0 0 [] []).sim (ht X.s_0 X.H_0 0 [] []).2 (he X.s_0 X.H_0 0 [] []).sim hj hv⟩
end
/-! ### what may change the world, or raise -/
structure EX (X : Cx) (A : Ax) (W : WX) (e : Expr) (te : TE) (dx : dX) : Prop where
  pe : PE X e te
  sim : SimX (kx A X) A W te dx
structure ET (X : Cx) (A : Ax) (W : WX) (e : Expr) (tt : TT) (dt : dXT) : Prop where
  pt : PT X e tt
  sim : SimXT (kx A X) A W tt dt
structure EW (X : Cx) (A : Ax) (W : WX) (e : Expr) (tt : TT) (dt : dXT) : Prop where
  pw : PW X e tt
  sim : SimXT (kx A X) A W tt dt
structure EC (X : Cx) (A : Ax) (W : WX) (es : List Expr) (ta : TA) (dc : dXC) : Prop where
  pa : PA X es ta
  sim : SimXC (kx A X) A W ta dc
structure PL (X : Cx) (A : Ax) (e : Expr) (te : TE) (dp : dP_) : Prop where
  pe : PE X e te
  sim : SimP (kx A X) A te dp
structure PR (X : Cx) (A : Ax) (es : List Expr) (ta : TA) (da : dPA) : Prop where
  pa : PA X es ta
  sim : SimPA (kx A X) A ta da
structure XR (X : Cx) (A : Ax) (W : WX) (es : List Expr) (ta : TA) (da : dXA) : Prop where
  pa : PA X es ta
  sim : SimXA (kx A X) A W ta da
structure EI (X : Cx) (A : Ax) (W : WX) (tg iter : Expr) (wi : TI) (di : dXI) : Prop where
  pi : PI X tg iter wi
  sim : SimXI (kx A X) A W wi di
section
variable {X : Cx} {A : Ax} {W : WX} {a b c e : Expr} {es : List Expr} {ta tb tc te : TE} {da db dc de : dX} {pos : Pos}
theorem ex_p {d : dE} (h : CE X A e te d) : EX X A W e te (dP d) := ⟨h.pe, sim_p h.sim⟩
theorem et_p {t : TT} {d : dT} (h : CT X A e t d) : ET X A W e t (dPT d) := ⟨h.pt, sim_pt h.sim⟩
theorem ei_p {tg : Expr} {wi : TI} {di : dI_} (h : CI X A tg e wi di) : EI X A W tg e wi (dPI di) := ⟨h.pi, sim_pi h.sim⟩
theorem ei_x {tg : Expr} (h : EX X A W e te de) : EI X A W tg e (iSeq X.K te) (dXItems de) := ⟨pi_seq h.pe, sim_xseqI h.sim⟩
theorem ec_nil : EC X A W [] tNil dXnil := ⟨pa_nil, sim_xnil⟩
theorem ec_cons {t : TA} {d : dXC} (ha : EX X A W e te de) (hr : EC X A W es t d) (hs : starEach (e :: es) X.env = (false, eval e X.env) :: starEach es X.env := by rfl) : EC X A W (e :: es) (tCons te t) (dXcons de d) := ⟨pa_cons ha.pe hr.pa hs, sim_xcons ha.sim hr.sim⟩
theorem ex_op {op : Operator} {r : R2} {dr : Z → Z → (Z → Prop) → Prop} (ho : OpR X (binaryOp op) r) (hr : SimR (kx A X) r dr) (ha : EX X A W a ta da) (hb : EX X A W b tb db) : EX X A W (.BinOp a op b pos) (tOp r ta tb) (dxOp dr da db) := ⟨pe_op ho ha.pe hb.pe, sim_xop hr ha.sim hb.sim⟩
theorem ex_cmp {op : CmpOp} {r : R2} {dr : Z → Z → (Z → Prop) → Prop} (ho : OpR X (compareOp op) r) (hr : SimR (kx A X) r dr) (ha : EX X A W a ta da) (hb : EX X A W b tb db) (hm : behindInMarks op b = false) : EX X A W (.Compare a [op] [b] pos) (tOp r ta tb) (dxOp dr da db) := ⟨pe_cmpR ho ha.pe hb.pe hm, sim_xop hr ha.sim hb.sim⟩
theorem et_cmp {op : CmpOp} {r : R2} {dr : Z → Z → (Z → Prop) → Prop} (ho : OpR X (compareOp op) r) (hr : SimR (kx A X) r dr) (ha : EX X A W a ta da) (hb : EX X A W b tb db) (hm : behindInMarks op b = false) : ET X A W (.Compare a [op] [b] pos) (tTest (tOp r ta tb)) (dxTst (dxOp dr da db)) := ⟨pt_cmpR ho ha.pe hb.pe hm, sim_xtst (sim_xop hr ha.sim hb.sim)⟩
theorem et_tru (h : EX X A W e te de) (he : ∀ whole, isTrue e X.env whole = (do let v ← whole; standAt e.pos; holding [v] (truthy v)) := by intro _; rfl) : ET X A W e (fun σ H Q => te σ H fun x H1 => ∃ k, TruV X.K x H1 k ∧ Q k H1) (dxTru de) := ⟨pt_truth h.pe he, sim_xtru h.sim⟩
theorem et_not {t : TT} {d : dXT} (h : ET X A W a t d) : ET X A W (.UnaryOp .Not a pos) (tNot t) (dxNotT d) := ⟨pt_not h.pt, sim_xnotT h.sim⟩
theorem et_of_w {t : TT} {d : dXT} (h : EW X A W e t d) : ET X A W e t d := ⟨h.pw.pt, h.sim⟩
theorem ew_and1 {t : TT} {d : dXT} (h : ET X A W a t d) : EW X A W (.BoolOp .And [a] pos) t d := ⟨pw_and1 h.pt, h.sim⟩
theorem ew_or1 {t : TT} {d : dXT} (h : ET X A W a t d) : EW X A W (.BoolOp .Or [a] pos) t d := ⟨pw_or1 h.pt, h.sim⟩
theorem ew_and {t u : TT} {d d' : dXT} {rest : List Expr} (h : ET X A W a t d) (h' : EW X A W (.BoolOp .And (b :: rest) pos) u d') : EW X A W (.BoolOp .And (a :: b :: rest) pos) (tAnd t u) (dxAndT d d') := ⟨pw_and h.pt h'.pw, sim_xandT h.sim h'.sim⟩
theorem ew_or {t u : TT} {d d' : dXT} {rest : List Expr} (h : ET X A W a t d) (h' : EW X A W (.BoolOp .Or (b :: rest) pos) u d') : EW X A W (.BoolOp .Or (a :: b :: rest) pos) (tOr t u) (dxOrT d d') := ⟨pw_or h.pt h'.pw, sim_xorT h.sim h'.sim⟩
theorem ex_one {op} (h : EX X A W a ta da) : EX X A W (.BoolOp op [a] pos) ta da := ⟨pe_one h.pe, h.sim⟩
theorem ex_and {rest : List Expr} (ha : EX X A W a ta da) (hb : EX X A W (.BoolOp .And (b :: rest) pos) tb db) : EX X A W (.BoolOp .And (a :: b :: rest) pos) (tAndV ta tb) (dxAndE da db) := ⟨pe_and ha.pe hb.pe, sim_xandE ha.sim hb.sim⟩
theorem ex_or {rest : List Expr} (ha : EX X A W a ta da) (hb : EX X A W (.BoolOp .Or (b :: rest) pos) tb db) : EX X A W (.BoolOp .Or (a :: b :: rest) pos) (tOrV ta tb) (dxOrE da db) := ⟨pe_or ha.pe hb.pe, sim_xorE ha.sim hb.sim⟩
theorem ex_not (ha : EX X A W a ta da) : EX X A W (.UnaryOp .Not a pos) (tNotV ta) (dxNotE da) := ⟨pe_not ha.pe, sim_xnotE ha.sim⟩
theorem ex_if {t : TT} {d : dXT} (hc : ET X A W c t d) (ha : EX X A W a ta da) (hb : EX X A W b tb db) : EX X A W (.IfExp c a b pos) (tIf t ta tb) (dxIfE d da db) := ⟨pe_ifExp hc.pt ha.pe hb.pe, sim_xifE hc.sim ha.sim hb.sim⟩
theorem ex_ix (ha : EX X A W a ta da) (hb : EX X A W b tb db) (hs : PlainIx b := by exact fun _ _ => rfl) : EX X A W (.Subscript a b pos) (tOp (rIx X.K) ta tb) (dxOp dIx da db) := ⟨pe_ix ix_seq ha.pe hb.pe hs, sim_xop simR_ix ha.sim hb.sim⟩
theorem ex_tup {t : TA} {d : dXC} {x1} (h : EC X A W es t d) : EX X A W (.Tuple es x1 pos) (tTup t) (dxTup d) := ⟨pe_tup h.pa, sim_xtup h.sim⟩
theorem ex_lst {t : TA} {d : dXC} (h : EC X A W es t d) : EX X A W (.List es pos) (tLst t) (dxLst d) := ⟨pe_lst h.pa, sim_xlst h.sim⟩
theorem ex_cb {x : Str} {id : String} {r : List V → Hp → VK → Prop} {dr : List Z → (Z → Prop) → Prop} {t : TA} {d : dXC} {p : Pos} (hc : CallR X (.builtin id) r) (hr : SimL (kx A X) r dr) (hv : bootBuiltins x = some (.builtin id)) (hm : X.mg x = none) (ha : EC X A W (e :: es) t d)
    (hg : Gl X x := by rfl) (hn : x ≠ "__name__" := by decide) (hdb : (x == ("__debug__" : Str)) = false := by decide)
    (he : starEach (e :: es) X.env = (false, eval e X.env) :: starEach es X.env := by rfl) (hpl : (backTo pos (starEach es X.env)).any (·.1) = false := by rfl) : EX X A W (.Call (.Name x p) (e :: es) [] pos) (tCB r t) (dxCB dr d) :=
  ⟨pe_callB hc hg hm hv ha.pa hn hdb he hpl, sim_xcb hr ha.sim⟩
theorem ex_ct {x : Str} {T : String} {r : List V → Hp → VK → Prop} {dr : List Z → (Z → Prop) → Prop} {t : TA} {d : dXC} {p : Pos} (hc : CallR X (.type T) r) (hr : SimL (kx A X) r dr) (hv : bootBuiltins x = some (.type T)) (hm : X.mg x = none) (ha : EC X A W (e :: es) t d)
    (hg : Gl X x := by rfl) (hn : x ≠ "__name__" := by decide) (hdb : (x == ("__debug__" : Str)) = false := by decide)
    (he : starEach (e :: es) X.env = (false, eval e X.env) :: starEach es X.env := by rfl) (hpl : (backTo pos (starEach es X.env)).any (·.1) = false := by rfl) : EX X A W (.Call (.Name x p) (e :: es) [] pos) (tCB r t) (dxCB dr d) :=
  ⟨pe_callTy hc hg hm hv ha.pa hn hdb he hpl, sim_xcb hr ha.sim⟩
theorem pl_var (i : Nat) {x : Str} (hN : X.N[i]? = some x := by rfl) (hv : Vis X.env.scope x := by first | exact Or.inl rfl | exact Or.inr (Or.inl rfl) | exact Or.inr (Or.inr rfl)) (hd : (x == ("__debug__" : Str)) = false := by decide)
    (hcd : (x == ("__classdict__" : Str)) = false := by decide) : PL X A (.Name x pos) (tVar i) (dpVar i) := ⟨pe_var hN hv hd hcd, simp_var⟩
theorem pl_fld (k : Nat) {f : Str} {te : TE} {dp : dP_} (h : PL X A e te dp) (hf : f = A.fn.getD k "" := by rfl) (hb : attributeBase e f X.env (eval e X.env) = eval e X.env := by rfl) : PL X A (.Attribute e f pos) (tFld X.K te f) (dpFld k dp) := ⟨pe_fld h.pe hb, simp_fld hf h.sim⟩
theorem ce_fld (k : Nat) {f : Str} {te : TE} {de : dE} (h : CE X A e te de) (hf : f = A.fn.getD k "" := by rfl) (hb : attributeBase e f X.env (eval e X.env) = eval e X.env := by rfl) : CE X A (.Attribute e f pos) (tFld X.K te f) (dFld k de) := ⟨pe_fld h.pe hb, sim_fld hf h.sim⟩
theorem pr_nil : PR X A [] tNil dpaNil := ⟨pa_nil, simpa_nil⟩
theorem pr_p {te : TE} {dp : dP_} {t : TA} {d : dPA} (ha : PL X A e te dp) (hr : PR X A es t d) (hs : starEach (e :: es) X.env = (false, eval e X.env) :: starEach es X.env := by rfl) : PR X A (e :: es) (tCons te t) (dpaP dp d) := ⟨pa_cons ha.pe hr.pa hs, simpa_p ha.sim hr.sim⟩
theorem pr_d {te : TE} {de : dE} {t : TA} {d : dPA} (ha : CE X A e te de) (hr : PR X A es t d) (hs : starEach (e :: es) X.env = (false, eval e X.env) :: starEach es X.env := by rfl) : PR X A (e :: es) (tCons te t) (dpaD de d) := ⟨pa_cons ha.pe hr.pa hs, simpa_d ha.sim hr.sim⟩
theorem xr_pr {t : TA} {d : dPA} (h : PR X A es t d) : XR X A W es t (dPPA d) := ⟨h.pa, sim_ppa h.sim⟩
theorem xr_nil : XR X A W [] tNil dxaNil := ⟨pa_nil, simxa_nil⟩
theorem xr_v (i : Nat) {x : Str} {p : Pos} {t : TA} {d : dXA} (hr : XR X A W es t d) (hN : X.N[i]? = some x := by rfl) (hv : Vis X.env.scope x := by first | exact Or.inl rfl | exact Or.inr (Or.inl rfl) | exact Or.inr (Or.inr rfl)) (hd : (x == ("__debug__" : Str)) = false := by decide)
    (hcd : (x == ("__classdict__" : Str)) = false := by decide) (hs : starEach (.Name x p :: es) X.env = (false, eval (.Name x p) X.env) :: starEach es X.env := by rfl) : XR X A W (.Name x p :: es) (tCons (tVar i) t) (dxaV i d) := ⟨pa_cons (pe_var hN hv hd hcd) hr.pa hs, simxa_v hr.sim⟩
theorem xr_d {t : TA} {d : dXA} (ha : EX X A W e te de) (hr : XR X A W es t d) (hs : starEach (e :: es) X.env = (false, eval e X.env) :: starEach es X.env := by rfl) : XR X A W (e :: es) (tCons te t) (dxaD de d) := ⟨pa_cons ha.pe hr.pa hs, simxa_d ha.sim hr.sim⟩
theorem xr_n {t : TA} {d : dXA} (ha : EX X A W e te de) (hr : XR X A W es t d) (hs : starEach (e :: es) X.env = (false, eval e X.env) :: starEach es X.env := by rfl) : XR X A W (e :: es) (tCons te t) (dxaN de d) := ⟨pa_cons ha.pe hr.pa hs, simxa_n ha.sim hr.sim⟩
end
/-! ### statements -/
section
variable {X : Cx} {A : Ax} {W : WX} {st : Stmt} {rest : List Stmt} {t u : TS} {d d' : dS} {a b e : Expr} {te ta tb : TE} {de da db : dX} {pos : Pos}
theorem css_nil : CSs X A W [] tNext dNext := ⟨pss_nil, sim_next⟩
theorem css_cons (h1 : CS X A W st t d) (h2 : CSs X A W rest u d') : CSs X A W (st :: rest) (tSeq t u) (dSeq d d') := ⟨pss_cons h1.ps h2.ps, sim_seq h1.sim h2.sim⟩
theorem css_one (h1 : CS X A W st t d) : CSs X A W [st] t d := ⟨pss_one h1.ps, h1.sim⟩
theorem css_frz (i : Nat) {sts : List Stmt} (h : CSs X A W sts t d) (hA : A.A i = false := by rfl) (hi : i < A.n := by decide) : CSs X A W sts t (dFrz i d) := ⟨h.ps, sim_frz hA hi h.sim⟩
theorem cs_never : CS X A W st tNever dNever := ⟨ps_never, sim_never⟩
theorem cs_pass : CS X A W (.Pass pos) tNext dNext := ⟨ps_pass, sim_next⟩
theorem cs_break : CS X A W (.Break pos) tBreak dBreak := ⟨ps_break, sim_brk⟩
theorem cs_continue : CS X A W (.Continue pos) tCont dCont := ⟨ps_continue, sim_cont⟩
theorem cs_expr (h : EX X A W e te de) (hs : swapsWith e none pos.line X.env = pure false := by rfl) : CS X A W (.Expr e pos) (tDrop te) (dDrop de) := ⟨ps_expr h.pe hs, sim_drop h.sim⟩
theorem cs_ret (h : EX X A W e te de) : CS X A W (.Return (some e) pos) (tRet te) (dRet de) := ⟨ps_ret h.pe, sim_ret h.sim⟩
theorem cs_retN : CS X A W (.Return none pos) tRetN dRetN := ⟨ps_retN, sim_retN⟩
theorem cs_retV (i : Nat) {x : Str} {p : Pos} (hN : X.N[i]? = some x := by rfl) (hv : Vis X.env.scope x := by first | exact Or.inl rfl | exact Or.inr (Or.inl rfl) | exact Or.inr (Or.inr rfl)) (hd : (x == ("__debug__" : Str)) = false := by decide)
    (hcd : (x == ("__classdict__" : Str)) = false := by decide) (hA : A.A i = false := by rfl) : CS X A W (.Return (some (.Name x p)) pos) (tRet (tVar i)) (dRetV i) := ⟨ps_ret (pe_var hN hv hd hcd), sim_retV hA⟩
theorem cs_if {c : Expr} {x y : List Stmt} {tc : TT} {dc : dXT} (h : ET X A W c tc dc) (h1 : CSs X A W x t d) (h2 : CSs X A W y u d') : CS X A W (.If c x y pos) (tIfS tc t u) (dIf dc d d') := ⟨ps_if h.pt h1.ps h2.ps, sim_if h.sim h1.sim h2.sim⟩
theorem cs_set (i : Nat) {x : Str} {pos' : Pos} (hN : X.N.Nodup) (h : EX X A W e te de) (hi : X.N[i]? = some x := by rfl) (hx : Loc X.env.scope x := by first | exact .inl rfl | exact .inr rfl) (hs : swapsWith e (some (.Name x pos')) pos.line X.env = pure false := by rfl)
    (hf : X.fn x = true ∨ X.env.scope.names.lookup x = some .local := by first | exact .inl rfl | exact .inr rfl) (hA : A.A i = false := by rfl) (hn : i < A.n := by decide) : CS X A W (.Assign [.Name x pos'] e pos) (tAsg te (gName i)) (dSet i de) := ⟨ps_set hN hi hx h.pe hs hf, sim_set hA hn h.sim⟩
theorem cs_unp {tg : Expr} {js : List Nat} {g : TG} {dg : dG} (h : EX X A W e te de) (hg : CG X A tg js g dg) (hs : swapsWithSole [tg] e pos.line X.env = pure false := by rfl) (hw : swappedStores [tg] e X.env = pure none := by rfl)
    (h1 : (assignEach [tg] X.env).map (·.2) = [assign tg X.env] := by rfl) : CS X A W (.Assign [tg] e pos) (tAsg te g) (dUnp de dg) := ⟨ps_asg h.pe hg.pg hs hw h1, sim_unp h.sim hg.sim⟩
theorem cs_aug (i : Nat) {x : Str} {op : Operator} {ti : TIp} {dr : Z → Z → (Z → Prop) → Prop} {pos' : Pos} (hN : X.N.Nodup) (ho : PIp X op ti) (hr : SimR (kx A X) ti dr) (h : EX X A W e te de) (hi : X.N[i]? = some x := by rfl) (hx : Loc X.env.scope x := by first | exact .inl rfl | exact .inr rfl)
    (hf : X.fn x = true ∨ X.env.scope.names.lookup x = some .local := by first | exact .inl rfl | exact .inr rfl) (hA : A.A i = false := by rfl) (hn : i < A.n := by decide) : CS X A W (.AugAssign (.Name x pos') op e pos) (tAug i te ti) (dAug i dr de) := ⟨ps_aug hN hi hx h.pe ho hf, sim_aug hA hn hr h.sim⟩
theorem cs_augI (i : Nat) {x : Str} {pos' : Pos} (hN : X.N.Nodup) (h : EX X A W e te de) (hi : X.N[i]? = some x := by rfl) (hx : Loc X.env.scope x := by first | exact .inl rfl | exact .inr rfl)
    (hf : X.fn x = true ∨ X.env.scope.names.lookup x = some .local := by first | exact .inl rfl | exact .inr rfl) (hA : A.A i = false := by rfl) (hn : i < A.n := by decide) : CS X A W (.AugAssign (.Name x pos') .Add e pos) (tAug i te (ipI fun i j => i + j)) (dAug i dAddI de) :=
  cs_aug i hN ip_add (simR_I0 (g := fun i j => .int (i + j)) fun _ _ _ => .int _) h hi hx hf hA hn
/-- o.append(e) -/
theorem ex_appP {o : Expr} {to : TE} {dp : dP_} {dq : dE} {apos cpos : Pos} (ho : PL X A o to dp) (h : CE X A e te dq)
    (hbase : attributeBase o "append" X.env (eval o X.env) = eval o X.env := by rfl)
    (hfew : ((backTo cpos (starEach [e] X.env)).all (fun x => !x.1) && (backToKw cpos (keywordEach [] X.env)).all (fun x => x.1.isSome)
      && decide ([e].length + ([] : List Keyword).length + (if ([] : List Keyword).isEmpty then 0 else 1) < 30)) = true := by rfl)
    (hline : (apos.endLine == cpos.line) = true := by rfl) (hs : starEach [e] X.env = (false, eval e X.env) :: starEach [] X.env := by rfl) (hplain : (backTo cpos (starEach [] X.env)).any (·.1) = false := by rfl) :
    EX X A W (.Call (.Attribute o "append" apos) [e] [] cpos) (tBM X.K "list" rAppend to (tCons te tNil)) (dxAppP dp dq) :=
  ⟨pe_bm PySem.F.plainAttrs_list PySem.F.slot_list_append PySem.F.type_list_append mt_append ho.pe (pa_cons h.pe pa_nil hs) hbase hfew hline hs hplain, sim_xappP ho.sim h.sim⟩
theorem ex_appV (i : Nat) {x : Str} {px apos cpos : Pos} (h : EX X A W e te de) (hN : X.N[i]? = some x := by rfl) (hv : Vis X.env.scope x := by first | exact Or.inl rfl | exact Or.inr (Or.inl rfl) | exact Or.inr (Or.inr rfl)) (hd : (x == ("__debug__" : Str)) = false := by decide) (hcd : (x == ("__classdict__" : Str)) = false := by decide)
    (hbase : attributeBase (.Name x px) "append" X.env (eval (.Name x px) X.env) = eval (.Name x px) X.env := by rfl)
    (hfew : ((backTo cpos (starEach [e] X.env)).all (fun x => !x.1) && (backToKw cpos (keywordEach [] X.env)).all (fun x => x.1.isSome)
      && decide ([e].length + ([] : List Keyword).length + (if ([] : List Keyword).isEmpty then 0 else 1) < 30)) = true := by rfl)
    (hline : (apos.endLine == cpos.line) = true := by rfl) (hs : starEach [e] X.env = (false, eval e X.env) :: starEach [] X.env := by rfl) (hplain : (backTo cpos (starEach [] X.env)).any (·.1) = false := by rfl) :
    EX X A W (.Call (.Attribute (.Name x px) "append" apos) [e] [] cpos) (tBM X.K "list" rAppend (tVar i) (tCons te tNil)) (dxAppV i de) :=
  ⟨pe_bm PySem.F.plainAttrs_list PySem.F.slot_list_append PySem.F.type_list_append mt_append (pe_var hN hv hd hcd) (pa_cons h.pe pa_nil hs) hbase hfew hline hs hplain, sim_xappV h.sim⟩
/-- o.f = e -/
theorem cs_fld (c0 k : Nat) {o : Expr} {f : Str} {to : TE} {dp : dP_} {pos' : Pos} (hk : A.fn.getD k "" ≠ "" ∧ ∀ j, A.fn.getD j "" = A.fn.getD k "" → j = k) (hna : NoAttr X.K (clOf X.mg (A.cn.getD c0 "")) (A.fn.getD k "")) (ho : PL X A o to dp) (h : EX X A W e te de) (hf : f = A.fn.getD k "" := by rfl)
    (hs : swapsWith e (some (.Attribute o f pos')) pos.line X.env = pure false := by rfl) : CS X A W (.Assign [.Attribute o f pos'] e pos) (sFld X.K to te f) (dFldS c0 k dp de) := ⟨ps_fld ho.pe h.pe hs, sim_fldS hf hk hna ho.sim h.sim⟩
theorem ci_seq {tg iter : Expr} {de : dE} (h : CE X A iter te de) : CI X A tg iter (iSeq X.K te) (dItems de) := ⟨pi_seq h.pe, sim_seqI h.sim⟩
theorem ci_rng1 {tg : Expr} {ta : TA} {da : dA} {p : Pos} (hm : X.mg "range" = none) (h : CA X A [a] ta da) (hg : Gl X "range" := by rfl) (hs : starEach [a] X.env = [(false, eval a X.env)] := by rfl) : CI X A tg (.Call (.Name "range" p) [a] [] pos) (iRng1 ta) (dRng1 da) := ⟨pi_range1 hg hm h.pa hs, sim_rng1 h.sim⟩
theorem ci_rng2 {tg : Expr} {ta : TA} {da : dA} {p : Pos} (hm : X.mg "range" = none) (h : CA X A [a, b] ta da) (hg : Gl X "range" := by rfl) (hs : starEach [a, b] X.env = [(false, eval a X.env), (false, eval b X.env)] := by rfl) (hs2 : starEach [b] X.env = [(false, eval b X.env)] := by rfl) :
    CI X A tg (.Call (.Name "range" p) [a, b] [] pos) (iRng2 ta) (dRng2 da) := ⟨pi_range2 hg hm h.pa hs hs2, sim_rng2 h.sim⟩
theorem cs_for {tg iter : Expr} {body : List Stmt} {wi : TI} {di : dXI} {js : List Nat} {g : TG} {dg : dG} (hp : PassesOwn (model X.prog X.w) X.A X.env X.xe) (hc : X.calm = true) (hi : EI X A W tg iter wi di) (hg : CG X A tg js g dg) (hb : CSs X A W body t d)
    (hs : ∀ x, foldedSetIterable iter X.env x = pure x := by intro _; rfl) : CS X A W (.For tg iter body [] pos) (tFor wi g t) (dFor di dg d) := ⟨ps_for hp hc hi.pi hg.pg hb.ps hs, sim_for hi.sim hg.sim hb.sim⟩
theorem cs_while {c : Expr} {body : List Stmt} {tc : TT} {dc : dXT} (hp : PassesOwn (model X.prog X.w) X.A X.env X.xe) (hc : ET X A W c tc dc) (hb : CSs X A W body t d) : CS X A W (.While c body [] pos) (tWhile tc t) (dWhile dc d) := ⟨ps_while hp hc.pt hb.ps, sim_while hc.sim hb.sim⟩
/-- name = [..] -/
theorem cs_setLc (i : Nat) {y : Str} {py spos : Pos} {elt tg iter : Expr} {ifs : List Expr} {scope : Scope} {own : List (Str × Nat)} {wi : TI} {di : dI_} {js : List Nat} {g : TG} {dg : dG} {tt : TT} {dt : dT} {te : TE} {de : dE} (hc : X.calm = true) (hN : X.N.Nodup) (hi : CI X A tg iter wi di) (ok : BlkOk X.N X.env.scope scope own)
    (hg : ∀ (s : Shared) (H : Hp) (C : Addr) (cl : List (Str × Addr)) (fp : List Addr), CG (X.blk s H scope (compEnvC scope cl C X.env) fp) A tg js g dg) (ht : ∀ (s : Shared) (H : Hp) (C : Addr) (cl : List (Str × Addr)) (fp : List Addr), PTs (X.blk s H scope (compEnvC scope cl C X.env) fp) ifs tt ∧ SimT (kx A X) A tt dt)
    (he : ∀ (s : Shared) (H : Hp) (C : Addr) (cl : List (Str × Addr)) (fp : List Addr), CE (X.blk s H scope (compEnvC scope cl C X.env) fp) A elt te de) (hsw : swapsWith (.ListComp elt [⟨tg, iter, ifs, 0⟩] scope pos) (some (.Name y py)) spos.line X.env = pure true)
    (hy : X.N[i]? = some y := by rfl) (hyl : X.env.scope.names.lookup y = some .local := by rfl) (hj : ∀ j ∈ js, j ∈ own.map (·.2) := by decide) (hs : ∀ x, foldedSetIterable iter X.env x = pure x := by intro _; rfl) (hv : ∀ v ∈ own.map (·.2), A.A v = false := by decide) (hA : A.A i = false := by rfl) (hn : i < A.n := by decide) :
    CS X A W (.Assign [.Name y py] (.ListComp elt [⟨tg, iter, ifs, 0⟩] scope pos) spos) (tAsg (tLc wi g tt te (own.map (·.2))) (gName i)) (dSet i (dP (dLc di dg dt de (own.map (·.2))))) :=
  ⟨ps_setLc hc hN hy hyl hsw hi.pi ok (fun s H C cl fp => (hg s H C cl fp).pg) (fun s H C cl fp => (ht s H C cl fp).1) (fun s H C cl fp => (he s H C cl fp).pe) hs,
    sim_set hA hn (sim_p (sim_lc hi.sim (hg X.s_0 X.H_0 0 [] []).sim (ht X.s_0 X.H_0 0 [] []).2 (he X.s_0 X.H_0 0 [] []).sim hj hv))⟩
theorem pts1 {c : Expr} {t : TT} {d : dT} (h : CT X A c t d) : PTs X [c] t ∧ SimT (kx A X) A t d := ⟨pts_one h.pt, h.sim⟩
theorem pts0 : PTs X [] tYes ∧ SimT (kx A X) A tYes dYes := ⟨pts_nil, sim_yes⟩
end
end Dl
namespace Dl
open PySem L2
/-! ### a def of the text that stands -/
structure Has (P : Program) (w : World) (K : Kx) (mg : Str → Option Value) (base : Heap) (k : Nat) (x : Str) (ps : List Str) (F : FD) (dvs : List V) (dds : List D) : Prop where
  ex : ∃ f fd ds, FnOk P w K.f mg base CX0 k f fd ps (spV K F) ∧ mg x = some (.ref f) ∧ PySem.W.keepIn K.f (.ref f) = true ∧ Binds K.f fd ps ds ∧ Vals dvs ds
  dq : ∀ B, DqAll K.f B dvs dds
  mon : Mon F
theorem ce_has {X : Cx} {A : Ax} {k k' : Nat} {ps : List Str} {F : FD} {dvs : List V} {dds : List D} {x : Str} {p pos : Pos} {e : Expr} {es : List Expr} {t : TA} {d : dC} (h : Has X.prog X.w (kx A X) X.mg X.base k x ps F dvs dds) (hr : Room k' X.A) (hk : k ≤ k') (ha : CC X A (e :: es) t d)
    (hg : Gl X x := by rfl) (hdb : (x == ("__debug__" : Str)) = false := by decide) (he : starEach (e :: es) X.env = (false, eval e X.env) :: starEach es X.env := by rfl) (hpl : (backTo pos (starEach es X.env)).any (·.1) = false := by rfl) :
    CE X A (.Call (.Name x p) (e :: es) [] pos) (tCall (spV (kx A X) F) dvs E0 t) (dCallF F dds d) := by
  obtain ⟨f, fd, ds, G, hm, kp, b, v⟩ := h.ex
  exact ce_def h.mon G (hr.mono hk) hm kp b v h.dq ha hg hdb he hpl
/-! ### loops, from the outside -/
/-- unrolled -/
def forGo (g : dG) (body : dS) (E : DE) : List D → List S → Prop
  | [], ρ => E.nx ρ
  | x :: xs, ρ => g x ρ fun ρ1 => body { nx := forGo g body E xs, rt := E.rt, bk := E.nx, ct := forGo g body E xs, ex := E.ex } ρ1
theorem for_go {g : dG} {body : dS} {E : DE} {items : List D} {ρ : List S} (h : forGo g body E items ρ) : ∃ I : Nat → List S → Prop, I 0 ρ ∧
    (∀ i x ρ', items[i]? = some x → I i ρ' → g x ρ' fun ρ1 => body { nx := I (i + 1), rt := E.rt, bk := E.nx, ct := I (i + 1), ex := E.ex } ρ1) ∧ ∀ ρ', I items.length ρ' → E.nx ρ' := by
  refine ⟨fun i ρ' => forGo g body E (items.drop i) ρ', h, fun i x ρ' e h' => ?_, fun ρ' h' => ?_⟩
  · have hi : i < items.length := (List.getElem?_eq_some_iff.mp e).1
    have h' : forGo g body E (items.drop i) ρ' := h'
    rw [List.drop_eq_getElem_cons hi] at h'
    have : items[i] = x := (List.getElem?_eq_some_iff.mp e).2
    rw [this] at h'
    exact h'
  · have h' : forGo g body E (items.drop items.length) ρ' := h'
    rw [List.drop_length] at h'
    exact h'
/-- a comprehension whose turns are known -/
theorem lc_known {dg : dG} {dt : dT} {de : dE} {ρ : List S} {Q : Z → Prop} (p : D → Bool) (f : D → D) : ∀ (xs acc : List D), acc.length + xs.length < sizeLine →
    (∀ x ∈ xs, ∀ (R0 : Prop) (R1 : D → Prop), (p x = false → R0) → (p x = true → R1 (f x)) → dg x ρ fun ρ1 => dt ρ1 fun b => if b = true then de ρ1 fun z => match z.own with
      | some d => R1 d
      | none => False
    else R0) → Q (.n (.l (acc ++ (xs.filter p).map f))) → lcGo dg dt de ρ Q xs acc
  | [], acc, _, _, h => by
    show Q (.n (.l acc))
    simpa using h
  | x :: xs, acc, hl, h1, h => by
    rw [List.length_cons] at hl
    have step := h1 x List.mem_cons_self (lcGo dg dt de ρ Q xs acc) (fun d => acc.length < sizeLine ∧ lcGo dg dt de ρ Q xs (acc ++ [d]))
    refine step (fun hp => ?_) (fun hp => ⟨by omega, ?_⟩)
    · refine lc_known p f xs acc (by omega) (fun y hy => h1 y (List.mem_cons_of_mem _ hy)) ?_
      rw [List.filter_cons, if_neg (by rw [hp]; decide)] at h
      exact h
    · refine lc_known p f xs (acc ++ [f x]) (by rw [List.length_append, List.length_singleton]; omega) (fun y hy => h1 y (List.mem_cons_of_mem _ hy)) ?_
      rw [List.filter_cons, if_pos hp] at h
      rw [List.append_assoc]
      exact h
end Dl
namespace Dl
open PySem L2
/-! ### constants of the module -/
structure Gc (K : PySem.W.Frag) (mg : Str → Option Value) (x : Str) (d : D) : Prop where
  ex : ∃ v u, mg x = some u ∧ RelV v u ∧ ∀ H, Dq K H v d
def tGlob (mg : Str → Option Value) (x : Str) : TE := fun σ H Q => ∀ v u, mg x = some u → RelV v u → Q v H
theorem ce_gl {X : Cx} {A : Ax} {x : Str} {d : D} {pos : Pos} (h : Gc X.K X.mg x d) (hg : Gl X x := by rfl) (hdb : (x == ("__debug__" : Str)) = false := by decide) : CE X A (.Name x pos) (tGlob X.mg x) (dK d) := by
  obtain ⟨v, u, hm, r, hd⟩ := h.ex
  refine ⟨⟨fun pins s σ H Q I q => (pe_glob hg hm r hdb).run pins s σ H Q I (q v u hm r)⟩, ⟨fun {B H G σ ρ Qd Q} p q k v' u' hm' r' => ?_⟩⟩
  rw [hm] at hm'
  cases hm'
  rw [r'.inj r]
  exact k (.v d) v B H (Gr.refl p.ex) (hd B) q
theorem gc_int {K : PySem.W.Frag} {mg : Str → Option Value} {x : Str} {i : Int} {t : Tok} (h : mg x = some (.int i t)) : Gc K mg x (.int i) := ⟨.int i, _, h, ⟨t, rfl⟩, fun _ => .int i⟩
theorem gc_str {K : PySem.W.Frag} {mg : Str → Option Value} {x : Str} {i : Str} {t : Tok} (h : mg x = some (.str i t)) : Gc K mg x (.str i) := ⟨.str i, _, h, ⟨t, rfl⟩, fun _ => .str i⟩
/-- values of the written part that stand for data -/
inductive KD (K : PySem.W.Frag) : Value → D → Prop
  | non : KD K .none .none
  | bl (b : Bool) : KD K (.bool b) (.bool b)
  | int (i : Int) (t : Tok) : KD K (.int i t) (.int i)
  | str (x : Str) (t : Tok) : KD K (.str x t) (.str x)
inductive KDs (K : PySem.W.Frag) : List Value → List D → Prop
  | nil : KDs K [] []
  | cons {u : Value} {us : List Value} {d : D} {ds : List D} : KD K u d → KDs K us ds → KDs K (u :: us) (d :: ds)
theorem kd_dq {K : PySem.W.Frag} {u : Value} {d : D} (h : KD K u d) : ∃ v, RelV v u ∧ ∀ H, Dq K H v d := by
  cases h with
  | non => exact ⟨.non, rfl, fun _ => .non⟩
  | bl b => exact ⟨.bl b, rfl, fun _ => .bl b⟩
  | int i t => exact ⟨.int i, ⟨t, rfl⟩, fun _ => .int i⟩
  | str x t => exact ⟨.str x, ⟨t, rfl⟩, fun _ => .str x⟩
theorem kds_dq {K : PySem.W.Frag} {us : List Value} {ds : List D} (h : KDs K us ds) : ∃ vs, Vals vs us ∧ ∀ H, DqAll K H vs ds := by
  induction h with
  | nil => exact ⟨[], .nil, fun _ => .nil⟩
  | cons a _ ih =>
    obtain ⟨v, r, q⟩ := kd_dq a
    obtain ⟨vs, rs, qs⟩ := ih
    exact ⟨v :: vs, .cons r rs, fun H => .cons (q H) (qs H)⟩
/-- a tuple of the module, its items plain -/
theorem gc_tup {K : PySem.W.Frag} {mg : Str → Option Value} {x : Str} {a : Addr} {dd : Option Addr} {us : Array Value} {n : Nat} {sl : Array (Option Value)} {ds : List D} (h : mg x = some (.ref a)) (hk : K.lookup a = some ⟨.type "tuple", dd, .seq us n, sl⟩) (hs : us.size ≤ sizeLine) (hd : KDs K us.toList ds) : Gc K mg x (.tuple ds) := by
  obtain ⟨vs, r, q⟩ := kds_dq hd
  exact ⟨.ref a, _, h, rfl, fun H => .tup (.inr ⟨_, us, n, hk, rfl, rfl, hs, r⟩) (q H)⟩
end Dl

set_option maxHeartbeats 2000000
namespace Dl
open PySem L2
/-! ### data that == tells apart as it should -/
def nice (n : Nat) (d : D) : Prop := d.canLay0 = true ∧ d.depth ≤ n
theorem nice_up {n m : Nat} {d : D} (h : nice n d) (l : n ≤ m) : nice m d := ⟨h.1, Nat.le_trans h.2 l⟩
theorem nice_none {n : Nat} : nice n .none := ⟨by simp [PyData.canLay0], by simp [PyData.depth]⟩
theorem nice_bool {n : Nat} {b : Bool} : nice n (.bool b) := ⟨by simp [PyData.canLay0], by simp [PyData.depth]⟩
theorem nice_int {n : Nat} {i : Int} : nice n (.int i) := ⟨by simp [PyData.canLay0], by simp [PyData.depth]⟩
theorem nice_str {n : Nat} {x : Str} (h : PyData.strOk x = true := by decide +kernel) : nice n (.str x) := ⟨by rw [PyData.canLay0]; exact h, by simp [PyData.depth]⟩
theorem nices {n : Nat} : ∀ {xs : List D}, (∀ x ∈ xs, nice n x) → PyData.canLayAll0 xs = true ∧ PyData.depthAll xs ≤ n
  | [], _ => ⟨by simp [PyData.canLayAll0], by simp [PyData.depthAll]⟩
  | x :: xs, h => by
    obtain ⟨a, b⟩ := h x List.mem_cons_self
    obtain ⟨c, d⟩ := nices (xs := xs) fun y hy => h y (List.mem_cons_of_mem _ hy)
    refine ⟨by rw [PyData.canLayAll0, a, c]; rfl, ?_⟩
    rw [PyData.depthAll]
    exact Nat.max_le.mpr ⟨b, d⟩
theorem nice_tuple {n : Nat} {xs : List D} (h : ∀ x ∈ xs, nice n x) : nice (n + 1) (.tuple xs) := by
  obtain ⟨a, b⟩ := nices h
  exact ⟨by rw [PyData.canLay0]; exact a, by rw [PyData.depth]; omega⟩
theorem nice_list {n : Nat} {xs : List D} (h : ∀ x ∈ xs, nice n x) : nice (n + 1) (.list xs) := by
  obtain ⟨a, b⟩ := nices h
  exact ⟨by rw [PyData.canLay0]; exact a, by rw [PyData.depth]; omega⟩
theorem nice_map {α : Type} {n : Nat} {f : α → D} {xs : List α} (h : ∀ x ∈ xs, nice n (f x)) : ∀ y ∈ xs.map f, nice n y := fun y hy => by
  obtain ⟨x, hx, rfl⟩ := List.mem_map.mp hy
  exact h x hx
theorem nice_nil {n : Nat} : ∀ x ∈ ([] : List D), nice n x := fun _ h => nomatch h
theorem nice_cons {n : Nat} {d : D} {xs : List D} (h : nice n d) (t : ∀ x ∈ xs, nice n x) : ∀ x ∈ d :: xs, nice n x := fun x hx => by
  rcases List.mem_cons.mp hx with rfl | hx
  · exact h
  · exact t x hx
theorem shaped_of {n : Nat} {d : D} (h : nice n d) (l : n ≤ 64 := by decide) : SeqAt.shaped d = true := by
  unfold SeqAt.shaped
  rw [h.1, decide_eq_true (Nat.le_trans h.2 l)]
  rfl
/-- a thing is equal to itself -/
theorem eqD_refl {n : Nat} {d : D} {Q : Bool → Prop} (h : nice n d) (l : n ≤ 64 := by decide) (q : Q true) : eqD d d Q := by
  have e := SeqAt.eqv_refl d h.1
  unfold eqD
  split
  · rw [decide_eq_true rfl]; exact q
  · rw [decide_eq_true rfl]; exact q
  · rw [decide_eq_true rfl]; exact q
  · exact ⟨shaped_of h l, shaped_of h l, by rw [e]; exact q⟩
theorem eqD_same {n : Nat} {d e : D} {Q : Bool → Prop} (he : d = e) (h : nice n d) (l : n ≤ 64 := by decide) (q : Q true) : eqD d e Q := by
  subst he
  exact eqD_refl h l q
theorem take_last {α : Type} {xs : List α} {i : Nat} {x : α} (h : xs[i]? = some x) : xs.take (i + 1) = xs.take i ++ [x] := by
  rw [List.take_add_one, h]
  rfl
theorem get_map {α β : Type} {f : α → β} {xs : List α} {i : Nat} {y : β} (h : (xs.map f)[i]? = some y) : ∃ x, xs[i]? = some x ∧ y = f x := by
  rw [List.getElem?_map] at h
  cases e : xs[i]? with
  | none => rw [e] at h; cases h
  | some x => rw [e] at h; exact ⟨x, rfl, (Option.some.inj h).symm⟩
theorem atI_ints {ns : List Int} {k : Int} (h0 : 0 ≤ k) (h1 : k < ns.length) : atI (ns.map PyData.int) k = some (.int (ns.getD k.toNat 0)) := by
  have e : k = ((k.toNat : Nat) : Int) := by omega
  rw [e]
  refine atI_nat (j := k.toNat) ?_
  rw [List.getElem?_map, List.getD_eq_getElem?_getD, show ((k.toNat : Nat) : Int).toNat = k.toNat by omega]
  have hl : k.toNat < ns.length := by omega
  rw [List.getElem?_eq_getElem hl]
  rfl
end Dl
namespace Dl
open PySem L2
theorem eqv_nice {n : Nat} {d : D} (h : nice n d) : PyData.eqv d d = true := SeqAt.eqv_refl d h.1
end Dl
namespace Dl
open PySem L2
theorem p0 {k : Int} (h : decide (0 < k) = true := by rfl) : 0 < k := of_decide_eq_true h
theorem cdiv {i k : Int} (h : (decide (0 < k) && decide (k < 1073741824)) = true := by rfl) : CDiv i k := by
  rw [Bool.and_eq_true] at h
  exact ⟨of_decide_eq_true h.1, of_decide_eq_true h.2⟩
theorem cmulR {i k : Int} (h : (decide (-(2 ^ 64) < k) && decide (k < 2 ^ 64)) = true := by rfl) : CMul i k := by
  rw [Bool.and_eq_true] at h
  exact .inr ⟨of_decide_eq_true h.1, of_decide_eq_true h.2⟩
theorem cmulL {i k : Int} (h : (decide (-(2 ^ 64) < i) && decide (i < 2 ^ 64)) = true := by rfl) : CMul i k := by
  rw [Bool.and_eq_true] at h
  exact .inl ⟨of_decide_eq_true h.1, of_decide_eq_true h.2⟩
theorem cpow {i k : Int} (h : (decide (0 ≤ k) && decide (k ≤ 1000000) && decide (i.natAbs < 2 ^ 64)) = true := by rfl) : CPow i k := by
  rw [Bool.and_eq_true, Bool.and_eq_true] at h
  exact ⟨of_decide_eq_true h.1.1, of_decide_eq_true h.1.2, of_decide_eq_true h.2⟩
theorem rngOk {j : Int} (h0 : 0 ≤ j) (h1 : j ≤ 1000000) : -(2 ^ 62) ≤ j ∧ j < 2 ^ 62 := ⟨by omega, by omega⟩
theorem szOk {n : Nat} (h : n ≤ 100000) : n ≤ sizeLine := Nat.le_trans h (by decide)
theorem szLt {n : Nat} (h : n < 100000) : n < sizeLine := Nat.lt_of_lt_of_le h (by decide)
theorem zz (i : Int) : (0 : Int) + i = i := Int.zero_add i
end Dl
namespace Dl
open PySem L2
theorem sk {n : Nat} (h : decide (n ≤ 100000) = true := by rfl) : n ≤ sizeLine := szOk (of_decide_eq_true h)
end Dl
namespace Dl
open PySem L2
theorem isi_any {T : String} (h : (["NoneType", "bool", "int", "str", "list", "tuple", "dict"].all fun a => decide (kitB a T = some (isiB a T))) = true) : ∀ d : D, kitB (dTy d) T = some (isiB (dTy d) T) := fun d => by
  rw [List.all_eq_true] at h
  refine of_decide_eq_true (h (dTy d) ?_)
  cases d <;> simp [dTy]
theorem isi_tuple (d : D) : kitB (dTy d) "tuple" = some (isiB (dTy d) "tuple") := isi_any (by decide +kernel) d
theorem isi_list (d : D) : kitB (dTy d) "list" = some (isiB (dTy d) "list") := isi_any (by decide +kernel) d
theorem isi_int (d : D) : kitB (dTy d) "int" = some (isiB (dTy d) "int") := isi_any (by decide +kernel) d
theorem isi_str (d : D) : kitB (dTy d) "str" = some (isiB (dTy d) "str") := isi_any (by decide +kernel) d
theorem isi_bool (d : D) : kitB (dTy d) "bool" = some (isiB (dTy d) "bool") := isi_any (by decide +kernel) d
theorem isi_dict (d : D) : kitB (dTy d) "dict" = some (isiB (dTy d) "dict") := isi_any (by decide +kernel) d
end Dl

set_option maxHeartbeats 2000000
namespace Dl
open PySem L2
/-- the script, as data -/
abbrev scrD (ns : List Int) : D := .dict [(.none, .list (ns.map PyData.int))]
/-- the law's own promise -/
def F_law : FD := fun as Q => ∃ (ns : List Int), as = [scrD ns] ∧ ns.length ≤ 63 ∧ Q (.v (.bool true))
theorem mon_law : Mon F_law := by
  rintro as Q Q' h ⟨ns, e, l, q⟩
  exact ⟨ns, e, l, h _ q⟩
def F_lawT : FT := fun ρ Q _ => ∃ (ns : List Int), ρ = [.v (scrD ns)] ∧ ns.length ≤ 63 ∧ Q (.v (.bool true)) [.no]
theorem len_lawT : LenT F_lawT 1 := by
  rintro ρ Q E ⟨ns, rfl, _⟩
  rfl
/-- what the row asks of the law -/
def spL (K : PySem.W.Frag) : Sp := fun vs H Q _ => ∃ (a : Addr) (ns : List Int), vs = [.ref a] ∧ ns.length ≤ 63 ∧ SqL K H a (ns.map V.int) ∧ ∀ H', Q (.bl true) H'
section
variable {P : Program} {w : World} {K : PySem.W.Frag} {mg : Str → Option Value} {base : Heap} {A : Ax} {k : Nat} {f : Addr} {fd : FuncData} {x : Str}
theorem law_v (h : FnOk P w K mg base CX0 k f fd [x] (spV (kt A K mg) F_law)) : FnOk P w K mg base CX0 k f fd [x] (spL K) := by
  refine h.imp ?_
  rintro vs H Q E ⟨a, ns, rfl, hl, hS, q⟩
  exact ⟨H, fun _ => False, [scrD ns], ⟨Ex.refl H, fun _ z => z.elim, fun _ z => z.elim⟩, .cons (.scr hS dps_ints) .nil, ns, rfl, hl, fun v B' H' g zi => by
    rw [dp_bl zi]
    exact q H'⟩
theorem law_t (h : FnOk P w K mg base (L2.CX P w) k f fd [x] (spT (kt A K mg) F_lawT)) : FnOk P w K mg base (L2.CX P w) k f fd [x] (spL K) := by
  refine h.imp ?_
  rintro vs H Q E ⟨a, ns, rfl, hl, hS, q⟩
  refine ⟨H, fun _ => False, [.v (scrD ns)], args_v (ds := [scrD ns]) ⟨Ex.refl H, fun _ z => z.elim, fun _ z => z.elim⟩ (.cons (.scr hS dps_ints) .nil), ns, rfl, hl, fun v B' H' G' x _ _ zi => ?_⟩
  rw [dp_bl zi]
  exact q H'
end
theorem walk {l : PySem.W.OpenLaw} {k : Nat} {q : Program} {loose : List Str} {XP : (Str → Option Value) → Heap → Prop} {YP : World → Heap → Prop} {d : DefRec} {K : Params → PySem.W.Frag} {x : Str} (hn : l.most = some 63) (hdf : d.params.defaults = []) (hr : Room k PySem.callerA)
    (hY : ∀ (w : World) (h : Heap), YP w h → (K w.params).In h)
    (F : ∀ (w : World) (mg : Str → Option Value) (fa : Addr) (h : Heap), (K w.params).In h → h.Ns mainGlobals mg → mg d.name = some (.ref fa) →
      ∃ fd : FuncData, (∀ (s : Shared) (u : Value), BindsTo s fd ⟨[u], []⟩ [(x, u)]) ∧ ∀ base : Heap, (K w.params).In base → base.Ns mainGlobals mg → FnOk l.prog w (K w.params) mg base CX0 k fa fd [x] (spL (K w.params))) :
    PySem.W.WalkO q loose XP YP l.row.toRowW d [] (fun f vs => PySem.call f vs) :=
  L2.walk_of (n := 63) (k := k) (x := x) (CX := fun _ => CX0) (sp := fun w => spL (K w.params)) hn (by decide) hdf hr hY F (fun w H a ns hl _ hS => ⟨a, ns, rfl, hl, hS, fun _ => rfl⟩) fun _ _ _ _ _ z => z
theorem walkT {l : PySem.W.OpenLaw} {k : Nat} {q : Program} {loose : List Str} {XP : (Str → Option Value) → Heap → Prop} {YP : World → Heap → Prop} {d : DefRec} {K : Params → PySem.W.Frag} {x : Str} (hn : l.most = some 63) (hdf : d.params.defaults = []) (hr : Room k PySem.callerA)
    (hY : ∀ (w : World) (h : Heap), YP w h → (K w.params).In h)
    (F : ∀ (w : World) (mg : Str → Option Value) (fa : Addr) (h : Heap), (K w.params).In h → h.Ns mainGlobals mg → mg d.name = some (.ref fa) →
      ∃ fd : FuncData, (∀ (s : Shared) (u : Value), BindsTo s fd ⟨[u], []⟩ [(x, u)]) ∧ ∀ base : Heap, (K w.params).In base → base.Ns mainGlobals mg → FnOk l.prog w (K w.params) mg base (L2.CX l.prog w) k fa fd [x] (spL (K w.params))) :
    PySem.W.WalkO q loose XP YP l.row.toRowW d [] (fun f vs => PySem.call f vs) :=
  L2.walk_of (n := 63) (k := k) (x := x) (CX := fun w => L2.CX l.prog w) (sp := fun w => spL (K w.params)) hn (by decide) hdf hr hY F (fun w H a ns hl _ hS => ⟨a, ns, rfl, hl, hS, fun _ => rfl⟩) fun w H s e s' z => by
    obtain ⟨_, _, _, _, _, _, _, _, _, _, _, _, z⟩ := z
    exact z
end Dl
namespace Dl
open PySem L2
/-- a promise by its answer -/
def det (n : Nat) (P : List D → Z → Prop) : FD := fun as Q => as.length = n ∧ ∃ z, P as z ∧ Q z
theorem mon_det {n : Nat} {P : List D → Z → Prop} : Mon (det n P) := by
  rintro as Q Q' h ⟨l, z, p, q⟩
  exact ⟨l, z, p, h _ q⟩
theorem len_det {n : Nat} {P : List D → Z → Prop} : ∀ as Q, det n P as Q → as.length = n := fun _ _ h => h.1
theorem len_law : ∀ as Q, F_law as Q → as.length = 1 := by
  rintro as Q ⟨ns, rfl, _⟩
  rfl
/-- the script's cell, or 0 -/
def cell (ns : List Int) (k : Int) : Int := if k < ns.length then ns.getD k.toNat 0 else 0
def P_cell (as : List D) (z : Z) : Prop := ∃ (ns : List Int) (k : Int), as = [scrD ns, .int k] ∧ 0 ≤ k ∧ z = .v (.int (cell ns k))
def P_isint (as : List D) (z : Z) : Prop := ∃ i : Int, as = [.int i] ∧ z = .v (.bool true)
end Dl
namespace Dl
open PySem L2
theorem iteY {p A B : Prop} [Decidable p] (h : p) (q : A) : if decide p = true then A else B := by
  rw [if_pos (decide_eq_true h)]
  exact q
theorem iteN {p A B : Prop} [Decidable p] (h : ¬ p) (q : B) : if decide p = true then A else B := by
  rw [if_neg (fun z => h (of_decide_eq_true z))]
  exact q
theorem ite3 {p A B : Prop} [Decidable p] (h1 : p → A) (h2 : ¬ p → B) : if decide p = true then A else B := by
  by_cases h : p
  · exact iteY h (h1 h)
  · exact iteN h (h2 h)
theorem ite3N {p A B : Prop} [Decidable p] (h1 : ¬ p → A) (h2 : p → B) : if (!decide p) = true then A else B := by
  by_cases h : p
  · rw [decide_eq_true h]
    exact iteF (h2 h)
  · rw [decide_eq_false h]
    exact iteT (h1 h)
end Dl
namespace Dl
open PySem L2
/-- a slice that is not the whole -/
theorem cutk {n : Nat} {lo hi : Option Int} (h : decide (¬ (HT.sIx n 0 lo = 0 ∧ HT.sIx n n hi = n)) = true := by rfl) : ¬ (HT.sIx n 0 lo = 0 ∧ HT.sIx n n hi = n) := of_decide_eq_true h
end Dl
namespace Dl
open PySem L2
/-- a comprehension without a test, its turns known -/
theorem lc_map {dg : dG} {de : dE} {ρ : List S} {Q : Z → Prop} {xs : List D} (f : D → D) (hl : xs.length < sizeLine)
    (h1 : ∀ x ∈ xs, ∀ (R1 : D → Prop), R1 (f x) → dg x ρ fun ρ1 => de ρ1 fun z => match z.own with
      | some d => R1 d
      | none => False) (h : Q (.n (.l (xs.map f)))) : lcGo dg dYes de ρ Q xs [] := by
  refine lc_known (fun _ => true) f xs [] (by simpa using hl) (fun x hx R0 R1 _ k1 => ?_) ?_
  · exact h1 x hx R1 (k1 rfl)
  · have e : xs.filter (fun _ => true) = xs := List.filter_eq_self.mpr fun _ _ => rfl
    rw [List.nil_append, e]
    exact h
theorem upFrom_mem {lo : Int} {n : Nat} {d : D} (h : d ∈ upFrom lo n) : ∃ i : Nat, i < n ∧ d = .int (lo + (i : Int)) := by
  obtain ⟨i, hi⟩ := List.mem_iff_getElem?.mp h
  obtain ⟨a, b⟩ := upFrom_get hi
  exact ⟨i, a, b⟩
end Dl
namespace Dl
open PySem L2
theorem len41 : ∀ k : Fin 64, ((toString ((k.val : Nat) : Int) : Str)).length ≤ 2 := by decide +kernel
theorem str_small {k : Int} (h0 : 0 ≤ k) (h1 : k < 64) : k.natAbs.log2 < 1920 ∧ (toString k : Str).length ≤ 2 := by
  obtain ⟨n, rfl⟩ : ∃ n : Nat, k = (n : Int) := ⟨k.toNat, by omega⟩
  refine ⟨?_, len41 ⟨n, by omega⟩⟩
  rw [Int.natAbs_natCast]
  by_cases h : n = 0
  · subst h; decide
  · exact (Nat.log2_lt h).mpr (Nat.lt_of_lt_of_le (show n < 2 ^ 6 by omega) (Nat.pow_le_pow_right (by decide) (by decide)))
end Dl

set_option maxHeartbeats 2000000
namespace Dl
open PySem L2
/-! ### comprehensions, their parts known up to projections -/
theorem ce_lcX {X : Cx} {A : Ax} {pos : Pos} {elt tg iter : Expr} {ifs : List Expr} {scope : Scope} {own : List (Str × Nat)} {wi : TI} {di : dI_} {js : List Nat} {g : TG} {dg : dG} {tt : TT} {dt : dT} {te : TE} {de : dE} (hc : X.calm = true) (hN : X.N.Nodup) (hi : CI X A tg iter wi di) (ok : BlkOk X.N X.env.scope scope own)
    (hg : ∀ (s : Shared) (H : Hp) (C : Addr) (cl : List (Str × Addr)) (fp : List Addr), ∃ g', CG (X.blk s H scope (compEnvC scope cl C X.env) fp) A tg js g' dg ∧ g' = g) (ht : ∀ (s : Shared) (H : Hp) (C : Addr) (cl : List (Str × Addr)) (fp : List Addr), ∃ tt', (PTs (X.blk s H scope (compEnvC scope cl C X.env) fp) ifs tt' ∧ SimT (kx A X) A tt' dt) ∧ tt' = tt)
    (he : ∀ (s : Shared) (H : Hp) (C : Addr) (cl : List (Str × Addr)) (fp : List Addr), ∃ te', CE (X.blk s H scope (compEnvC scope cl C X.env) fp) A elt te' de ∧ te' = te) (hj : ∀ j ∈ js, j ∈ own.map (·.2) := by decide) (hs : ∀ x, foldedSetIterable iter X.env x = pure x := by intro _; rfl) (hv : ∀ v ∈ own.map (·.2), A.A v = false := by decide) :
    CE X A (.ListComp elt [⟨tg, iter, ifs, 0⟩] scope pos) (tLc wi g tt te (own.map (·.2))) (dLc di dg dt de (own.map (·.2))) :=
  ce_lc hc hN hi ok (fun s H C cl fp => by obtain ⟨_, h, rfl⟩ := hg s H C cl fp; exact h) (fun s H C cl fp => by obtain ⟨_, h, rfl⟩ := ht s H C cl fp; exact h) (fun s H C cl fp => by obtain ⟨_, h, rfl⟩ := he s H C cl fp; exact h) hj hs hv
theorem cs_setLcX {X : Cx} {A : Ax} {W : WX} (i : Nat) {y : Str} {py spos : Pos} {pos : Pos} {elt tg iter : Expr} {ifs : List Expr} {scope : Scope} {own : List (Str × Nat)} {wi : TI} {di : dI_} {js : List Nat} {g : TG} {dg : dG} {tt : TT} {dt : dT} {te : TE} {de : dE} (hc : X.calm = true) (hN : X.N.Nodup) (hi : CI X A tg iter wi di) (ok : BlkOk X.N X.env.scope scope own)
    (hg : ∀ (s : Shared) (H : Hp) (C : Addr) (cl : List (Str × Addr)) (fp : List Addr), ∃ g', CG (X.blk s H scope (compEnvC scope cl C X.env) fp) A tg js g' dg ∧ g' = g) (ht : ∀ (s : Shared) (H : Hp) (C : Addr) (cl : List (Str × Addr)) (fp : List Addr), ∃ tt', (PTs (X.blk s H scope (compEnvC scope cl C X.env) fp) ifs tt' ∧ SimT (kx A X) A tt' dt) ∧ tt' = tt)
    (he : ∀ (s : Shared) (H : Hp) (C : Addr) (cl : List (Str × Addr)) (fp : List Addr), ∃ te', CE (X.blk s H scope (compEnvC scope cl C X.env) fp) A elt te' de ∧ te' = te) (hsw : swapsWith (.ListComp elt [⟨tg, iter, ifs, 0⟩] scope pos) (some (.Name y py)) spos.line X.env = pure true)
    (hy : X.N[i]? = some y := by rfl) (hyl : X.env.scope.names.lookup y = some .local := by rfl) (hj : ∀ j ∈ js, j ∈ own.map (·.2) := by decide) (hs : ∀ x, foldedSetIterable iter X.env x = pure x := by intro _; rfl) (hv : ∀ v ∈ own.map (·.2), A.A v = false := by decide) (hA : A.A i = false := by rfl) (hn : i < A.n := by decide) :
    CS X A W (.Assign [.Name y py] (.ListComp elt [⟨tg, iter, ifs, 0⟩] scope pos) spos) (tAsg (tLc wi g tt te (own.map (·.2))) (gName i)) (dSet i (dP (dLc di dg dt de (own.map (·.2))))) :=
  cs_setLc i hc hN hi ok (fun s H C cl fp => by obtain ⟨_, h, rfl⟩ := hg s H C cl fp; exact h) (fun s H C cl fp => by obtain ⟨_, h, rfl⟩ := ht s H C cl fp; exact h) (fun s H C cl fp => by obtain ⟨_, h, rfl⟩ := he s H C cl fp; exact h) hsw hy hyl hj hs hv hA hn
end Dl

set_option maxHeartbeats 2000000
namespace Dl
open PySem L2
/-! ### < of tuples -/
def ltOk (d e : D) : Bool := PySem.W.alike d e && d.canLay0 && e.canLay0 && decide (d.depth ≤ 60)
def rLtDD (K : PySem.W.Frag) : R2 := fun x y H Q => ∃ d e, Dp K H x d ∧ Dp K H y e ∧ PySem.W.alike d e = true ∧ d ≠ .none ∧ d.depth ≤ 60 ∧ Q (.bl (PySem.W.dataLt d e)) H
theorem op_ltDD {X : Cx} (hu : X.A.units + 64 < cLine) : OpR X (compareOp .Lt) (rLtDD X.K) := by
  intro pins s σ H x y v u Q I rx ry h
  obtain ⟨d, e, hd, he, ha, hn, hz, q⟩ := h
  obtain ⟨as, r1⟩ := Dp.reads I d x v hd rx
  obtain ⟨bs, r2⟩ := Dp.reads I e y u he ry
  exact PySem.W.rcLt_alike d e X.A s v u as bs r1 r2 ha hn (by have := Nat.min_le_left d.depth e.depth; omega) X.prog X.w X.xe _ ⟨.bl _, H, I, rfl, q⟩
def rLtB (K : PySem.W.Frag) : R2 := fun x y H Q => rLtA x y H Q ∨ rLtDD K x y H Q
theorem op_ltB {X : Cx} (hu : X.A.units + 64 < cLine) : OpR X (compareOp .Lt) (rLtB X.K) := OpR.or op_ltA (op_ltDD hu)
def dLtB (x y : Z) (Q : Z → Prop) : Prop := match x.data, y.data with
  | some (.int i), some (.int j) => Q (.v (.bool (decide (i < j))))
  | some (.str i), some (.str j) => Q (.v (.bool (decide (i.cps.toList < j.cps.toList))))
  | some (.tuple xs), some (.tuple ys) => ltOk (.tuple xs) (.tuple ys) = true ∧ Q (.v (.bool (PySem.W.dataLt (.tuple xs) (.tuple ys))))
  | _, _ => False
theorem ltOk_of {d e : D} (h : ltOk d e = true) : PySem.W.alike d e = true ∧ d.canLay0 = true ∧ e.canLay0 = true ∧ d.depth ≤ 60 := by
  unfold ltOk at h
  rw [Bool.and_eq_true, Bool.and_eq_true, Bool.and_eq_true, decide_eq_true_eq] at h
  exact ⟨h.1.1.1, h.1.1.2, h.1.2, h.2⟩
theorem simR_ltB {K : Kx} : SimR K (rLtB K) dLtB := by
  intro B H G H_0 x y v w Qd Q ok zx zy h k
  unfold dLtB at h
  split at h
  · rename_i i j e1 e2
    exact .inl (.inl ⟨i, j, dp_int (zx.dp ok.ex e1), dp_int (zy.dp ok.ex e2), k (.v (.bool _)) _ B H (Gr.refl ok.ex) (.bl _) h⟩)
  · rename_i i j e1 e2
    exact .inl (.inr ⟨i, j, dp_str (zx.dp ok.ex e1), dp_str (zy.dp ok.ex e2), k (.v (.bool _)) _ B H (Gr.refl ok.ex) (.bl _) h⟩)
  · rename_i xs ys e1 e2
    obtain ⟨h1, h2, h3, h4⟩ := ltOk_of h.1
    exact .inr ⟨_, _, dq_dp _ _ h2 (zx.dp ok.ex e1), dq_dp _ _ h3 (zy.dp ok.ex e2), h1, (fun z => by cases z), h4, k (.v (.bool _)) _ B H (Gr.refl ok.ex) (.bl _) h.2⟩
  · exact h.elim
section
variable {X : Cx} {A : Ax} {a b : Expr} {ta tb : TE} {da db : dE} {pos : Pos}
theorem ce_ltB (hu : X.A.units + 64 < cLine) (ha : CE X A a ta da) (hb : CE X A b tb db) : CE X A (.Compare a [.Lt] [b] pos) (tOp (rLtB X.K) ta tb) (dOp dLtB da db) := ce_cmp (op_ltB hu) simR_ltB ha hb (nomark _)
theorem ct_ltB (hu : X.A.units + 64 < cLine) (ha : CE X A a ta da) (hb : CE X A b tb db) : CT X A (.Compare a [.Lt] [b] pos) (tTest (tOp (rLtB X.K) ta tb)) (dTst (dOp dLtB da db)) := ct_cmp (op_ltB hu) simR_ltB ha hb (nomark _)
end
/-! ### sorted -/
def sortD (ds : List D) : List D := ds.mergeSort (PySem.W.dataLe false id)
structure SortOk (ds : List D) : Prop where
  al : PySem.W.AllAlike ds
  so : PySem.W.Sortable ds
  cl : ∀ d ∈ ds, d.canLay0 = true ∧ d.depth ≤ 60
  sz : ds.length ≤ sizeLine
def rSortD (K : PySem.W.Frag) : List V → Hp → VK → Prop := fun vs H Q => ∃ (B : Hp) (a : Addr) (xs : List V) (ds : List D), vs = [.ref a] ∧ SqL K H a xs ∧ Ex B H ∧ DqAll K B xs ds ∧ SortOk ds ∧
  ∀ xs' p, DqAll K B xs' (sortD ds) → H p = none → Q (.ref p) (upd H p (.lst xs'))
theorem each_of {K : PySem.W.Frag} {B : Hp} : ∀ {xs : List V} {us : List Value} {ds : List D}, Vals xs us → DqAll K B xs ds → PySem.W.EachIs (fun (v : Value) (d : D) => ∃ x, RelV x v ∧ Dq K B x d) us ds
  | _, _, _, .nil, h => by cases h; exact .nil
  | _, _, _, .cons r rs, h => by
    cases h with
    | cons h1 h2 => exact .cons ⟨_, r, h1⟩ (each_of rs h2)
theorem of_each {K : PySem.W.Frag} {B : Hp} : ∀ {us : List Value} {ds : List D}, PySem.W.EachIs (fun (v : Value) (d : D) => ∃ x, RelV x v ∧ Dq K B x d) us ds → ∃ xs, Vals xs us ∧ DqAll K B xs ds
  | _, _, .nil => ⟨[], .nil, .nil⟩
  | _, _, .cons ⟨x, r, h⟩ t => by
    obtain ⟨xs, a, b⟩ := of_each t
    exact ⟨x :: xs, .cons r a, .cons h b⟩
theorem each_reads {K : PySem.W.Frag} {H : Hp} {us : List Value} {ds : List D} {h : Heap} (hr : ∀ (d : D) (x : V) (v : Value), Dp K H x d → RelV x v → ∃ as, Reads h v d as) :
    ∀ {xs : List V} {us : List Value} {ds : List D}, Vals xs us → DqAll K H xs ds → (∀ d ∈ ds, d.canLay0 = true ∧ d.depth ≤ 60) → PySem.W.EachIs (fun (v : Value) (d : D) => ∃ as, Reads h v (id d) as) us ds
  | _, _, _, .nil, h, _ => by cases h; exact .nil
  | _, _, _, .cons r rs, h, c => by
    cases h with
    | cons h1 h2 => exact .cons (hr _ _ _ (dq_dp _ _ (c _ (.head _)).1 h1) r) (each_reads (us := []) (ds := []) hr rs h2 fun d hd => c d (.tail _ hd))
theorem cr_sortD {X : Cx} (hu : X.A.units + 64 < cLine) : CallR X (.builtin "sorted") (rSortD X.K) := by
  intro pins s σ H vs us Q I r h
  obtain ⟨B, a, xs, ds, rfl, hs, ex, hd, so, q⟩ := h
  obtain ⟨its, rv, hl, _⟩ := I.list hs
  rw [Vals.ref1 r]
  have e1 : ds.map id = ds := List.map_id ds
  have er : PySem.W.EachIs (fun (v : Value) (d : D) => ∃ as, Reads s.heap v (id d) as) its ds :=
    each_reads (us := []) (ds := []) (fun d x v h1 h2 => Dp.reads I d x v h1 h2) rv (dps_mono ex ds xs hd) so.cl
  refine PySem.W.sorted_data (enc := id) hl.isList (each_of rv hd) er (by rw [e1]; exact so.al) (by rw [e1]; exact so.so) so.sz (fun b hb => by have := (so.cl b hb).2; show X.A.units + 2 + b.depth < cLine; omega) fun out h1 h2 => ?_
  obtain ⟨xs', v', q'⟩ := of_each h2
  obtain ⟨ep, he'⟩ := PyProof.Rows.sortedAll_at s.heap its out.toArray
  have hlen : xs'.length ≤ sizeLine := by
    rw [dps_len q', List.length_mergeSort]
    exact so.sz
  exact ⟨.ref _, upd H (s.heap.objs.size + 1) (.lst xs'), I.laid (t' := s.toks) (fun _ _ => PyProof.Rows.sortedAll_old) (Nat.le_succ _) ⟨hlen, out, ep, v', he'⟩, rfl, q xs' _ q' (I.hok.fresh (Nat.le_succ _))⟩
def fSort : D → (Z → Prop) → Prop
  | .list xs, Q => SortOk xs ∧ Q (.n (.l (sortD xs)))
  | _, _ => False
theorem sim_sorted {K : Kx} : SimL K (rSortD K) (dL1 fSort) := simL_1 fun {B H G H_0 z v d Qd Q} ok za e q k => by
  unfold fSort at q
  split at q
  · rename_i xs
    obtain ⟨a, vs, rfl, r, qq⟩ := za.items ok (items_of e)
    refine ⟨B, a, vs, xs, rfl, r, ok.ex, qq, q.1, fun xs' l hd hl => ?_⟩
    obtain ⟨g, z⟩ := new_list ok hl hd
    exact k _ _ _ _ g z q.2
  · exact q.elim
theorem bt_sorted : bootBuiltins "sorted" = some (.builtin "sorted") := by decide +kernel
end Dl

set_option maxHeartbeats 2000000
namespace Dl
open PySem L2
/-- a comprehension over things of one kind -/
theorem lc_mapF {α : Type} {dg : dG} {dt : dT} {de : dE} {ρ : List S} {Q : Z → Prop} (enc : α → D) (p : α → Bool) (f : α → D) : ∀ (xs : List α) (acc : List D), acc.length + xs.length < sizeLine →
    (∀ x ∈ xs, ∀ (R0 : Prop) (R1 : D → Prop), (p x = false → R0) → (p x = true → R1 (f x)) → dg (enc x) ρ fun ρ1 => dt ρ1 fun b => if b = true then de ρ1 fun z => match z.own with
      | some d => R1 d
      | none => False
    else R0) → Q (.n (.l (acc ++ (xs.filter p).map f))) → lcGo dg dt de ρ Q (xs.map enc) acc
  | [], acc, _, _, h => by
    show Q (.n (.l acc))
    simpa using h
  | x :: xs, acc, hl, h1, h => by
    rw [List.length_cons] at hl
    have step := h1 x List.mem_cons_self (lcGo dg dt de ρ Q (xs.map enc) acc) (fun d => acc.length < sizeLine ∧ lcGo dg dt de ρ Q (xs.map enc) (acc ++ [d]))
    refine step (fun hp => ?_) (fun hp => ⟨by omega, ?_⟩)
    · refine lc_mapF enc p f xs acc (by omega) (fun y hy => h1 y (List.mem_cons_of_mem _ hy)) ?_
      rw [List.filter_cons, if_neg (by rw [hp]; decide)] at h
      exact h
    · refine lc_mapF enc p f xs (acc ++ [f x]) (by rw [List.length_append, List.length_singleton]; omega) (fun y hy => h1 y (List.mem_cons_of_mem _ hy)) ?_
      rw [List.filter_cons, if_pos hp] at h
      rw [List.append_assoc]
      exact h
theorem lc_filter {α : Type} {dg : dG} {dt : dT} {de : dE} {ρ : List S} {Q : Z → Prop} (enc : α → D) (p : α → Bool) (f : α → D) {xs : List α} (hl : xs.length < sizeLine)
    (h1 : ∀ x ∈ xs, ∀ (R0 : Prop) (R1 : D → Prop), (p x = false → R0) → (p x = true → R1 (f x)) → dg (enc x) ρ fun ρ1 => dt ρ1 fun b => if b = true then de ρ1 fun z => match z.own with
      | some d => R1 d
      | none => False
    else R0) (h : Q (.n (.l ((xs.filter p).map f)))) : lcGo dg dt de ρ Q (xs.map enc) [] :=
  lc_mapF enc p f xs [] (by simpa using hl) h1 h
theorem lc_each {α : Type} {dg : dG} {de : dE} {ρ : List S} {Q : Z → Prop} (enc : α → D) (f : α → D) {xs : List α} (hl : xs.length < sizeLine)
    (h1 : ∀ x ∈ xs, ∀ (R1 : D → Prop), R1 (f x) → dg (enc x) ρ fun ρ1 => de ρ1 fun z => match z.own with
      | some d => R1 d
      | none => False) (h : Q (.n (.l (xs.map f)))) : lcGo dg dYes de ρ Q (xs.map enc) [] := by
  refine lc_filter enc (fun _ => true) f hl (fun x hx R0 R1 _ k1 => h1 x hx R1 (k1 rfl)) ?_
  have e : xs.filter (fun _ => true) = xs := List.filter_eq_self.mpr fun _ _ => rfl
  rw [e]
  exact h
theorem len_map {α : Type} {f : α → D} {xs : List α} {n : Nat} (h : xs.length ≤ n) : (xs.map f).length ≤ n := by rw [List.length_map]; exact h
theorem upFrom_eq (lo : Int) (n : Nat) : upFrom lo n = (List.range n).map fun (i : Nat) => PyData.int (lo + (i : Int)) := by
  unfold upFrom
  rfl
end Dl

set_option maxHeartbeats 2000000
namespace Dl
open PySem L2
/-- a promise by what holds of its answer -/
def dem (n : Nat) (P : List D → (Z → Prop) → Prop) : FD := fun as Q => as.length = n ∧ ∃ R, P as R ∧ ∀ z, R z → Q z
theorem mon_dem {n : Nat} {P : List D → (Z → Prop) → Prop} : Mon (dem n P) := by
  rintro as Q Q' h ⟨l, R, p, q⟩
  exact ⟨l, R, p, fun z r => h _ (q z r)⟩
theorem len_dem {n : Nat} {P : List D → (Z → Prop) → Prop} : ∀ as Q, dem n P as Q → as.length = n := fun _ _ h => h.1
theorem take_len {α : Type} {xs : List α} {k : Nat} (h : k ≤ xs.length) : (xs.take k).length = k := by rw [List.length_take]; omega
theorem cut_map {α β : Type} (f : α → β) (xs : List α) (lo hi : Option Int) : cutD (xs.map f) lo hi = (cutD xs lo hi).map f := by
  unfold cutD
  rw [List.length_map, List.map_take, List.map_drop]
theorem cut_sub {α : Type} {xs : List α} {lo hi : Option Int} : ∀ x ∈ cutD xs lo hi, x ∈ xs := fun x hx => List.mem_of_mem_drop (List.mem_of_mem_take hx)
theorem cut_len {α : Type} {xs : List α} {lo hi : Option Int} : (cutD xs lo hi).length ≤ xs.length := by
  unfold cutD
  rw [List.length_take, List.length_drop]
  omega
theorem ints_snoc {p : Int → Prop} {xs : List Int} {x : Int} (h : ∀ y ∈ xs, p y) (hx : p x) : ∀ y ∈ xs ++ [x], p y := fun y hy => by
  rcases List.mem_append.mp hy with z | z
  · exact h y z
  · rw [List.mem_singleton.mp z]; exact hx
theorem app_int (xs : List Int) (x : Int) : xs.map PyData.int ++ [.int x] = (xs ++ [x]).map PyData.int := by rw [List.map_append]; rfl
end Dl

set_option maxHeartbeats 2000000
namespace Dl
open PySem L2
/-! ### list * int (a list of our own) -/
def Z.ownL : Z → Option (List D)
  | .b (.l xs) => some xs
  | .n (.l xs) => some xs
  | _ => none
theorem ZIs.ownL {K : Kx} {B H H_0 : Hp} {G : Addr → Prop} {z : Z} {v : V} {xs : List D} (h : ZIs K B H G H_0 z v) (e : z.ownL = some xs) : ∃ a vs, v = .ref a ∧ H a = some (.lst vs) ∧ DqAll K.f B vs xs := by
  unfold Z.ownL at e
  split at e
  · cases e
    obtain ⟨R, _, _, o⟩ := h
    obtain ⟨a, vs, h1, _, h3, h4⟩ := o.ll
    exact ⟨a, vs, h1, h3, h4⟩
  · cases e
    obtain ⟨R, _, _, o⟩ := h
    obtain ⟨a, vs, h1, _, h3, h4⟩ := o.ll
    exact ⟨a, vs, h1, h3, h4⟩
  · cases e
def dMulA (x y : Z) (Q : Z → Prop) : Prop := match x.ownL, y.data with
  | some xs, some (.int k) => (-(2 ^ 63) ≤ k ∧ k < 2 ^ 63) ∧ xs.length * k.toNat ≤ sizeLine ∧ Q (.n (.l (List.replicate k.toNat xs).flatten))
  | _, _ => dMul x y Q
def rMulA : R2 := fun x y H Q => rMulI x y H Q ∨ rRep x y H Q
theorem op_mulA {X : Cx} : OpR X (binaryOp .Mult) rMulA := OpR.or op_mul op_rep
theorem dps_flat {K : Kx} {B : Hp} {vs : List V} {ds : List D} (h : DqAll K B vs ds) : ∀ n, DqAll K B (List.replicate n vs).flatten (List.replicate n ds).flatten
  | 0 => .nil
  | n + 1 => by
    show DqAll K B (vs ++ (List.replicate n vs).flatten) (ds ++ (List.replicate n ds).flatten)
    exact dps_app h (dps_flat h n)
theorem simR_mulA {K : Kx} : SimR K rMulA dMulA := by
  intro B H G H_0 x y v w Qd Q ok zx zy h k
  unfold dMulA at h
  split at h
  · rename_i xs j e1 e2
    obtain ⟨a, vs, rfl, h1, h2⟩ := zx.ownL e1
    refine .inr ⟨a, j, vs, rfl, dp_int (zy.dp ok.ex e2), h1, h.1.1, h.1.2, by rw [dps_len h2]; exact h.2.1, fun p hp => ?_⟩
    obtain ⟨g, z⟩ := new_list ok hp (dps_flat h2 j.toNat)
    exact k _ _ _ _ g z h.2.2
  · exact .inl (simR_I (fun _ _ _ => .int _) ok zx zy h k)
theorem ce_mulA {X : Cx} {A : Ax} {a b : Expr} {ta tb : TE} {da db : dE} {pos : Pos} (ha : CE X A a ta da) (hb : CE X A b tb db) : CE X A (.BinOp a .Mult b pos) (tOp rMulA ta tb) (dOp dMulA da db) := ce_op op_mulA simR_mulA ha hb
/-! ### defs with defaults -/
/-- a value of the written part and its datum -/
def KX (K : PySem.W.Frag) (u : Value) (d : D) : Prop := ∃ v, RelV v u ∧ ∀ H, Dq K H v d
def KXs (K : PySem.W.Frag) (us : List Value) (ds : List D) : Prop := ∃ vs, Vals vs us ∧ ∀ H, DqAll K H vs ds
section
variable {K : PySem.W.Frag}
theorem kx_of {u : Value} {d : D} (h : KD K u d) : KX K u d := kd_dq h
theorem kxs_nil : KXs K [] [] := ⟨[], .nil, fun _ => .nil⟩
theorem kxs_cons {u : Value} {us : List Value} {d : D} {ds : List D} (h : KX K u d) (t : KXs K us ds) : KXs K (u :: us) (d :: ds) := by
  obtain ⟨v, r, q⟩ := h
  obtain ⟨vs, rs, qs⟩ := t
  exact ⟨v :: vs, .cons r rs, fun H => .cons (q H) (qs H)⟩
theorem kx_tup {a : Addr} {dd : Option Addr} {us : Array Value} {n : Nat} {sl : Array (Option Value)} {ds : List D} (hk : K.lookup a = some ⟨.type "tuple", dd, .seq us n, sl⟩) (hs : us.size ≤ sizeLine) (hd : KXs K us.toList ds) : KX K (.ref a) (.tuple ds) := by
  obtain ⟨vs, r, q⟩ := hd
  exact ⟨.ref a, rfl, fun H => .tup (.inr ⟨_, us, n, hk, rfl, rfl, hs, r⟩) (q H)⟩
end
section
variable {P : Program} {w : World} {K : PySem.W.Frag} {mg : Str → Option Value} {base : Heap} {x qual : Str} {st : Stmt} {f : Addr} {fd : FuncData}
/-- a def of the text whose defaults stand for data -/
structure FunX (K : PySem.W.Frag) (x qual : Str) (st : Stmt) (dds : List D) (f : Addr) (fd : FuncData) : Prop where
  ex : ∃ dvs, FunD K x qual (defArgs st) (defBody st) (defScope st) dvs [] f fd ∧ dvs ≠ [] ∧ ∀ H, DqAll K H dvs dds
theorem funx_mk {oc : Value} {od an td : Option Addr} {osl ts : Array (Option Value)} {kV doc pm cdv ct : Value} {T : Addr} {us : Array Value} {n : Nat} {dds : List D}
    (l : K.lookup f = some ⟨oc, od, .func (PySem.W.fnOf x qual (defArgs st) (defBody st) (defScope st) (.ref T) kV doc pm an cdv ct), osl⟩)
    (c : PySem.W.codeIn K cdv qual = true) (k : PySem.W.keepIn K (.ref f) = true) (t : K.lookup T = some ⟨.type "tuple", td, .seq us n, ts⟩) (hd : KXs K us.toList dds) (ne : dds ≠ []) : FunX K x qual st dds f (PySem.W.fnOf x qual (defArgs st) (defBody st) (defScope st) (.ref T) kV doc pm an cdv ct) := by
  obtain ⟨vs, r, q⟩ := hd
  have ne' : vs ≠ [] := fun e => by
    subst e
    have := q (fun _ => none)
    cases this
    exact ne rfl
  exact ⟨vs, ⟨⟨oc, od, .ref T, kV, doc, pm, an, cdv, ct, osl, rfl, l, c, .inr ⟨ne', T, _, us.toList, n, rfl, t, by simp, r⟩, .inl rfl⟩, k⟩, ne', q⟩
theorem FunX.kp {dds : List D} (F : FunX K x qual st dds f fd) : PySem.W.keepIn K (.ref f) = true := by
  obtain ⟨_, h, _⟩ := F.ex
  exact h.kp
theorem fn_dataX {dds : List D} {N ps : List Str} {k : Nat} {F : FD} {ds : dS} {A : Ax} (Fn : FunX K x qual st dds f fd) (Sc : FnScope N ps (defScope st)) (hn : A.n = N.length) (hps : ps.length ≤ N.length)
    (hb : ∀ (cdv : Value) (Ar : Around) (outer : List Env) (s : Shared) (H : Hp) (E : XK), Room k (Ar.deeper (PyProof.Rows.envOfC qual (defScope st) s.heap.objs.size f cdv)) → ∃ ts, PSs (cxOf CX0 P w K mg base N qual (defScope st) f cdv Ar outer s H E).nox (defBody st) ts ∧ SimS (kt A K mg) A (fun _ _ _ _ => False) ts ds)
    (len : ∀ as Q, F as Q → as.length = ps.length)
    (ok : ∀ as Q, F as Q → ds (fE Q) (args N.length as)) : FnOk P w K mg base CX0 (k + 1) f fd ps (spV (kt A K mg) F) := by
  obtain ⟨dvs, FD0, _, _⟩ := Fn.ex
  obtain ⟨oc, od, dV, kV, doc, pm, an, cdv0, ct, osl, rfl, lk, hcd, _, _⟩ := FD0.ex
  refine fn_of lk hcd Sc (fun vs H Q E h => ?_) fun Ar outer s H vs Q E hr h => ?_
  · obtain ⟨B, G, as, _, hv, hf⟩ := h
    rw [dps_len hv]
    exact len _ _ hf
  · obtain ⟨B, G, as, o, hv, hf⟩ := h
    obtain ⟨ts, c, sim⟩ := hb cdv0 Ar outer s H E hr
    have hl := len _ _ hf
    refine ⟨ts, c.nox, sim.run (rep_start o.ex hn (by omega) hv) (ok as _ hf) (fun B' H' G' σ' ρ' x p q => ?_) (fun B' H' G' σ' ρ' z v x p r q => ?_) (fun _ _ _ _ _ _ _ z => z.elim) (fun _ _ _ _ _ _ _ z => z.elim) (fun _ _ _ _ _ _ _ _ _ _ _ z => z.elim)⟩
    · exact q .non B' H' ⟨x.b, fun a o h => x.keep a o (fun z => z) h, p.ex, fun a h => (x.nw a h).elim .inl fun z => z.elim .inr fun z => z.elim⟩ .non
    · have gr : Gr B H B' H' := ⟨x.b, fun a o h => x.keep a o (fun z => z) h, p.ex, fun a h => (x.nw a h).elim .inl fun z => z.elim .inr fun z => z.elim⟩
      refine q v B' H' gr ?_
      cases z with
      | v d => exact r
      | b s => obtain ⟨R, r1, n, q1⟩ := r; exact ⟨R, fun a ra => ⟨(x.own a (r1 a ra)).elim (fun z => z.elim) fun z => z, p.ok.off a (r1 a ra), p.ok.on a (r1 a ra)⟩, n, q1⟩
      | n s => obtain ⟨R, r1, n, q1⟩ := r; exact ⟨R, fun a ra => ⟨(r1 a ra).1.elim (fun z => z) (fun z => z.elim), (r1 a ra).2.2⟩, n, q1⟩
theorem FunX.binds {dds : List D} {ps : List Str} (F : FunX K x qual st dds f fd) (m j : Nat) (hn : m + (dds.length - j) = ps.length)
    (h : ∀ (T : Addr) (kV doc pm : Value) (an : Option Addr) (cdv ct : Value) (us its : List Value), us.length = m → its.length = dds.length →
      ∃ k, bindArgs (PySem.W.fnOf x qual (defArgs st) (defBody st) (defScope st) (.ref T) kV doc pm an cdv ct) ⟨us, []⟩ = seqItems? (.ref T) >>= k ∧ k (some its.toArray) = pure (ps.zip (us ++ its.drop j))) :
    ∃ vs ds, Vals vs ds ∧ Binds K fd ps ds ∧ ∀ H, DqAll K H vs (dds.drop j) := by
  obtain ⟨dvs, F0, ne, q⟩ := F.ex
  have hl : dvs.length = dds.length := dps_len (q fun _ => none)
  obtain ⟨ds, v, b⟩ := F0.binds1 m j ne (by rw [hl]; exact hn) fun T kV doc pm an cdv ct us its h1 h2 => h T kV doc pm an cdv ct us its h1 (by rw [← hl]; exact h2)
  exact ⟨_, _, v, b, fun H => dps_drop _ (q H)⟩
end
end Dl

set_option maxHeartbeats 2000000
namespace Dl
open PySem L2
/-! ### calls with keywords, named in the parameters' order -/
structure CK (X : Cx) (A : Ax) (kws : List Keyword) (ta : TA) (dc : dC) : Prop where
  pk : PK X kws ta
  sim : SimC (kx A X) A ta dc
theorem ck_nil {X : Cx} {A : Ax} : CK X A [] tNil dCnil := ⟨pk_nil, sim_cnil⟩
theorem ck_cons {X : Cx} {A : Ax} {e : Expr} {te : TE} {de : dE} {kws : List Keyword} {t : TA} {d : dC} {nm} {kpos : Pos} (ha : CE X A e te de) (hr : CK X A kws t d) : CK X A (⟨nm, e, kpos⟩ :: kws) (tCons te t) (dCcons de d) := ⟨pk_cons ha.pe hr.pk, sim_ccons ha.sim hr.sim⟩
def dCallK (f : FD) (n m : Nat) (dc dk : dC) : dE := fun ρ Q => dc ρ fun ds => dk ρ fun es => ds.length = n ∧ es.length = m ∧ f (ds ++ es) Q
theorem sim_callK {K : Kx} {A : Ax} {f : FD} {n m : Nat} {E : XK} {ta tk : TA} {dc dk : dC} (hm : Mon f) (h : SimC K A ta dc) (hk : SimC K A tk dk) : SimE K A (tCallN n m (spV K f) (fun vs zs => vs ++ zs) E ta tk) (dCallK f n m dc dk) := by
  refine ⟨fun {B H G σ ρ Qd Q} p q k => ?_⟩
  refine h.run p q fun ds vs B1 H1 g1 z1 h1 => ?_
  refine hk.run (p.gr g1) h1 fun es zs B2 H2 g2 z2 h2 => ?_
  refine ⟨(dps_len z1).trans h2.1, (dps_len z2).trans h2.2.1, B2, G, ds ++ es, (p.gr g1).ok.gr g2, dps_app (dps_mono g2.b _ _ z1) z2, hm _ _ _ (fun z hz => fun v B' H' g' z' => ?_) h2.2.2⟩
  exact k z v B' H' ((g1.trans g2).trans g') (z'.early (g1.trans g2).h) hz
structure HasK (P : Program) (w : World) (K : Kx) (mg : Str → Option Value) (base : Heap) (k : Nat) (x : Str) (ps : List Str) (F : FD) (n : Nat) (ks : List Str) : Prop where
  ex : ∃ f fd, FnOk P w K mg base CX0 k f fd ps (spV K F) ∧ mg x = some (.ref f) ∧ PySem.W.keepIn K (.ref f) = true ∧ KBn K fd ps n ks (fun us ws => us ++ ws) (fun vs zs => vs ++ zs)
  mon : Mon F
theorem ce_hasK {X : Cx} {A : Ax} {k k' n m : Nat} {ps ks : List Str} {F : FD} {x : Str} {p pos : Pos} {e : Expr} {es : List Expr} {kws : List Keyword} {t tk : TA} {d dk : dC} (h : HasK X.prog X.w (kx A X) X.mg X.base k x ps F n ks) (hr : Room k' X.A) (hk : k ≤ k') (ha : CC X A (e :: es) t d) (hkw : CK X A kws tk dk)
    (hm : ks.length = m := by rfl) (hg : Gl X x := by rfl) (hall : (backToKw pos (keywordEach kws X.env)).all (·.1.isSome) = true := by rfl) (hks : (backToKw pos (keywordEach kws X.env)).filterMap (·.1) = ks := by rfl)
    (hdb : (x == ("__debug__" : Str)) = false := by decide) (he : starEach (e :: es) X.env = (false, eval e X.env) :: starEach es X.env := by rfl)
    (hpl : ((backTo pos (starEach (e :: es) X.env)).any (·.1) || (backToKw pos (keywordEach kws X.env)).any (·.1.isNone)) = false := by rfl) :
    CE X A (.Call (.Name x p) (e :: es) kws pos) (tCallN n m (spV (kx A X) F) (fun vs zs => vs ++ zs) E0 t tk) (dCallK F n m d dk) := by
  subst hm
  obtain ⟨f, fd, G, hm, kp, b⟩ := h.ex
  exact ⟨pe_callN G (hr.mono hk) hg hm kp b pass0 ha.pa hkw.pk hall hks hdb he hpl, sim_callK h.mon ha.sim hkw.sim⟩
section
variable {K : PySem.W.Frag} {x qual : Str} {st : Stmt} {f : Addr} {fd : FuncData}
theorem FunX.kbn {dds : List D} {ps : List Str} (F : FunX K x qual st dds f fd) (n : Nat) (ks : List Str)
    (h : ∀ (T : Addr) (kV doc pm : Value) (an : Option Addr) (cdv ct : Value) (us its ws : List Value), us.length = n → its.length = dds.length → ws.length = ks.length →
      ∃ k, bindArgs (PySem.W.fnOf x qual (defArgs st) (defBody st) (defScope st) (.ref T) kV doc pm an cdv ct) ⟨us, ks.zip ws⟩ = seqItems? (.ref T) >>= k ∧ k (some its.toArray) = pure (ps.zip (us ++ ws))) :
    KBn K fd ps n ks (fun us ws => us ++ ws) (fun vs zs => vs ++ zs) := by
  obtain ⟨dvs, F0, ne, q⟩ := F.ex
  have hl : dvs.length = dds.length := dps_len (q fun _ => none)
  obtain ⟨oc, od, dV, kV, doc, pm, an, cdv, ct, osl, rfl, lk, hcd, hD, hK⟩ := F0.ex
  rcases hD with ⟨e, _⟩ | ⟨_, T, o, its, m, rfl, lT, oT, rT⟩
  · exact absurd e ne
  · refine ⟨fun s us ws X l1 l2 => ?_, fun r1 r2 => r1.append r2⟩
    obtain ⟨k, e1, e2⟩ := h T kV doc pm an cdv ct us its ws l1 (rT.length.symm.trans hl) l2
    refine BindsTo.of_looks fun M => ?_
    rw [e1]
    exact looks_items X lT oT (.of_pure e2)
end
end Dl

set_option maxHeartbeats 2000000
namespace Dl
open PySem L2
/-! ### dicts, read -/
def rDGet : R2 := fun x y H Q => ∃ a v, x = .ref a ∧ DGet H a y (some v) ∧ Q v H
theorem ix_dget {X : Cx} (hu : X.A.units + 1 < cLine) : IxR X rDGet := by
  intro value slice pins s σ H x y v u Q I rx ry h hs
  obtain ⟨a, w, rfl, g, q⟩ := h
  obtain rfl : v = Value.ref a := rx
  exact PyProof.Rows.tail_any (dict_typeIs I g) PySem.F.slot_dict_getitem.lookup (d_getItem hu I g ry fun w' s3 I3 rw' => ⟨w, H, I3, rw', q⟩) hs
/-- d[k], by data -/
def lookD (kvs : List (D × D)) (k : D) : Option D := (kvs.find? fun kv => decide (keyA kv.1 = keyA k)).map (·.2)
theorem keyA_k {d : D} {k : Key} (h : keyD d = some k) : keyA d = some (.inl k) := by unfold keyA; rw [h]
theorem keyA_t {d : D} {k : List Key} (h : keyT d = some k) : keyA d = some (.inr k) := by
  cases d with
  | tuple ds =>
    show (keyT (.tuple ds)).map Sum.inr = _
    rw [h]
    rfl
  | _ => cases h
theorem look_k {K : Kx} {H : Hp} {c : D} {k : Key} (hc : keyD c = some k) : ∀ {xs : List (Key × V)} {kvs : List (D × D)} {d : D}, DqKs K H xs kvs → lookD kvs c = some d → ∃ v, valV xs k = some v ∧ Dq K H v d
  | _, _, _, .nil, h => by cases h
  | _, _, d, .cons (k := k1) (v := v1) (vs := vs) (c := c1) (d := d1) (ds := ds) h0 h1 h2, h => by
    by_cases e : k1 = k
    · subst e
      have : lookD ((c1, d1) :: ds) c = some d1 := by
        unfold lookD
        rw [List.find?_cons, decide_eq_true (show keyA c1 = keyA c by rw [keyA_k h0, keyA_k hc])]
        rfl
      rw [this] at h
      cases h
      exact ⟨v1, valV_pos rfl, h1⟩
    · have : lookD ((c1, d1) :: ds) c = lookD ds c := by
        unfold lookD
        rw [List.find?_cons, decide_eq_false (show ¬ keyA c1 = keyA c by rw [keyA_k h0, keyA_k hc]; intro z; exact e (Sum.inl.inj (Option.some.inj z)))]
      rw [this] at h
      obtain ⟨v, hv, q⟩ := look_k hc h2 h
      exact ⟨v, (valV_neg e).trans hv, q⟩
theorem look_t {K : Kx} {H : Hp} {c : D} {k : List Key} (hc : keyT c = some k) : ∀ {xs : List (List Key × V)} {kvs : List (D × D)} {d : D}, DqTs K H xs kvs → lookD kvs c = some d → ∃ v, valV xs k = some v ∧ Dq K H v d
  | _, _, _, .nil, h => by cases h
  | _, _, d, .cons (k := k1) (v := v1) (vs := vs) (c := c1) (d := d1) (ds := ds) h0 h1 h2, h => by
    by_cases e : k1 = k
    · subst e
      have : lookD ((c1, d1) :: ds) c = some d1 := by
        unfold lookD
        rw [List.find?_cons, decide_eq_true (show keyA c1 = keyA c by rw [keyA_t h0, keyA_t hc])]
        rfl
      rw [this] at h
      cases h
      exact ⟨v1, valV_pos rfl, h1⟩
    · have : lookD ((c1, d1) :: ds) c = lookD ds c := by
        unfold lookD
        rw [List.find?_cons, decide_eq_false (show ¬ keyA c1 = keyA c by rw [keyA_t h0, keyA_t hc]; intro z; exact e (Sum.inr.inj (Option.some.inj z)))]
      rw [this] at h
      obtain ⟨v, hv, q⟩ := look_t hc h2 h
      exact ⟨v, (valV_neg e).trans hv, q⟩
/-! what a change makes of the data -/
def hitD (c : D) (kv : D × D) : Bool := decide (keyA kv.1 = keyA c)
def putD (kvs : List (D × D)) (c d : D) : List (D × D) := if kvs.any (hitD c) = true then kvs.map (fun kv => if hitD c kv = true then (kv.1, d) else kv) else kvs ++ [(c, d)]
def dropD (kvs : List (D × D)) (c : D) : List (D × D) := kvs.filter fun kv => !hitD c kv
section
variable {K : Kx} {A : Ax} {H : Hp} {c d : D} {k : Key} {w : V}
theorem hit_k (hc : keyD c = some k) {k1 : Key} {c1 d1 : D} (h0 : keyD c1 = some k1) : hitD c (c1, d1) = decide (k1 = k) := by
  unfold hitD
  rw [keyA_k h0, keyA_k hc]
  by_cases e : k1 = k
  · subst e; simp
  · rw [decide_eq_false e]
    exact decide_eq_false fun z => e (Sum.inl.inj (Option.some.inj z))
theorem any_k (hc : keyD c = some k) : ∀ {xs : List (Key × V)} {kvs : List (D × D)}, DqKs K H xs kvs → (xs.any fun kv => decide (kv.1 = k)) = kvs.any (hitD c)
  | _, _, .nil => rfl
  | _, _, .cons h0 h1 h2 => by rw [List.any_cons, List.any_cons, any_k hc h2, hit_k hc h0]
theorem map_k (hc : keyD c = some k) (hd : Dq K H w d) : ∀ {xs : List (Key × V)} {kvs : List (D × D)}, DqKs K H xs kvs → DqKs K H (xs.map fun kv => if kv.1 = k then (kv.1, w) else kv) (kvs.map fun kv => if hitD c kv = true then (kv.1, d) else kv)
  | _, _, .nil => .nil
  | _, _, .cons (k := k1) (c := c1) (d := d1) h0 h1 h2 => by
    rw [List.map_cons, List.map_cons, hit_k hc h0]
    by_cases e : k1 = k
    · rw [if_pos e, if_pos (decide_eq_true e)]
      exact .cons h0 hd (map_k hc hd h2)
    · rw [if_neg e, if_neg (fun z => e (of_decide_eq_true z))]
      exact .cons h0 h1 (map_k hc hd h2)
theorem app_k (hc : keyD c = some k) (hd : Dq K H w d) : ∀ {xs : List (Key × V)} {kvs : List (D × D)}, DqKs K H xs kvs → DqKs K H (xs ++ [(k, w)]) (kvs ++ [(c, d)])
  | _, _, .nil => .cons hc hd .nil
  | _, _, .cons h0 h1 h2 => .cons h0 h1 (app_k hc hd h2)
theorem put_k (hc : keyD c = some k) (hd : Dq K H w d) {xs : List (Key × V)} {kvs : List (D × D)} (h : DqKs K H xs kvs) : DqKs K H (putK xs k w) (putD kvs c d) := by
  unfold putK putD
  rw [any_k hc h]
  split
  · exact map_k hc hd h
  · exact app_k hc hd h
theorem drop_k (hc : keyD c = some k) : ∀ {xs : List (Key × V)} {kvs : List (D × D)}, DqKs K H xs kvs → DqKs K H (dropK xs k) (dropD kvs c)
  | _, _, .nil => .nil
  | _, _, .cons (k := k1) (v := v1) (vs := vs) (c := c1) (d := d1) (ds := ds) h0 h1 h2 => by
    have ih := drop_k hc h2
    unfold dropK dropD at ih ⊢
    rw [List.filter_cons, List.filter_cons, hit_k hc h0]
    by_cases e : k1 = k
    · rw [if_neg (by simp [e]), if_neg (by simp [e])]
      exact ih
    · rw [if_pos (by simp [e]), if_pos (by simp [e])]
      exact .cons h0 h1 ih
end
section
variable {K : Kx} {A : Ax} {H : Hp} {c d : D} {k : List Key} {w : V}
theorem hit_t (hc : keyT c = some k) {k1 : List Key} {c1 d1 : D} (h0 : keyT c1 = some k1) : hitD c (c1, d1) = decide (k1 = k) := by
  unfold hitD
  rw [keyA_t h0, keyA_t hc]
  by_cases e : k1 = k
  · subst e; simp
  · rw [decide_eq_false e]
    exact decide_eq_false fun z => e (Sum.inr.inj (Option.some.inj z))
theorem any_t (hc : keyT c = some k) : ∀ {xs : List (List Key × V)} {kvs : List (D × D)}, DqTs K H xs kvs → (xs.any fun kv => decide (kv.1 = k)) = kvs.any (hitD c)
  | _, _, .nil => rfl
  | _, _, .cons h0 h1 h2 => by rw [List.any_cons, List.any_cons, any_t hc h2, hit_t hc h0]
theorem map_t (hc : keyT c = some k) (hd : Dq K H w d) : ∀ {xs : List (List Key × V)} {kvs : List (D × D)}, DqTs K H xs kvs → DqTs K H (xs.map fun kv => if kv.1 = k then (kv.1, w) else kv) (kvs.map fun kv => if hitD c kv = true then (kv.1, d) else kv)
  | _, _, .nil => .nil
  | _, _, .cons (k := k1) (c := c1) (d := d1) h0 h1 h2 => by
    rw [List.map_cons, List.map_cons, hit_t hc h0]
    by_cases e : k1 = k
    · rw [if_pos e, if_pos (decide_eq_true e)]
      exact .cons h0 hd (map_t hc hd h2)
    · rw [if_neg e, if_neg (fun z => e (of_decide_eq_true z))]
      exact .cons h0 h1 (map_t hc hd h2)
theorem app_t (hc : keyT c = some k) (hd : Dq K H w d) : ∀ {xs : List (List Key × V)} {kvs : List (D × D)}, DqTs K H xs kvs → DqTs K H (xs ++ [(k, w)]) (kvs ++ [(c, d)])
  | _, _, .nil => .cons hc hd .nil
  | _, _, .cons h0 h1 h2 => .cons h0 h1 (app_t hc hd h2)
theorem put_t (hc : keyT c = some k) (hd : Dq K H w d) {xs : List (List Key × V)} {kvs : List (D × D)} (h : DqTs K H xs kvs) : DqTs K H (putK xs k w) (putD kvs c d) := by
  unfold putK putD
  rw [any_t hc h]
  split
  · exact map_t hc hd h
  · exact app_t hc hd h
theorem drop_t (hc : keyT c = some k) : ∀ {xs : List (List Key × V)} {kvs : List (D × D)}, DqTs K H xs kvs → DqTs K H (dropK xs k) (dropD kvs c)
  | _, _, .nil => .nil
  | _, _, .cons (k := k1) (v := v1) (vs := vs) (c := c1) (d := d1) (ds := ds) h0 h1 h2 => by
    have ih := drop_t hc h2
    unfold dropK dropD at ih ⊢
    rw [List.filter_cons, List.filter_cons, hit_t hc h0]
    by_cases e : k1 = k
    · rw [if_neg (by simp [e]), if_neg (by simp [e])]
      exact ih
    · rw [if_pos (by simp [e]), if_pos (by simp [e])]
      exact .cons h0 h1 ih
end
section
variable {X : Cx} {A : Ax} {pins : List (Addr × Obj)} {σ : St} {H : Hp} {s : Shared} {a b : Addr} {v : V} {E : Value → Shared → Prop}
/-- a tuple of ints and texts, tracked or of the module, is a key -/
theorem key_sq {k : List Key} (I : Inv X pins σ H s) (h : SqT X.K H b (k.map kV)) : (tupleKind (mixKind X.prog X.w)).is s.heap k b := by
  obtain ⟨its, r, ⟨o, h1, h2, n, h3⟩, _⟩ := I.tuple h
  exact ⟨o, its.toArray, n, h1, h2, h3, by simpa using items_are r⟩
theorem get_sq {A : Around} {kvs : List (List Key × V)} {k : List Key} {Q : Value → Shared → Prop} (hu : A.units + 1 < cLine) (I : Inv X pins σ H s) (e : Rd H a (.dT kvs)) (hk : SqT X.K H b (k.map kV)) (hv : valV kvs k = some v)
    (h : ∀ w' s', Inv X pins σ H s' → RelV v w' → Q w' s') : wpAny (model X.prog X.w) A (getItem (.ref a) (.ref b)) Q E s := by
  obtain ⟨z, hd, xs, rel, dd⟩ := dt_rd I.hok e
  obtain ⟨w', hw, rw'⟩ := RelO.some_of (v := v) (o := (atKey xs k).map (·.2)) (by rw [← hv]; exact rel.val k)
  obtain ⟨p, hp, hp2⟩ := Option.map_eq_some_iff.mp hw
  refine wpAny_getItem_heap (tupleKind_room_in1 hu) (key_sq I hk) dd hp ?_
  rw [hp2]
  exact h w' _ (I.tok _) rw'
theorem in_sq {A : Around} {kvs : List (List Key × V)} {k : List Key} {Q : Value → Shared → Prop} (hu : A.units + 1 < cLine) (I : Inv X pins σ H s) (e : Rd H a (.dT kvs)) (hk : SqT X.K H b (k.map kV))
    (h : ∀ s', Inv X pins σ H s' → Q (.bool (valV kvs k).isSome) s') : wpAny (model X.prog X.w) A (compareOp .In (.ref b) (.ref a)) Q E s := by
  obtain ⟨z, hd, xs, rel, dd⟩ := dt_rd I.hok e
  refine wpAny_in_heap (tupleKind_room_in1 hu) (key_sq I hk) hd dd ?_
  have q := (rel.val k).isSome_eq
  rw [Option.isSome_map] at q
  rw [← q]
  exact h _ (I.tok _)
end
section
variable {K : Kx} {A : Ax}
theorem key_dq {H : Hp} {y : V} {c : D} {k : Key} (h : Dq K H y c) (hk : keyD c = some k) : y = kV k := by
  cases h with
  | int i => cases hk; rfl
  | str x => cases hk; rfl
  | _ => cases hk
theorem keys_dq {H : Hp} : ∀ {vs : List V} {ds : List D} {ks : List Key}, DqAll K H vs ds → keysD ds = some ks → vs = ks.map kV
  | _, _, _, .nil, h => by cases h; rfl
  | _, _, ks, .cons (d := d) (ds := ds) a t, h => by
    unfold keysD at h
    split at h
    · rename_i k ks' e1 e2
      cases h
      rw [key_dq a e1, keys_dq t e2]
      rfl
    · cases h
theorem keyt_dq {H : Hp} {y : V} {c : D} {k : List Key} (h : Dq K H y c) (hk : keyT c = some k) : ∃ b, y = .ref b ∧ SqT K H b (k.map kV) := by
  cases h with
  | tup hs ha =>
    have e := keys_dq ha hk
    subst e
    exact ⟨_, rfl, hs⟩
  | _ => cases hk
end
/-- the kind of a dict's keys, as they stand: tuples? -/
def kindT (kvs : List (D × D)) : Bool := !(kvs.all fun kv => (keyD kv.1).isSome)
/-- a dict that is read: data, or our own -/
def S.dicv : S → Option (Bool × List (D × D))
  | .dc t kvs => some (t, kvs)
  | .lk t _ kvs => some (t, kvs)
  | .v (.dict [(.none, .list _)]) => none
  | .v (.dict kvs) => some (kindT kvs, kvs)
  | _ => none
def Z.dicv : Z → Option (Bool × List (D × D))
  | .v d => S.dicv (.v d)
  | .b s => s.dicv
  | .n s => s.dicv
def DicRd (K : PySem.W.Frag) (B H : Hp) (a : Addr) (t : Bool) (kvs : List (D × D)) : Prop := (t = false ∧ ∃ xs, Rd H a (.dK xs) ∧ DqKs K B xs kvs) ∨ (t = true ∧ ∃ xs, Rd H a (.dT xs) ∧ DqTs K B xs kvs)
section
variable {K : PySem.W.Frag} {H : Hp}
theorem kind_k : ∀ {xs : List (Key × V)} {kvs : List (D × D)}, DqKs K H xs kvs → kindT kvs = false
  | _, _, .nil => rfl
  | _, _, .cons h0 h1 h2 => by
    have := kind_k h2
    unfold kindT at this ⊢
    rw [List.all_cons, h0]
    exact this
theorem keyD_T {c : D} {k : List Key} (h : keyT c = some k) : keyD c = none := by cases c <;> first | rfl | cases h
theorem kind_t {xs : List (List Key × V)} {kvs : List (D × D)} (h : DqTs K H xs kvs) (ne : kvs ≠ []) : kindT kvs = true := by
  cases h with
  | nil => exact absurd rfl ne
  | cons h0 h1 h2 =>
    unfold kindT
    rw [List.all_cons, keyD_T h0]
    rfl
end
section
variable {K : Kx} {A : Ax}
theorem Own.dicv {B H : Hp} {R : Addr → Prop} {s : S} {v : V} {t : Bool} {kvs : List (D × D)} (h : Own K B H s v R) (ex : Ex B H) (e : s.dicv = some (t, kvs)) : ∃ a, v = .ref a ∧ DicRd K.f B H a t kvs := by
  unfold S.dicv at e
  split at e
  · cases e
    obtain ⟨a, rfl, _, q⟩ := h.dcc
    rcases q with ⟨ht, xs, e, q⟩ | ⟨ht, xs, e, q⟩
    · exact ⟨a, rfl, .inl ⟨ht, xs, .inl e, q⟩⟩
    · exact ⟨a, rfl, .inr ⟨ht, xs, .inl e, q⟩⟩
  · cases e
    rw [Own] at h
    obtain ⟨a, rfl, _, q⟩ := h
    rcases q with ⟨ht, xs, e, q⟩ | ⟨ht, xs, e, q⟩
    · exact ⟨a, rfl, .inl ⟨ht, xs, .inr ⟨_, e⟩, q⟩⟩
    · exact ⟨a, rfl, .inr ⟨ht, xs, .inr ⟨_, e⟩, q⟩⟩
  · cases e
  · rename_i ds hn
    cases e
    rcases dp_dic (ds := kvs) h.vv (fun xs z => hn xs z) with ⟨a, o, xs, rfl, r, q⟩ | ⟨a, o, xs, rfl, r, ne, q⟩
    · exact ⟨a, rfl, .inl ⟨kind_k q, xs, .inr ⟨o, ex _ _ r⟩, q⟩⟩
    · exact ⟨a, rfl, .inr ⟨kind_t q ne, xs, .inr ⟨o, ex _ _ r⟩, q⟩⟩
  · cases e
theorem ZIs.dicv {B H H_0 : Hp} {G : Addr → Prop} {z : Z} {v : V} {t : Bool} {kvs : List (D × D)} (h : ZIs K B H G H_0 z v) (ok : Ok B H G) (e : z.dicv = some (t, kvs)) : ∃ a, v = .ref a ∧ DicRd K.f B H a t kvs := by
  cases z with
  | v d => exact Own.dicv (s := .v d) (R := fun _ => False) (Own.ofv h) ok.ex e
  | b s => obtain ⟨R, _, _, q⟩ := h; exact q.dicv ok.ex e
  | n s => obtain ⟨R, _, _, q⟩ := h; exact q.dicv ok.ex e
end
section
variable {K : Kx} {A : Ax} {H : Hp}
theorem keyA_none {c : D} (h : keyD c = none) (k : Key) : keyA c ≠ some (.inl k) := by
  unfold keyA
  rw [h]
  cases keyT c with
  | none => intro z; cases z
  | some t => intro z; cases z
theorem look_k1 {c d : D} : ∀ {xs : List (Key × V)} {kvs : List (D × D)}, DqKs K H xs kvs → lookD kvs c = some d → ∃ k, keyD c = some k
  | _, _, .nil, h => by cases h
  | _, _, .cons (c := c1) (d := d1) (ds := ds) h0 h1 h2, h => by
    cases e : keyD c with
    | some k => exact ⟨k, rfl⟩
    | none =>
      have : lookD ((c1, d1) :: ds) c = lookD ds c := by
        unfold lookD
        rw [List.find?_cons, decide_eq_false (show ¬ keyA c1 = keyA c by rw [keyA_k h0]; exact fun z => keyA_none e _ z.symm)]
      rw [this] at h
      obtain ⟨k, hk⟩ := look_k1 h2 h
      rw [e] at hk
      cases hk
def rGetA (K : PySem.W.Frag) : R2 := fun x y H Q => ∃ a v, x = .ref a ∧ ((∃ kvs k, Rd H a (.dK kvs) ∧ y = kV k ∧ valV kvs k = some v) ∨ ∃ kvs k b, Rd H a (.dT kvs) ∧ y = .ref b ∧ SqT K H b (k.map kV) ∧ valV kvs k = some v) ∧ Q v H
end
theorem ix_getA {X : Cx} (hu : X.A.units + 1 < cLine) : IxR X (rGetA X.K) := by
  intro value slice pins s σ H x y v u Q I rx ry h hs
  obtain ⟨a, w, rfl, g, q⟩ := h
  obtain rfl : v = Value.ref a := rx
  rcases g with ⟨kvs, k, e, ey, l⟩ | ⟨kvs, k, b, e, ey, hk, l⟩
  · have g : DGet H a y (some w) := .inl ⟨kvs, k, e, ey, l.symm⟩
    exact PyProof.Rows.tail_any (dict_typeIs I g) PySem.F.slot_dict_getitem.lookup (d_getItem hu I g ry fun w' s3 I3 rw' => ⟨w, H, I3, rw', q⟩) hs
  · subst ey
    cases (show u = Value.ref b from ry)
    obtain ⟨z, hd, xs, rel, dd⟩ := dt_rd I.hok e
    exact PyProof.Rows.tail_any dd.typeIs PySem.F.slot_dict_getitem.lookup (get_sq hu I e hk l fun w' s3 I3 rw' => ⟨w, H, I3, rw', q⟩) hs
end Dl

set_option maxHeartbeats 2000000
namespace Dl
open PySem L2
/-! ### dicts, read -/
def dGetD (x y : Z) (Q : Z → Prop) : Prop := match x.dicv, y.data with
  | some (_, kvs), some k => ∃ d, lookD kvs k = some d ∧ Q (.v d)
  | _, _ => False
/-- x[y], of rows, texts and dicts -/
def dIxA (x y : Z) (Q : Z → Prop) : Prop := match x.dicv with
  | some _ => dGetD x y Q
  | none => dIx x y Q
def rIxA (K : PySem.W.Frag) : R2 := fun x y H Q => rIx K x y H Q ∨ rGetA K x y H Q
section
variable {K : Kx} {A : Ax}
theorem key_kv {H : Hp} {w : V} {c : D} {k : Key} (h : Dq K.f H w c) (e : keyD c = some k) : w = kV k := by
  cases h with
  | int i => cases e; rfl
  | str x => cases e; rfl
  | non => cases e
  | bl b => cases e
  | lst _ _ => cases e
  | tup _ _ => cases e
  | scr _ _ => cases e
  | dic _ _ => cases e
  | dit _ _ => cases e
theorem keys_kv {H : Hp} : ∀ {vs : List V} {cs : List D} {ks : List Key}, DqAll K.f H vs cs → keysD cs = some ks → vs = ks.map kV
  | _, _, _, .nil, h => by cases h; rfl
  | _, _, ks, .cons (d := d) (ds := ds) a b, h => by
    have h : (match keyD d, keysD ds with
      | some k, some ks => some (k :: ks)
      | _, _ => none) = some ks := h
    cases e1 : keyD d with
    | none => rw [e1] at h; cases h
    | some k =>
      cases e2 : keysD ds with
      | none => rw [e1, e2] at h; cases h
      | some k2 =>
        rw [e1, e2] at h
        cases h
        rw [key_kv a e1, keys_kv b e2]
        rfl
theorem keyT_sq {H : Hp} {w : V} {c : D} {k : List Key} (h : Dq K.f H w c) (e : keyT c = some k) : ∃ b, w = .ref b ∧ SqT K.f H b (k.map kV) := by
  cases h with
  | tup hs ha =>
    have e : keysD _ = some k := e
    rw [keys_kv ha e] at hs
    exact ⟨_, rfl, hs⟩
  | _ => cases e
theorem look_t1 {H : Hp} {c d : D} : ∀ {xs : List (List Key × V)} {kvs : List (D × D)}, DqTs K.f H xs kvs → lookD kvs c = some d → ∃ k, keyT c = some k
  | _, _, .nil, h => by cases h
  | _, _, .cons (c := c1) (d := d1) (ds := ds) h0 h1 h2, h => by
    by_cases e : keyA c1 = keyA c
    · rw [keyA_t h0] at e
      cases e2 : keyD c with
      | some k => rw [keyA_k e2] at e; cases e
      | none =>
        unfold keyA at e
        rw [e2] at e
        cases e3 : keyT c with
        | some k => exact ⟨k, rfl⟩
        | none => rw [e3] at e; cases e
    · have : lookD ((c1, d1) :: ds) c = lookD ds c := by
        unfold lookD
        rw [List.find?_cons, decide_eq_false e]
      rw [this] at h
      exact look_t1 h2 h
theorem simR_getD : SimR K (rGetA K.f) dGetD := by
  intro B H G H_0 x y v w Qd Q ok zx zy h k
  unfold dGetD at h
  split at h
  · rename_i t kvs c e1 e2
    obtain ⟨d, ed, h⟩ := h
    obtain ⟨a, rfl, hr⟩ := zx.dicv ok e1
    have hy := zy.dp ok.ex e2
    rcases hr with ⟨_, xs, r, q⟩ | ⟨_, xs, r, q⟩
    · obtain ⟨c', hc⟩ := look_k1 q ed
      obtain ⟨u, hu, dq⟩ := look_k hc q ed
      exact ⟨a, u, rfl, .inl ⟨xs, c', r, key_kv hy hc, hu⟩, k (.v d) u B H (Gr.refl ok.ex) dq h⟩
    · obtain ⟨c', hc⟩ := look_t1 q ed
      obtain ⟨u, hu, dq⟩ := look_t hc q ed
      obtain ⟨b, rfl, sq⟩ := keyT_sq hy hc
      exact ⟨a, u, rfl, .inr ⟨xs, c', b, r, rfl, sq, hu⟩, k (.v d) u B H (Gr.refl ok.ex) dq h⟩
  · exact h.elim
theorem simR_ixA : SimR K (rIxA K.f) dIxA := by
  intro B H G H_0 x y v w Qd Q ok zx zy h k
  unfold dIxA at h
  split at h
  · exact .inr (simR_getD ok zx zy h k)
  · exact .inl (simR_ix ok zx zy h k)
end
theorem ix_any {X : Cx} (hu : X.A.units + 1 < cLine) : IxR X (rIxA X.K) := ix_seq.or (ix_getA hu)
/-! k in d -/
/-- a key of the dict's kind -/
def keyIn (t : Bool) (c : D) : Bool := if t then (keyT c).isSome else (keyD c).isSome
def dInD (neg : Bool) (x y : Z) (Q : Z → Prop) : Prop := match y.dicv, x.data with
  | some (t, kvs), some c => keyIn t c = true ∧ Q (.v (.bool (if neg then !(lookD kvs c).isSome else (lookD kvs c).isSome)))
  | _, _ => False
def dInA (neg : Bool) (x y : Z) (Q : Z → Prop) : Prop := match y.dicv with
  | some _ => dInD neg x y Q
  | none => dIn neg x y Q
def rInD (K : PySem.W.Frag) (neg : Bool) : R2 := fun y x H Q => ∃ a, x = .ref a ∧ ((∃ kvs k, Rd H a (.dK kvs) ∧ y = kV k ∧ Q (.bl (if neg then !(valV kvs k).isSome else (valV kvs k).isSome)) H) ∨ ∃ kvs k b, Rd H a (.dT kvs) ∧ y = .ref b ∧ SqT K H b (k.map kV) ∧ Q (.bl (if neg then !(valV kvs k).isSome else (valV kvs k).isSome)) H)
section
variable {K : Kx} {A : Ax} {H : Hp}
theorem look_k0 {c : D} {k : Key} (hc : keyD c = some k) : ∀ {xs : List (Key × V)} {kvs : List (D × D)}, DqKs K.f H xs kvs → (valV xs k).isSome = (lookD kvs c).isSome
  | _, _, .nil => rfl
  | _, _, .cons (k := k1) (v := v1) (vs := vs) (c := c1) (d := d1) (ds := ds) h0 h1 h2 => by
    by_cases e : k1 = k
    · subst e
      have : lookD ((c1, d1) :: ds) c = some d1 := by
        unfold lookD
        rw [List.find?_cons, decide_eq_true (show keyA c1 = keyA c by rw [keyA_k h0, keyA_k hc])]
        rfl
      rw [this, valV_pos rfl]
      rfl
    · have : lookD ((c1, d1) :: ds) c = lookD ds c := by
        unfold lookD
        rw [List.find?_cons, decide_eq_false (show ¬ keyA c1 = keyA c by rw [keyA_k h0, keyA_k hc]; intro z; exact e (Sum.inl.inj (Option.some.inj z)))]
      rw [this, valV_neg e]
      exact look_k0 hc h2
theorem look_t0 {c : D} {k : List Key} (hc : keyT c = some k) : ∀ {xs : List (List Key × V)} {kvs : List (D × D)}, DqTs K.f H xs kvs → (valV xs k).isSome = (lookD kvs c).isSome
  | _, _, .nil => rfl
  | _, _, .cons (k := k1) (v := v1) (vs := vs) (c := c1) (d := d1) (ds := ds) h0 h1 h2 => by
    by_cases e : k1 = k
    · subst e
      have : lookD ((c1, d1) :: ds) c = some d1 := by
        unfold lookD
        rw [List.find?_cons, decide_eq_true (show keyA c1 = keyA c by rw [keyA_t h0, keyA_t hc])]
        rfl
      rw [this, valV_pos rfl]
      rfl
    · have : lookD ((c1, d1) :: ds) c = lookD ds c := by
        unfold lookD
        rw [List.find?_cons, decide_eq_false (show ¬ keyA c1 = keyA c by rw [keyA_t h0, keyA_t hc]; intro z; exact e (Sum.inr.inj (Option.some.inj z)))]
      rw [this, valV_neg e]
      exact look_t0 hc h2
end
theorem op_inD {X : Cx} (hu : X.A.units + 1 < cLine) : OpR X (compareOp .In) (rInD X.K false) := by
  intro pins s σ H y x u v Q I ry rx h
  obtain ⟨a, rfl, h⟩ := h
  cases (show v = Value.ref a from rx)
  rcases h with ⟨kvs, k, e, rfl, q⟩ | ⟨kvs, k, b, e, rfl, hk, q⟩
  · exact d_in hu I (o := valV kvs k) (.inl ⟨kvs, k, e, rfl, rfl⟩) ry fun s3 I3 => ⟨.bl _, H, I3, rfl, q⟩
  · cases (show u = Value.ref b from ry)
    exact in_sq hu I e hk fun s3 I3 => ⟨.bl _, H, I3, rfl, q⟩
theorem notin_sq {X : Cx} {pins : List (Addr × Obj)} {σ : St} {H : Hp} {s : Shared} {a b : Addr} {E : Value → Shared → Prop} {A : Around} {kvs : List (List Key × V)} {k : List Key} {Q : Value → Shared → Prop} (hu : A.units + 1 < cLine) (I : Inv X pins σ H s) (e : Rd H a (.dT kvs)) (hk : SqT X.K H b (k.map kV))
    (h : ∀ s', Inv X pins σ H s' → Q (.bool (!(valV kvs k).isSome)) s') : wpAny (model X.prog X.w) A (compareOp .NotIn (.ref b) (.ref a)) Q E s := by
  obtain ⟨z, hd, xs, rel, dd⟩ := dt_rd I.hok e
  refine PyProof.Rows.wpAny_notIn_heap (tupleKind_room_in1 hu) (key_sq I hk) hd dd ?_
  have q := (rel.val k).isSome_eq
  rw [Option.isSome_map] at q
  rw [← q]
  exact h _ (I.tok _)
theorem op_notinD {X : Cx} (hu : X.A.units + 1 < cLine) : OpR X (compareOp .NotIn) (rInD X.K true) := by
  intro pins s σ H y x u v Q I ry rx h
  obtain ⟨a, rfl, h⟩ := h
  cases (show v = Value.ref a from rx)
  rcases h with ⟨kvs, k, e, rfl, q⟩ | ⟨kvs, k, b, e, rfl, hk, q⟩
  · exact d_notIn hu I (o := valV kvs k) (.inl ⟨kvs, k, e, rfl, rfl⟩) ry fun s3 I3 => ⟨.bl _, H, I3, rfl, q⟩
  · cases (show u = Value.ref b from ry)
    exact notin_sq hu I e hk fun s3 I3 => ⟨.bl _, H, I3, rfl, q⟩
section
variable {K : Kx} {A : Ax}
theorem simR_inD {neg : Bool} : SimR K (rInD K.f neg) (dInD neg) := by
  intro B H G H_0 x y v w Qd Q ok zx zy h k
  unfold dInD at h
  split at h
  · rename_i t kvs c e1 e2
    obtain ⟨hk, h⟩ := h
    obtain ⟨a, rfl, hr⟩ := zy.dicv ok e1
    have hx := zx.dp ok.ex e2
    have fin : ∀ b, b = (lookD kvs c).isSome → Q (.bl (if neg then !b else b)) H := fun b e => by
      subst e
      exact k (.v (.bool _)) _ B H (Gr.refl ok.ex) (.bl _) h
    refine ⟨a, rfl, ?_⟩
    rcases hr with ⟨rfl, xs, r, q⟩ | ⟨rfl, xs, r, q⟩
    · have hk : (keyD c).isSome = true := hk
      cases e3 : keyD c with
      | none => rw [e3] at hk; cases hk
      | some k' => exact .inl ⟨xs, k', r, key_kv hx e3, fin _ (look_k0 e3 q)⟩
    · have hk : (keyT c).isSome = true := hk
      cases e3 : keyT c with
      | none => rw [e3] at hk; cases hk
      | some k' =>
        obtain ⟨b, rfl, sq⟩ := keyT_sq hx e3
        exact .inr ⟨xs, k', b, r, rfl, sq, fin _ (look_t0 e3 q)⟩
  · exact h.elim
theorem simR_inA {neg : Bool} : SimR K (fun x y H Q => rIn K.f neg x y H Q ∨ rInD K.f neg x y H Q) (dInA neg) := by
  intro B H G H_0 x y v w Qd Q ok zx zy h k
  unfold dInA at h
  split at h
  · exact .inr (simR_inD ok zx zy h k)
  · exact .inl (simR_in ok zx zy h k)
end
end Dl

set_option maxHeartbeats 2000000
namespace Dl
open PySem L2
/-! ### x[k] = v -/
def setAt (ρ : List S) (i : Nat) (p : List Nat) (k d : D) (Q : List S → Prop) : Prop := match atP ρ i p with
  | .l xs => (match k with
    | .int n => ∃ j, ixN xs.length n = some j ∧ Q (repl ρ i p (.l (xs.set j d)))
    | _ => False)
  | .dc false kvs => (keyD k).isSome = true ∧ kvs.length < sizeLine ∧ Q (repl ρ i p (.dc false (putD kvs k d)))
  | _ => False
theorem setAt_cases {ρ : List S} {i : Nat} {p : List Nat} {k d : D} {Q : List S → Prop} (h : setAt ρ i p k d Q) : (∃ xs n j, atP ρ i p = .l xs ∧ k = .int n ∧ ixN xs.length n = some j ∧ Q (repl ρ i p (.l (xs.set j d)))) ∨
    ∃ kvs, atP ρ i p = .dc false kvs ∧ (keyD k).isSome = true ∧ kvs.length < sizeLine ∧ Q (repl ρ i p (.dc false (putD kvs k d))) := by
  unfold setAt at h
  generalize atP ρ i p = s at h
  cases s with
  | l xs =>
    cases k with
    | int n =>
      obtain ⟨j, a, b⟩ := h
      exact .inl ⟨xs, n, j, rfl, rfl, a, b⟩
    | _ => exact (show False from h).elim
  | dc t kvs =>
    cases t with
    | false => exact .inr ⟨kvs, rfl, h⟩
    | true => exact (show False from h).elim
  | _ => exact (show False from h).elim
def dSetI (dp : dP_) (dj : dE) (dx : dX) : dS := fun E ρ => dx ρ (fun z ρ1 => match z.own with
  | some d => dp ρ1 fun i p => dj ρ1 fun y => match y.data with
    | some k => setAt ρ1 i p k d E.nx
    | none => False
  | none => False) E.ex
/-- del x[k] -/
def delAt (ρ : List S) (i : Nat) (p : List Nat) (k : D) (Q : List S → Prop) : Prop := match atP ρ i p with
  | .dc false kvs => (lookD kvs k).isSome = true ∧ Q (repl ρ i p (.dc false (dropD kvs k)))
  | _ => False
theorem delAt_cases {ρ : List S} {i : Nat} {p : List Nat} {k : D} {Q : List S → Prop} (h : delAt ρ i p k Q) : ∃ kvs, atP ρ i p = .dc false kvs ∧ (lookD kvs k).isSome = true ∧ Q (repl ρ i p (.dc false (dropD kvs k))) := by
  unfold delAt at h
  generalize atP ρ i p = s at h
  cases s with
  | dc t kvs =>
    cases t with
    | false => exact ⟨kvs, rfl, h⟩
    | true => exact (show False from h).elim
  | _ => exact (show False from h).elim
def dDelI (dp : dP_) (dj : dE) : dS := fun E ρ => dp ρ fun i p => dj ρ fun y => match y.data with
    | some k => delAt ρ i p k E.nx
    | none => False
def rSetA : TSet := fun o i v H Q => rSetL o i v H Q ∨ rSetD o i v H Q
section
variable {K : Kx} {A : Ax} {W : WX}
theorem Rep.mutD {B H H_0 B_0 : Hp} {G G_0 : Addr → Prop} {σ : St} {ρ : List S} {i : Nat} {p : List Nat} {u : V} (x : Ext B_0 H_0 G_0 B H G) (P : Rep K A B H G σ ρ) (hv : ValS H σ ρ i p u) (hs : ∀ j q, ρ[i]? ≠ some (.al j q)) {kvs : List (D × D)} (e : atP ρ i p = .dc false kvs) : ∃ a xs, u = .ref a ∧ H a = some (.dK xs) ∧ DqKs K.f B xs kvs ∧
    ∀ ys zs, DqKs K.f B ys zs → ∃ G', Rep K A B (upd H a (.dK ys)) G' σ (repl ρ i p (.dc false zs)) ∧ Ext B_0 H_0 G_0 B (upd H a (.dK ys)) G' := by
  obtain ⟨R, ow, r0, k⟩ := P.mut (fun {_} => True.intro) x hv (by rw [e]; rfl) hs
  rw [e] at ow
  obtain ⟨a, rfl, ra, h⟩ := ow.dcc
  rcases h with ⟨_, xs, ha, q⟩ | ⟨z, _⟩
  · refine ⟨a, xs, rfl, ha, q, fun ys zs hw => ?_⟩
    have al : ∀ b, H b ≠ none → (upd H a (.dK ys)) b ≠ none := fun b h => by
      by_cases hb : b = a
      · rw [hb, upd_same]; exact fun z => nomatch z
      · rw [upd_ne hb]; exact h
    refine k _ (.dc false zs) (fun b => b = a) (.ofdc rfl (.inl ⟨rfl, ys, upd_same, hw⟩)) rfl (fun b e => ?_) (fun b o nr h => ?_) al
    · subst e
      exact .inl ⟨ra, by rw [upd_same]; exact fun z => nomatch z⟩
    · rw [upd_ne (fun z => nr (by rw [z]; exact ra))]; exact h
  · cases z
theorem dks_len {B : Hp} : ∀ {xs : List (Key × V)} {kvs : List (D × D)}, DqKs K.f B xs kvs → xs.length = kvs.length
  | _, _, .nil => rfl
  | _, _, .cons _ _ t => by rw [List.length_cons, List.length_cons, dks_len t]
theorem sim_setI {tx to tj : TE} {dp : dP_} {dj : dE} {dx : dX} (h : SimX K A W tx dx) (ho : SimP K A to dp) (hj : SimE K A tj dj) : SimS K A W (tAsg tx (gSub to tj rSetA)) (dSetI dp dj dx) := by
  refine ⟨fun {B H G σ ρ D E} P q k1 k2 k3 k4 k5 => ?_⟩
  refine h.run P q (fun z v B1 H1 G1 ρ1 x1 P1 z1 q1 => ?_) (wat k5)
  have q1 : (match z.own with
    | some d => dp ρ1 fun i p => dj ρ1 fun y => match y.data with
      | some k => setAt ρ1 i p k d E.nx
      | none => False
    | none => False) := q1
  cases e : z.own with
  | none => rw [e] at q1; exact q1.elim
  | some d =>
    rw [e] at q1
    obtain ⟨B2, ok2, x2, e2, hd⟩ := z1.clean P1.ok x1 e
    have P2 := P1.base ok2 e2
    refine ho.run P2 q1 fun i p u B3 H3 g3 hv hs q3 => ?_
    have P3 := P2.gr g3
    refine hj.run P3 q3 fun y w B4 H4 g4 z4 q4 => ?_
    have q4 : (match y.data with
      | some k => setAt ρ1 i p k d E.nx
      | none => False) := q4
    have P4 := P3.gr g4
    have hv4 := P3.sval (fun a o _ e => g4.h a o e) hv
    have xx := x2.trans (Ext.gr (G := G1) (g3.trans g4))
    cases ey : y.data with
    | none => rw [ey] at q4; exact q4.elim
    | some k =>
      rw [ey] at q4
      have hk := z4.dp g4.ex ey
      have hd4 := dp_mono (g3.trans g4).b _ _ hd
      rcases setAt_cases q4 with ⟨xs, n, j, ea, rfl, ej, q5⟩ | ⟨kvs, ea, c1, c2, q5⟩
      · obtain ⟨a, vs, rfl, ha, qq, up⟩ := P4.mutL2 xx hv4 hs ea
        obtain ⟨G', P', x'⟩ := up (vs.set j v) (xs.set j d) (dps_set j qq hd4)
        exact .inl ⟨a, vs, n, j, rfl, dp_int hk, ha, by rw [dps_len qq]; exact ej, k1 _ _ _ _ _ x' P' q5⟩
      · cases e5 : keyD k with
        | none => rw [e5] at c1; cases c1
        | some k' =>
          obtain ⟨a, xs, rfl, ha, qq, up⟩ := P4.mutD xx hv4 hs ea
          obtain ⟨G', P', x'⟩ := up (putK xs k' v) (putD kvs k d) (put_k e5 hd4 qq)
          exact .inr ⟨a, _, rfl, .inl ⟨xs, k', ha, key_kv hk e5, by rw [dks_len qq]; exact c2, rfl⟩, k1 _ _ _ _ _ x' P' q5⟩
theorem sim_delI {to tj : TE} {dp : dP_} {dj : dE} (ho : SimP K A to dp) (hj : SimE K A tj dj) : SimS K A W (sDDel to tj) (dDelI dp dj) := by
  refine ⟨fun {B H G σ ρ D E} P q k1 k2 k3 k4 k5 => ?_⟩
  refine ho.run P q fun i p u B3 H3 g3 hv hs q3 => ?_
  have P3 := P.gr g3
  refine hj.run P3 q3 fun y w B4 H4 g4 z4 q4 => ?_
  have q4 : (match y.data with
    | some k => delAt ρ i p k E.nx
    | none => False) := q4
  have P4 := P3.gr g4
  have hv4 := P3.sval (fun a o _ e => g4.h a o e) hv
  have xx := Ext.gr (G := G) (g3.trans g4)
  cases ey : y.data with
  | none => rw [ey] at q4; exact q4.elim
  | some k =>
    rw [ey] at q4
    have hk := z4.dp g4.ex ey
    obtain ⟨kvs, ea, c1, q5⟩ := delAt_cases q4
    obtain ⟨a, xs, rfl, ha, qq, up⟩ := P4.mutD xx hv4 hs ea
    cases e6 : lookD kvs k with
    | none => rw [e6] at c1; cases c1
    | some dd =>
      obtain ⟨k', e5⟩ := look_k1 qq e6
      obtain ⟨G', P', x'⟩ := up (dropK xs k') (dropD kvs k) (drop_k e5 qq)
      exact ⟨a, xs, k', rfl, ha, key_kv hk e5, by rw [look_k0 e5 qq]; exact c1, k1 _ _ _ _ _ x' P' q5⟩
end
/-! ### a comprehension over a dict of our own, locked the while -/
/-- places that stand whatever is evaluated -/
def Det (dp : dP_) : Prop := ∀ {ρ : List S} {Q : Nat → List Nat → Prop}, dp ρ Q → ∃ i p, Q i p ∧ ∀ j q, ρ[i]? ≠ some (.al j q)
theorem det_var {i : Nat} : Det (dpVar i) := by
  intro ρ Q h
  unfold dpVar at h
  split at h
  · rename_i j p e
    split at h
    · exact h.elim
    · rename_i hj
      exact ⟨j, p, h, fun j' q' z => hj j' q' z⟩
  · exact h.elim
  · exact h.elim
  · rename_i s h1 h2 h3 e
    exact ⟨i, [], h, fun j q z => by rw [e] at z; cases z; exact h1 _ _ rfl⟩
  · exact h.elim
theorem det_fld {k : Nat} {dp : dP_} (h : Det dp) : Det (dpFld k dp) := by
  intro ρ Q q
  obtain ⟨i, p, q, hs⟩ := h q
  split at q
  · split at q
    · exact ⟨i, _, q, hs⟩
    · exact q.elim
  · exact q.elim
/-- what is walked: keys, values, pairs -/
inductive Walk where
  | keys | vals | items
def Walk.of : Walk → List (D × D) → List D
  | .keys, kvs => kvs.map (·.1)
  | .vals, kvs => kvs.map (·.2)
  | .items, kvs => kvs.map fun kv => .tuple [kv.1, kv.2]
def noB (Q : Z → Prop) : Z → Prop
  | .b _ => False
  | z => Q z
def dLcD (w : Walk) (dp : dP_) (dg : dG) (dt : dT) (de : dE) (vs : List Nat) : dE := fun ρ Q => dp ρ fun i p => match atP ρ i p with
  | .dc false kvs => ∀ od, dp (repl ρ i p (.lk false od kvs)) (fun i' p' => i' = i ∧ p' = p) ∧ lcGo dg dt de (wipeS (repl ρ i p (.lk false od kvs)) vs) (noB Q) (w.of kvs) []
  | _ => False
/-- the turns give these items, as long as what stood stands -/
structure JIc (K : PySem.W.Frag) (B Hs : Hp) (J : It) (items : List D) : Prop where
  go : ∀ {B1 H1 : Hp} {i : Nat}, Ex B B1 → Ex B1 H1 → Ex Hs H1 → i < items.length → J.go i H1
  stop : ∀ {B1 H1 : Hp}, Ex B B1 → Ex B1 H1 → Ex Hs H1 → J.stop items.length H1
  yld : ∀ {B1 H1 H2 : Hp} {i : Nat} {x : V} {d : D}, Ex B B1 → Ex B1 H1 → Ex Hs H1 → items[i]? = some d → J.yld i H1 x H2 → ∃ B2, Gr B1 H1 B2 H2 ∧ Dq K B2 x d
structure SimIc (K : Kx) (A : Ax) (wi : TI) (di : dI_) : Prop where
  run : ∀ {B H : Hp} {G : Addr → Prop} {σ : St} {ρ : List S} {Qi : List D → Prop} {R : It → Hp → Prop}, Rep K A B H G σ ρ → di ρ Qi → (∀ items J B' H', Gr B H B' H' → JIc K.f B' H' J items → Qi items → R J H') → wi σ H R
theorem sim_lcc {K : Kx} {A : Ax} {wi : TI} {di : dI_} {js : List Nat} {g : TG} {dg : dG} {tt : TT} {dt : dT} {te : TE} {de : dE} {vs : List Nat} (hi : SimIc K A wi di) (hg : SimG K A js g dg) (ht : SimT K A tt dt) (he : SimE K A te de) (hj : ∀ j ∈ js, j ∈ vs) (hv : ∀ v ∈ vs, A.A v = false) :
    SimE K A (tLc wi g tt te vs) (dLc di dg dt de vs) := by
  refine ⟨fun {B H G σ ρ Qd Q} p q k => ?_⟩
  refine hi.run p q fun items J B1 H1 g1 hJ h1 => ?_
  intro Dl hD
  have p1 := p.gr g1
  refine ⟨fun i m H' => m = items.length - i ∧ i ≤ items.length ∧ ∃ B' acc ws, Gr B1 H1 B' H' ∧ B' Dl = none ∧ H' Dl = some (.lst ws) ∧ DqAll K B' ws acc ∧ lcGo dg dt de (wipeS ρ vs) Qd (items.drop i) acc, ⟨items.length, by simp, Nat.zero_le _, B1, [], [], ?_⟩, ?_⟩
  · have hb : B1 Dl = none := g1.ex.back hD
    exact ⟨⟨Ex.refl B1, Ex.new hD, g1.ex.trans (Ex.new hD), fun a h => .inl h⟩, hb, upd_same, .nil, h1⟩
  · rintro i m H' ⟨rfl, hle, B', acc, ws, g', hb, hw, hq, hgo⟩
    have p' := (p1.gr g').wipe hv
    by_cases hlt : i < items.length
    · refine .inr ⟨hJ.go g'.b g'.ex g'.h hlt, fun H2 => items.length - (i + 1) < items.length - i ∧ i + 1 ≤ items.length ∧ ∃ B' acc ws, Gr B1 H1 B' H2 ∧ B' Dl = none ∧ H2 Dl = some (.lst ws) ∧ DqAll K B' ws acc ∧ lcGo dg dt de (wipeS ρ vs) Qd (items.drop (i + 1)) acc, fun H2 h2 => ⟨items.length - (i + 1), h2.1, rfl, h2.2⟩, fun v H2 hy => ?_⟩
      have e : items[i]? = some items[i] := List.getElem?_eq_getElem hlt
      rw [List.drop_eq_getElem_cons hlt] at hgo
      obtain ⟨B2, g2, hd⟩ := hJ.yld g'.b g'.ex g'.h e hy
      have stay : ∀ {B3 H3 : Hp}, Gr B' H' B3 H3 → B3 Dl = none := fun {B3 H3} g => Classical.byContradiction fun z => (g.nw Dl z).elim (fun q => q hb) fun q => by rw [hw] at q; cases q
      refine hg.run (p'.gr g2) hd hgo fun σ3 ρ3 p3 w3 q3 => ⟨?_, ?_⟩
      · rw [w3 vs hj]
        apply List.ext_getElem?
        intro k
        rw [wipe_at, wipe_at]
        by_cases hk : k ∈ vs
        · rw [if_pos hk, if_pos hk]
          cases σ[k]? <;> rfl
        · rw [if_neg hk]
      refine ht.run p3 q3 fun b B4 H4 g4 q4 => ?_
      cases b with
      | false =>
        have gg := (g'.trans g2).trans g4
        exact ⟨by omega, hlt, B4, acc, ws, gg, stay (g2.trans g4), g4.h _ _ (g2.h _ _ hw), dps_mono (g2.b.trans g4.b) _ _ hq, q4⟩
      | true =>
        refine he.run (p3.gr g4) q4 fun z y B5 H5 g5 z5 q5 => ?_
        have q5 : (match z.own with
          | some d => acc.length < sizeLine ∧ lcGo dg dt de (wipeS ρ vs) Qd (items.drop (i + 1)) (acc ++ [d])
          | none => False) := q5
        cases ez : z.own with
        | none => rw [ez] at q5; exact q5.elim
        | some d =>
          rw [ez] at q5
          obtain ⟨B6, g6, _, hd6⟩ := z5.clean g5 ez
          have gl := (g2.trans g4).trans g6
          have gg := g'.trans gl
          have hD5 := gl.h _ _ hw
          have hb6 := stay gl
          refine ⟨ws, hD5, by rw [dps_len hq]; exact q5.1, by omega, hlt, B6, acc ++ [d], ws ++ [y], ⟨gg.b, fun a o h => ?_, fun a o h => ?_, gg.nw⟩, hb6, upd_same, dps_app (dps_mono gl.b _ _ hq) (.cons hd6 .nil), q5.2⟩
          · have : a ≠ Dl := fun z => by rw [z, hD] at h; cases h
            rw [upd_ne this]
            exact gg.h a o h
          · have : a ≠ Dl := fun z => by rw [z, hb6] at h; cases h
            rw [upd_ne this]
            exact gg.ex a o h
    · have e : i = items.length := by omega
      subst e
      rw [List.drop_length] at hgo
      refine .inl ⟨hJ.stop g'.b g'.ex g'.h, ?_⟩
      refine k (.n (.l acc)) _ B' H' (g1.trans g') ⟨fun a => a = Dl, fun a ea => ?_, rfl, .ofl rfl hw hq⟩ hgo
      subst ea
      exact ⟨g1.h.back hD, hb, by rw [hw]; intro z; cases z⟩
/-- a locked dict's keys, values -/
def Walk.it (d : Addr) (o : Obj) (kvs : List (Key × V)) : Walk → It
  | .keys => Itk d o kvs
  | .vals => Itd d o kvs
  | .items => Iti d o kvs
def Walk.ti (td : TE) : Walk → TI
  | .keys => iKeys td
  | .vals => iVals td
  | .items => iItems td
theorem ks_get {K : PySem.W.Frag} {B : Hp} : ∀ {xs : List (Key × V)} {kvs : List (D × D)} {i : Nat} {k : Key} {v : V}, DqKs K B xs kvs → xs[i]? = some (k, v) → ∃ c d, kvs[i]? = some (c, d) ∧ keyD c = some k ∧ Dq K B v d
  | _, _, _, _, _, .nil, h => by simp at h
  | _, _, 0, _, _, .cons h0 h1 h2, h => by cases h; exact ⟨_, _, rfl, h0, h1⟩
  | _, _, i + 1, _, _, .cons h0 h1 h2, h => ks_get (i := i) h2 h
theorem dq_key {K : PySem.W.Frag} {B : Hp} {c : D} {k : Key} (h : keyD c = some k) : Dq K B (kV k) c := by
  cases c <;> first | (cases h; first | exact .int _ | exact .str _) | cases h
theorem jic_d {K : PySem.W.Frag} {B Hs : Hp} {d : Addr} {o : Obj} {xs : List (Key × V)} {kvs : List (D × D)} (w : Walk) (h : Hs d = some (.frz o (.dK xs))) (q : DqKs K B xs kvs) : JIc K B Hs (w.it d o xs) (w.of kvs) := by
  have hl : xs.length = kvs.length := by
    clear h
    induction xs generalizing kvs with
    | nil => cases q; rfl
    | cons x xs ih => cases q with | cons _ _ t => rw [List.length_cons, List.length_cons, ih t]
  have hw : (w.of kvs).length = kvs.length := by cases w <;> exact List.length_map _
  refine ⟨fun {B1 H1 i} e1 e2 e3 hi => ?_, fun {B1 H1} e1 e2 e3 => ?_, fun {B1 H1 H2 i x c} e1 e2 e3 ei hy => ?_⟩
  · cases w <;> exact ⟨e3 _ _ h, by rw [hl, ← hw]; exact hi⟩
  · cases w <;> exact ⟨e3 _ _ h, by rw [hl, ← hw]; exact Nat.le_refl _⟩
  · cases w with
    | keys =>
      obtain ⟨rfl, k, v, ek, rfl⟩ := hy
      obtain ⟨c', d', e4, e5, e6⟩ := ks_get q ek
      have ei : (kvs.map (·.1))[i]? = some c := ei
      rw [List.getElem?_map, e4] at ei
      cases ei
      exact ⟨B1, Gr.refl e2, dq_key e5⟩
    | vals =>
      obtain ⟨rfl, k, ek⟩ := hy
      obtain ⟨c', d', e4, e5, e6⟩ := ks_get q ek
      have ei : (kvs.map (·.2))[i]? = some c := ei
      rw [List.getElem?_map, e4] at ei
      cases ei
      exact ⟨B1, Gr.refl e2, dp_mono e1 _ _ e6⟩
    | items =>
      obtain ⟨T, k, v, ek, rfl, hT, rfl⟩ := hy
      obtain ⟨c', d', e4, e5, e6⟩ := ks_get q ek
      have ei : (kvs.map fun kv => PyData.tuple [kv.1, kv.2])[i]? = some c := ei
      rw [List.getElem?_map, e4] at ei
      cases ei
      have hb : B1 T = none := e2.back hT
      refine ⟨upd B1 T (.tup [kV k, v]), ⟨Ex.new hb, Ex.new hT, fun a o e => ?_, fun a h => ?_⟩, .tup (.inl (.inl upd_same)) (dps_mono (Ex.new hb) _ _ (.cons (dq_key e5) (.cons (dp_mono e1 _ _ e6) .nil)))⟩
      · by_cases ha : a = T
        · rw [ha, upd_same] at e ⊢; exact e
        · rw [upd_ne ha] at e ⊢; exact e2 a o e
      · by_cases ha : a = T
        · exact .inr (ha ▸ hT)
        · rw [upd_ne ha] at h; exact .inl h
section
variable {K : Kx} {A : Ax}
theorem sim_lcD (w : Walk) {td : TE} {dp : dP_} {js : List Nat} {g : TG} {dg : dG} {tt : TT} {dt : dT} {te : TE} {de : dE} {vs : List Nat} (hd : Det dp) (hi : SimP K A td dp) (hg : SimG K A js g dg) (ht : SimT K A tt dt) (he : SimE K A te de) (hj : ∀ j ∈ js, j ∈ vs) (hv : ∀ v ∈ vs, A.A v = false) :
    SimE K A (tLockE (tLc (w.ti td) g tt te vs)) (dLcD w dp dg dt de vs) := by
  refine ⟨fun {B H G σ ρ Qd Q} P q k => ?_⟩
  obtain ⟨i, p, q, hs⟩ := hd q
  split at q
  · rename_i kvs e
    obtain ⟨u, R0, hval, o0, _⟩ := P.at (i := i) (p := p) (by rw [e]; rfl) hs
    obtain ⟨R, ow, r0, up⟩ := P.mut (fun {_} => True.intro) Ext.refl hval (by rw [e]; rfl) hs
    rw [e] at ow
    obtain ⟨a, rfl, ra, hh⟩ := ow.dcc
    rcases hh with ⟨_, xs, ha, qk⟩ | ⟨z, _⟩
    · refine ⟨a, .dK xs, ha, True.intro, fun od => ?_⟩
      obtain ⟨q1, q2⟩ := q od
      have ba : B a = none := P.ok.off a (r0 a ra)
      have al : ∀ b, H b ≠ none → (upd H a (.frz od (.dK xs))) b ≠ none := fun b h => by
        by_cases hb : b = a
        · rw [hb, upd_same]; exact fun z => nomatch z
        · rw [upd_ne hb]; exact h
      obtain ⟨G', P', x'⟩ := up (upd H a (.frz od (.dK xs))) (.lk false od kvs) (fun b => b = a) (by rw [Own]; exact ⟨a, rfl, rfl, .inl ⟨rfl, xs, upd_same, qk⟩⟩) rfl (fun b eb => by subst eb; exact .inl ⟨ra, by rw [upd_same]; exact fun z => nomatch z⟩) (fun b o nr h => by rw [upd_ne (fun z => nr (by rw [z]; exact ra))]; exact h) al
      have simI : SimIc K A (w.ti td) (fun ρ' Qi => ρ' = repl ρ i p (.lk false od kvs) ∧ Qi (w.of kvs)) := ⟨fun {B1 H1 G1 σ1 ρ1 Qi R1} P1 qi ki => by
        obtain ⟨rfl, qi⟩ := qi
        have run : ∀ (Qq : VK), (∀ d o ys H', H' d = some (.frz o (.dK ys)) → R1 (w.it d o ys) H' → Qq (.ref d) H') → td σ1 H1 Qq := fun Qq hQ => hi.run (Q := Qq) P1 q1 fun i' p' u' B2 H2 g2 hv2 hs2 e2 => by
          obtain ⟨rfl, rfl⟩ := e2
          have eat : atP (repl ρ i' p' (.lk false od kvs)) i' p' = .lk false od kvs := by
            unfold repl
            obtain ⟨s0, w0, es0, _, _⟩ := hval.kill (n := i') (m := p'.length)
            rw [putP_some es0, atP_some (List.getElem?_set_self (List.getElem?_eq_some_iff.mp es0).1)]
            refine put_at_self p' s0 ?_
            by_cases hp : p' = []
            · exact .inr hp
            · refine .inl ?_
              have hk2 := atP_kill (ρ := ρ) (i := i') (j := i') (n := p'.length) (q := p') (by rw [e]; rfl)
              rw [atP_some es0, e] at hk2
              rw [hk2]
              exact fun z => nomatch z
          obtain ⟨u2, R2, hv3, o2, _⟩ := (P1.gr g2).at (i := i') (p := p') (by rw [eat]; rfl) hs2
          obtain rfl := hv2.fun hv3
          rw [eat, Own] at o2
          obtain ⟨d, rfl, _, hh2⟩ := o2
          rcases hh2 with ⟨_, ys, hd2, qk2⟩ | ⟨z, _⟩
          · exact hQ d od ys H2 hd2 (ki (w.of kvs) (w.it d od ys) B2 H2 g2 (jic_d w hd2 qk2) qi)
          · cases z
        cases w with
        | keys => exact run _ fun d o ys H' h1 h2 => ⟨d, o, rfl, .inl ⟨ys, h1, h2⟩⟩
        | vals => exact run _ fun d o ys H' h1 h2 => ⟨d, o, ys, rfl, h1, h2⟩
        | items => exact run _ fun d o ys H' h1 h2 => ⟨d, o, ys, rfl, h1, h2⟩⟩
      have lc := (sim_lcc simI hg ht he hj hv).run (Qd := noB Qd) (Q := fun v H' => H' a = some (.frz od (.dK xs)) ∧ Q v (upd H' a (.dK xs))) P' ⟨rfl, q2⟩ fun z v B2 H2 g2 z2 h2 => by
        have ha2 : H2 a = some (.frz od (.dK xs)) := g2.h a _ upd_same
        have b2a : B2 a = none := Classical.byContradiction fun z => (g2.nw a z).elim (fun z => z ba) fun z => by rw [upd_same] at z; cases z
        refine ⟨ha2, ?_⟩
        have gr : Gr B H B2 (upd H2 a (.dK xs)) := by
          refine ⟨g2.b, fun b o h => ?_, fun b o h => ?_, fun b h => (g2.nw b h).imp (fun z => z) fun z => ?_⟩
          · by_cases hb : b = a
            · subst hb; rw [upd_same, ← h, ha]
            · rw [upd_ne hb]; exact g2.h b o (by rw [upd_ne hb]; exact h)
          · have hb : b ≠ a := fun z => by rw [z, b2a] at h; cases h
            rw [upd_ne hb]; exact g2.ex b o h
          · by_cases hb : b = a
            · subst hb; rw [upd_same] at z; cases z
            · rw [upd_ne hb] at z; exact z
        cases z with
        | b s => exact (show False from h2).elim
        | v d => exact k (.v d) v B2 _ gr z2 h2
        | n s =>
          obtain ⟨R3, r3, tr, o3⟩ := z2
          refine k (.n s) v B2 _ gr ⟨R3, fun b rb => ?_, tr, o3.frame (Ex.refl B2) fun b o rb e => ?_⟩ h2
          · have hb : b ≠ a := fun z => by
              have := (r3 b rb).1
              rw [z, upd_same] at this
              cases this
            have h1 := (r3 b rb).1
            rw [upd_ne hb] at h1
            exact ⟨h1, (r3 b rb).2.1, by rw [upd_ne hb]; exact (r3 b rb).2.2⟩
          · have hb : b ≠ a := fun z => by
              have := (r3 b rb).1
              rw [z, upd_same] at this
              cases this
            rw [upd_ne hb]; exact e
      exact lc
    · cases z
  · exact q.elim
end
end Dl

set_option maxHeartbeats 2000000
namespace Dl
open PySem L2
theorem callR_or {X : Cx} {f : Value} {r r' : List V → Hp → VK → Prop} (h : CallR X f r) (h' : CallR X f r') : CallR X f (fun xs H Q => r xs H Q ∨ r' xs H Q) := by
  intro pins s σ H vs us Q I r q
  rcases q with q | q
  · exact h pins s σ H vs us Q I r q
  · exact h' pins s σ H vs us Q I r q
theorem dL1_of {f : D → (Z → Prop) → Prop} {z : Z} {d : D} {Q : Z → Prop} (e : z.data = some d) (q : f d Q) : dL1 f [z] Q := by
  show (match z.data with
    | some d => f d Q
    | none => False)
  rw [e]
  exact q
def dL1Z (f : Z → (Z → Prop) → Prop) (zs : List Z) (Q : Z → Prop) : Prop := match zs with
  | [z] => f z Q
  | _ => False
theorem simL_1Z {K : Kx} {r : List V → Hp → VK → Prop} {f : Z → (Z → Prop) → Prop}
    (h : ∀ {B H : Hp} {G : Addr → Prop} {H_0 : Hp} {z : Z} {v : V} {Qd : Z → Prop} {Q : VK}, Ok B H G → ZIs K B H G H_0 z v → f z Qd → (∀ z v' B' H', Gr B H B' H' → ZIs K B' H' G H z v' → Qd z → Q v' H') → r [v] H Q) : SimL K r (dL1Z f) := by
  intro B H G H_0 xs vs Qd Q ok za q k
  cases za with
  | nil => exact (show False from q).elim
  | cons a b =>
    cases b with
    | cons _ _ => exact (show False from q).elim
    | nil => exact h ok a q k
/-- a dict of our own whose keys are numbers and texts -/
def S.dk : S → Option (List (D × D))
  | .dc false kvs => some kvs
  | .lk false _ kvs => some kvs
  | _ => none
def Z.dk : Z → Option (List (D × D))
  | .v _ => none
  | .b s => s.dk
  | .n s => s.dk
section
variable {K : Kx}
theorem Own.dk {B H : Hp} {R : Addr → Prop} {s : S} {v : V} {kvs : List (D × D)} (h : Own K B H s v R) (e : s.dk = some kvs) : ∃ a xs, v = .ref a ∧ Rd H a (.dK xs) ∧ DqKs K.f B xs kvs := by
  unfold S.dk at e
  split at e
  · cases e
    obtain ⟨a, rfl, _, hh⟩ := h.dcc
    rcases hh with ⟨_, xs, ha, q⟩ | ⟨z, _⟩
    · exact ⟨a, xs, rfl, .inl ha, q⟩
    · cases z
  · cases e
    rw [Own] at h
    obtain ⟨a, rfl, _, hh⟩ := h
    rcases hh with ⟨_, xs, ha, q⟩ | ⟨z, _⟩
    · exact ⟨a, xs, rfl, .inr ⟨_, ha⟩, q⟩
    · cases z
  · cases e
theorem ZIs.dk {B H H_0 : Hp} {G : Addr → Prop} {z : Z} {v : V} {kvs : List (D × D)} (h : ZIs K B H G H_0 z v) (e : z.dk = some kvs) : ∃ a xs, v = .ref a ∧ Rd H a (.dK xs) ∧ DqKs K.f B xs kvs := by
  cases z with
  | v d => cases e
  | b s => obtain ⟨R, _, _, q⟩ := h; exact q.dk e
  | n s => obtain ⟨R, _, _, q⟩ := h; exact q.dk e
theorem dks_keysI {B : Hp} : ∀ {xs : List (Key × V)} {kvs : List (D × D)} {ks : List Int}, DqKs K.f B xs kvs → kvs.map (·.1) = ks.map PyData.int → xs.map (·.1) = ks.map Sum.inl
  | _, _, [], .nil, _ => rfl
  | _, _, _ :: _, .nil, h => by cases h
  | _, _, [], .cons _ _ _, h => by cases h
  | _, _, k :: ks, .cons (k := k1) (c := c) h0 h1 h2, h => by
    rw [List.map_cons, List.map_cons, List.cons.injEq] at h
    have h' : c = .int k := h.1
    subst h'
    cases h0
    rw [List.map_cons, List.map_cons, dks_keysI h2 h.2]
theorem dks_keysS {B : Hp} : ∀ {xs : List (Key × V)} {kvs : List (D × D)} {ks : List Str}, DqKs K.f B xs kvs → kvs.map (·.1) = ks.map PyData.str → xs.map (·.1) = ks.map Sum.inr
  | _, _, [], .nil, _ => rfl
  | _, _, _ :: _, .nil, h => by cases h
  | _, _, [], .cons _ _ _, h => by cases h
  | _, _, k :: ks, .cons (k := k1) (c := c) h0 h1 h2, h => by
    rw [List.map_cons, List.map_cons, List.cons.injEq] at h
    have h' : c = .str k := h.1
    subst h'
    cases h0
    rw [List.map_cons, List.map_cons, dks_keysS h2 h.2]
theorem dks_keys {B : Hp} : ∀ {xs : List (Key × V)} {kvs : List (D × D)}, DqKs K.f B xs kvs → DqAll K.f B (xs.map fun kv => kV kv.1) (kvs.map (·.1))
  | _, _, .nil => .nil
  | _, _, .cons h0 h1 h2 => .cons (dq_key h0) (dks_keys h2)
theorem dps_strs {B : Hp} : ∀ {ns : List Str}, DqAll K.f B (ns.map V.str) (ns.map PyData.str)
  | [] => .nil
  | n :: ns => .cons (.str n) dps_strs
/-- sorted: rows of alike things; a dict of our own, its keys all numbers, or all texts -/
def fSortZ (z : Z) (Q : Z → Prop) : Prop := match z.dk with
  | some kvs => (∃ ks : List Int, kvs.map (·.1) = ks.map PyData.int ∧ ks.length < 64 ∧ ∀ ys : List Int, ys.Perm ks → ys.Pairwise (· ≤ ·) → Q (.n (.l (ys.map .int)))) ∨
      ∃ ks : List Str, kvs.map (·.1) = ks.map PyData.str ∧ ks.length < 64 ∧ ∀ ys : List Str, ys.Perm ks → PyProof.Rows.sortedS ys = true → Q (.n (.l (ys.map .str)))
  | none => match z.data with
    | some d => fSort d Q
    | none => False
def rSortA (K : PySem.W.Frag) : List V → Hp → VK → Prop := fun xs H Q => rSortD K xs H Q ∨ ((∃ (a : Addr) (kvs : List (Key × V)) (ks : List Int), xs = [.ref a] ∧ Rd H a (.dK kvs) ∧ kvs.map (·.1) = ks.map Sum.inl ∧ ks.length < 64 ∧
    ∀ (ys : List Int) (p : Addr), ys.Perm ks → ys.Pairwise (· ≤ ·) → H p = none → Q (.ref p) (upd H p (.lst (ys.map V.int)))) ∨ (∃ (a : Addr) (kvs : List (Key × V)) (ks : List Str), xs = [.ref a] ∧ Rd H a (.dK kvs) ∧ kvs.map (·.1) = ks.map Sum.inr ∧ ks.length < 64 ∧
    ∀ ys p, ys.Perm ks → PyProof.Rows.sortedS ys = true → H p = none → Q (.ref p) (upd H p (.lst (ys.map V.str)))))
theorem cr_sortA {X : Cx} (hu : X.A.units + 64 < cLine) (hc : X.calm = true) : CallR X (.builtin "sorted") (rSortA X.K) := callR_or (cr_sortD hu) (callR_or (call_sortedDI hc) (call_sortedD hc))
theorem sim_sortA : SimL K (rSortA K.f) (dL1Z fSortZ) := simL_1Z fun {B H G H_0 z v Qd Q} ok za q k => by
  unfold fSortZ at q
  split at q
  · rename_i kvs e
    obtain ⟨a, xs, rfl, r, qq⟩ := za.dk e
    rcases q with ⟨ks, e1, hl, q⟩ | ⟨ks, e1, hl, q⟩
    · refine .inr (.inl ⟨a, xs, ks, rfl, r, dks_keysI qq e1, hl, fun ys p h1 h2 hp => ?_⟩)
      obtain ⟨g, z⟩ := new_list (K := K) ok hp (dps_ints (K := K.f) (H := B) (ns := ys))
      exact k _ _ _ _ g z (q ys h1 h2)
    · refine .inr (.inr ⟨a, xs, ks, rfl, r, dks_keysS qq e1, hl, fun ys p h1 h2 hp => ?_⟩)
      obtain ⟨g, z⟩ := new_list (K := K) ok hp (dps_strs (K := K) (B := B) (ns := ys))
      exact k _ _ _ _ g z (q ys h1 h2)
  · split at q
    · rename_i d e
      exact .inl (sim_sorted ok (.cons za .nil) (dL1_of e q) k)
    · exact q.elim
/-- list(x) -/
def fListZ (z : Z) (Q : Z → Prop) : Prop := match z.dk with
  | some kvs => Q (.n (.l (kvs.map (·.1))))
  | none => match z.data with
    | some d => fList d Q
    | none => False
def rListA (K : PySem.W.Frag) : List V → Hp → VK → Prop := fun xs H Q => rList K xs H Q ∨ ∃ (a : Addr) (kvs : List (Key × V)), xs = [.ref a] ∧ Rd H a (.dK kvs) ∧ ∀ p, H p = none → Q (.ref p) (upd H p (.lst (kvs.map fun kv => kV kv.1)))
theorem cr_listA {X : Cx} (hc : X.calm = true) : CallR X (.type "list") (rListA X.K) := callR_or call_list_of (call_listD hc)
theorem sim_listA : SimL K (rListA K.f) (dL1Z fListZ) := simL_1Z fun {B H G H_0 z v Qd Q} ok za q k => by
  unfold fListZ at q
  split at q
  · rename_i kvs e
    obtain ⟨a, xs, rfl, r, qq⟩ := za.dk e
    refine .inr ⟨a, xs, rfl, r, fun p hp => ?_⟩
    obtain ⟨g, z⟩ := new_list (K := K) ok hp (dks_keys qq)
    exact k _ _ _ _ g z q
  · split at q
    · rename_i d e
      exact .inl (sim_list ok (.cons za .nil) (dL1_of e q) k)
    · exact q.elim
/-- len(x) -/
def fLenZ (z : Z) (Q : Z → Prop) : Prop := match z with
  | .b (.dc false kvs) => Q (.v (.int kvs.length))
  | _ => match z.data with
    | some d => fLen d Q
    | none => False
def rLenA (K : PySem.W.Frag) : List V → Hp → VK → Prop := fun xs H Q => rLen K xs H Q ∨ ∃ a kvs, xs = [V.ref a] ∧ H a = some (.dK kvs) ∧ Q (.int kvs.length) H
theorem cr_lenA {X : Cx} : CallR X (.builtin "len") (rLenA X.K) := callR_or call_len call_lenD
theorem sim_lenA : SimL K (rLenA K.f) (dL1Z fLenZ) := simL_1Z fun {B H G H_0 z v Qd Q} ok za q k => by
  unfold fLenZ at q
  split at q
  · rename_i kvs
    obtain ⟨R, _, _, o⟩ := za
    obtain ⟨a, rfl, _, hh⟩ := o.dcc
    rcases hh with ⟨_, xs, ha, qk⟩ | ⟨z, _⟩
    · refine .inr ⟨a, xs, rfl, ha, ?_⟩
      rw [dks_len qk]
      exact k (.v (.int _)) _ B H (Gr.refl ok.ex) (.int _) q
    · cases z
  · split at q
    · rename_i d e
      exact .inl (sim_len ok (.cons za .nil) (dL1_of e q) k)
    · exact q.elim
/-! sum, any, all of rows made here -/
def fSum : D → (Z → Prop) → Prop
  | .list xs, Q => ∃ ns : List Int, xs = ns.map PyData.int ∧ Q (.v (.int ns.sum))
  | _, _ => False
def fAny : D → (Z → Prop) → Prop
  | .list xs, Q => ∃ bs : List Bool, xs = bs.map PyData.bool ∧ Q (.v (.bool (bs.any id)))
  | _, _ => False
def fAll : D → (Z → Prop) → Prop
  | .list xs, Q => ∃ bs : List Bool, xs = bs.map PyData.bool ∧ Q (.v (.bool (bs.all id)))
  | _, _ => False
theorem dps_intsV {H : Hp} : ∀ {vs : List V} {ns : List Int}, DqAll K.f H vs (ns.map PyData.int) → vs = ns.map V.int
  | _, [], .nil => rfl
  | _, n :: ns, .cons a b => by rw [dp_int a, dps_intsV b]; rfl
theorem dps_blsV {H : Hp} : ∀ {vs : List V} {ns : List Bool}, DqAll K.f H vs (ns.map PyData.bool) → vs = ns.map V.bl
  | _, [], .nil => rfl
  | _, n :: ns, .cons a b => by rw [dp_bl a, dps_blsV b]; rfl
theorem sim_sum : SimL K (rSum K.f) (dL1 fSum) := simL_1 fun {B H G H_0 z v d Qd Q} ok za e q k => by
  unfold fSum at q
  split at q
  · obtain ⟨ns, rfl, q⟩ := q
    obtain ⟨a, vs, rfl, r, qq⟩ := za.items ok (items_of e)
    have := dps_intsV qq
    subst this
    exact ⟨a, ns, rfl, r, k (.v (.int _)) _ B H (Gr.refl ok.ex) (.int _) q⟩
  · exact q.elim
theorem sim_any : SimL K (L2.rAny K.f) (dL1 fAny) := simL_1 fun {B H G H_0 z v d Qd Q} ok za e q k => by
  unfold fAny at q
  split at q
  · obtain ⟨ns, rfl, q⟩ := q
    obtain ⟨a, vs, rfl, r, qq⟩ := za.items ok (items_of e)
    have := dps_blsV qq
    subst this
    exact ⟨a, ns, rfl, r, k (.v (.bool _)) _ B H (Gr.refl ok.ex) (.bl _) q⟩
  · exact q.elim
theorem sim_all : SimL K (L2.rAll K.f) (dL1 fAll) := simL_1 fun {B H G H_0 z v d Qd Q} ok za e q k => by
  unfold fAll at q
  split at q
  · obtain ⟨ns, rfl, q⟩ := q
    obtain ⟨a, vs, rfl, r, qq⟩ := za.items ok (items_of e)
    have := dps_blsV qq
    subst this
    exact ⟨a, ns, rfl, r, k (.v (.bool _)) _ B H (Gr.refl ok.ex) (.bl _) q⟩
  · exact q.elim
end
theorem bt_sum : bootBuiltins "sum" = some (.builtin "sum") := by decide +kernel
theorem bt_any : bootBuiltins "any" = some (.builtin "any") := by decide +kernel
theorem bt_all : bootBuiltins "all" = some (.builtin "all") := by decide +kernel
/-! ### a new dict -/
section
variable {K : Kx} {A : Ax} {W : WX}
def dNewK : dE := fun _ Q => Q (.n (.dc false []))
theorem sim_newK : SimE K A tDNewK dNewK := ⟨fun {B H G σ ρ Qd Q} P q k => fun p hp => by
  refine k (.n (.dc false [])) _ B _ ⟨Ex.refl B, Ex.new hp, P.ex.trans (Ex.new hp), fun a h => .inl h⟩ ⟨fun a => a = p, fun a e => ?_, rfl, .ofdc rfl (.inl ⟨rfl, [], upd_same, .nil⟩)⟩ q
  subst e
  exact ⟨hp, P.ex.back hp, by rw [upd_same]; exact fun z => nomatch z⟩⟩
end
/-! ### calls of defs of trees, what they stand on -/
structure HasT (P : Program) (w : World) (K : Kx) (mg : Str → Option Value) (base : Heap) (k : Nat) (x : Str) (ps : List Str) (F : FT) (dvs : List V) (dds : List D) : Prop where
  ex : ∃ f fd ds, FnOk P w K.f mg base (L2.CX P w) k f fd ps (spT K F) ∧ mg x = some (.ref f) ∧ PySem.W.keepIn K.f (.ref f) = true ∧ Binds K.f fd ps ds ∧ Vals dvs ds
  dq : ∀ B, DqAll K.f B dvs dds
  mon : MonT F
/-- a method of the class c -/
structure HasM (P : Program) (w : World) (K : Kx) (mg : Str → Option Value) (base : Heap) (k : Nat) (c : Nat) (m : Str) (ps : List Str) (F : FT) (dvs : List V) (dds : List D) : Prop where
  ex : ∃ f fd ds, FnOk P w K.f mg base (L2.CX P w) k f fd ps (spT K F) ∧ Meth K.f (K.cl c) m f ∧ Binds K.f fd ps ds ∧ Vals dvs ds
  cl : Cls K.f (K.cl c)
  dq : ∀ B, DqAll K.f B dvs dds
  mon : MonT F
/-- a class c by its __init__ -/
structure HasI (P : Program) (w : World) (K : Kx) (mg : Str → Option Value) (base : Heap) (k : Nat) (c : Nat) (x : Str) (ps : List Str) (F : FT) (dvs : List V) (dds : List D) : Prop where
  ex : ∃ f fd ds, FnOk P w K.f mg base (L2.CX P w) k f fd ps (spT K F) ∧ Mk K.f (K.cl c) f ∧ mg x = some (.ref (K.cl c)) ∧ Binds K.f fd ps ds ∧ Vals dvs ds
  cl : Cls K.f (K.cl c)
  dq : ∀ B, DqAll K.f B dvs dds
  mon : MonT F
section
variable {X : Cx} {A : Ax} {W : WX} {k k' c : Nat} {ps : List Str} {F : FT} {dvs : List V} {dds : List D} {x m : Str} {p pos apos : Pos} {e o : Expr} {es : List Expr} {t to : TA} {te : TE}
theorem ex_has {d : dXA} (h : HasT X.prog X.w (kx A X) X.mg X.base k x ps F dvs dds) (hr : Room k' X.A) (hk : k ≤ k') (tk : Takes X W) (ha : XR X A W (e :: es) t d)
    (hg : Gl X x := by rfl) (hdb : (x == ("__debug__" : Str)) = false := by decide) (he : starEach (e :: es) X.env = (false, eval e X.env) :: starEach es X.env := by rfl) (hpl : (backTo pos (starEach es X.env)).any (·.1) = false := by rfl) :
    EX X A W (.Call (.Name x p) (e :: es) [] pos) (tCallSD (spT (kx A X) F) dvs (WE W) t) (dxCall F dds d) := by
  obtain ⟨f, fd, ds, G, hm, kp, b, v⟩ := h.ex
  exact ⟨pe_callSD G (hr.mono hk) hg hm kp b v (passAt tk) ha.pa hdb he hpl, sim_xcall h.mon h.dq ha.sim⟩
theorem ex_has0 (h : HasT X.prog X.w (kx A X) X.mg X.base k x ps F dvs dds) (hr : Room k' X.A) (hk : k ≤ k') (tk : Takes X W)
    (hg : Gl X x := by rfl) (hdb : (x == ("__debug__" : Str)) = false := by decide) :
    EX X A W (.Call (.Name x p) [] [] pos) (tCallSD (spT (kx A X) F) dvs (WE W) tNil) (dxCall F dds dxaNil) := by
  obtain ⟨f, fd, ds, G, hm, kp, b, v⟩ := h.ex
  exact ⟨pe_zcl0 G (hr.mono hk) hg hm kp b v (passAt tk) hdb, sim_xcall h.mon h.dq simxa_nil⟩
theorem ex_make {d : dXA} (h : HasI X.prog X.w (kx A X) X.mg X.base k c x ps F dvs dds) (hr : Room k' X.A) (hk : k + 1 ≤ k') (tk : Takes X W) (ha : XR X A W (e :: es) t d)
    (hg : Gl X x := by rfl) (hdb : (x == ("__debug__" : Str)) = false := by decide) (he : starEach (e :: es) X.env = (false, eval e X.env) :: starEach es X.env := by rfl) (hpl : (backTo pos (starEach es X.env)).any (·.1) = false := by rfl) :
    EX X A W (.Call (.Name x p) (e :: es) [] pos) (tZmk ((kx A X).cl c) (spT (kx A X) F) dvs (WE W) t) (dxMake c F dds d) := by
  obtain ⟨f, fd, ds, G, M, hm, b, v⟩ := h.ex
  exact ⟨pe_zmk M G (hr.mono hk) hg hm b v (passAt tk) ha.pa hdb he hpl, sim_xmake h.mon h.dq h.cl ha.sim⟩
theorem ex_make0 (h : HasI X.prog X.w (kx A X) X.mg X.base k c x ps F dvs dds) (hr : Room k' X.A) (hk : k + 1 ≤ k') (tk : Takes X W)
    (hg : Gl X x := by rfl) (hdb : (x == ("__debug__" : Str)) = false := by decide) :
    EX X A W (.Call (.Name x p) [] [] pos) (tZmk ((kx A X).cl c) (spT (kx A X) F) dvs (WE W) tNil) (dxMake c F dds dxaNil) := by
  obtain ⟨f, fd, ds, G, M, hm, b, v⟩ := h.ex
  exact ⟨pe_zmk0 M G (hr.mono hk) hg hm b v (passAt tk) hdb, sim_xmake h.mon h.dq h.cl simxa_nil⟩
/-- o.m(..), o a place -/
theorem ex_methP {d : dPA} {dp : dP_} {pl : Sem Bool} (h : HasM X.prog X.w (kx A X) X.mg X.base k c m ps F dvs dds) (hr : Room k' X.A) (hk : k ≤ k') (tk : Takes X W) (ho : PL X A o te dp) (ha : PR X A (e :: es) t d)
    (hst : starEach (e :: es) X.env = (false, eval e X.env) :: starEach es X.env := by rfl) (hpl : (backTo pos (starEach es X.env)).any (·.1) = false := by rfl)
    (ht : eval (.Call (.Attribute o m apos) (e :: es) [] pos) X.env = (do
      let ov ← eval o X.env
      standAt apos.atName
      let (f, first) ← holding [ov] (getMethod ov m pl)
      callWith pos f first (backTo pos (starEach (e :: es) X.env)) (backToKw pos (keywordEach [] X.env))) := by rfl) :
    EX X A W (.Call (.Attribute o m apos) (e :: es) [] pos) (tZmS ((kx A X).cl c) m (spT (kx A X) F) dvs (WE W) te t) (dxMethP c F dds dp d) := by
  obtain ⟨f, fd, ds, G, M, b, v⟩ := h.ex
  exact ⟨pe_zmS (pl := pl) ho.pe h.cl M G (hr.mono hk) b v (passAt tk) ha.pa hst hpl ht, sim_xmethP h.mon h.dq M ho.sim ha.sim⟩
theorem ex_methP0 {dp : dP_} {pl : Sem Bool} (h : HasM X.prog X.w (kx A X) X.mg X.base k c m ps F dvs dds) (hr : Room k' X.A) (hk : k ≤ k') (tk : Takes X W) (ho : PL X A o te dp)
    (ht : eval (.Call (.Attribute o m apos) [] [] pos) X.env = (do
      let ov ← eval o X.env
      standAt apos.atName
      let (f, first) ← holding [ov] (getMethod ov m pl)
      callWith pos f first (backTo pos (starEach [] X.env)) (backToKw pos (keywordEach [] X.env))) := by rfl) :
    EX X A W (.Call (.Attribute o m apos) [] [] pos) (tZmS ((kx A X).cl c) m (spT (kx A X) F) dvs (WE W) te tNil) (dxMethP c F dds dp dpaNil) := by
  obtain ⟨f, fd, ds, G, M, b, v⟩ := h.ex
  exact ⟨pe_zmS0 (pl := pl) ho.pe h.cl M G (hr.mono hk) b v (passAt tk) ht, sim_xmethP h.mon h.dq M ho.sim simpa_nil⟩
theorem ex_methV (i : Nat) {y : Str} {py : Pos} {d : dXA} {pl : Sem Bool} (h : HasM X.prog X.w (kx A X) X.mg X.base k c m ps F dvs dds) (hr : Room k' X.A) (hk : k ≤ k') (tk : Takes X W) (ha : XR X A W (e :: es) t d)
    (hN : X.N[i]? = some y := by rfl) (hv : Vis X.env.scope y := by first | exact Or.inl rfl | exact Or.inr (Or.inl rfl) | exact Or.inr (Or.inr rfl)) (hd : (y == ("__debug__" : Str)) = false := by decide) (hcd : (y == ("__classdict__" : Str)) = false := by decide)
    (hst : starEach (e :: es) X.env = (false, eval e X.env) :: starEach es X.env := by rfl) (hpl : (backTo pos (starEach es X.env)).any (·.1) = false := by rfl)
    (ht : eval (.Call (.Attribute (.Name y py) m apos) (e :: es) [] pos) X.env = (do
      let ov ← eval (.Name y py) X.env
      standAt apos.atName
      let (f, first) ← holding [ov] (getMethod ov m pl)
      callWith pos f first (backTo pos (starEach (e :: es) X.env)) (backToKw pos (keywordEach [] X.env))) := by rfl) :
    EX X A W (.Call (.Attribute (.Name y py) m apos) (e :: es) [] pos) (tZmS ((kx A X).cl c) m (spT (kx A X) F) dvs (WE W) (tVar i) t) (dxMethV c F dds i d) := by
  obtain ⟨f, fd, ds, G, M, b, v⟩ := h.ex
  exact ⟨pe_zmS (pl := pl) (pe_var hN hv hd hcd) h.cl M G (hr.mono hk) b v (passAt tk) ha.pa hst hpl ht, sim_xmethV h.mon h.dq M ha.sim⟩
/-! dicts, by their syntax -/
theorem ce_ixA {a b : Expr} {ta tb : TE} {da db : dE} (hu : X.A.units + 1 < cLine) (ha : CE X A a ta da) (hb : CE X A b tb db) (hs : PlainIx b := by exact fun _ _ => rfl) : CE X A (.Subscript a b pos) (tOp (rIxA X.K) ta tb) (dOp dIxA da db) := ⟨pe_ix (ix_any hu) ha.pe hb.pe hs, sim_op simR_ixA ha.sim hb.sim⟩
theorem ce_inA {a b : Expr} {ta tb : TE} {da db : dE} (hu : X.A.units + 1 < cLine) (ha : CE X A a ta da) (hb : CE X A b tb db) (hm : behindInMarks .In b = false := by rfl) : CE X A (.Compare a [.In] [b] pos) (tOp (fun x y H Q => rIn X.K false x y H Q ∨ rInD X.K false x y H Q) ta tb) (dOp (dInA false) da db) := ce_cmp (OpR.or op_in_seq (op_inD hu)) simR_inA ha hb hm
theorem ce_notinA {a b : Expr} {ta tb : TE} {da db : dE} (hu : X.A.units + 1 < cLine) (ha : CE X A a ta da) (hb : CE X A b tb db) (hm : behindInMarks .NotIn b = false := by rfl) : CE X A (.Compare a [.NotIn] [b] pos) (tOp (fun x y H Q => rIn X.K true x y H Q ∨ rInD X.K true x y H Q) ta tb) (dOp (dInA true) da db) := ce_cmp (OpR.or op_notIn_seq (op_notinD hu)) simR_inA ha hb hm
theorem ct_inA {a b : Expr} {ta tb : TE} {da db : dE} (hu : X.A.units + 1 < cLine) (ha : CE X A a ta da) (hb : CE X A b tb db) (hm : behindInMarks .In b = false := by rfl) : CT X A (.Compare a [.In] [b] pos) (tTest (tOp (fun x y H Q => rIn X.K false x y H Q ∨ rInD X.K false x y H Q) ta tb)) (dTst (dOp (dInA false) da db)) := ct_cmp (OpR.or op_in_seq (op_inD hu)) simR_inA ha hb hm
theorem ct_notinA {a b : Expr} {ta tb : TE} {da db : dE} (hu : X.A.units + 1 < cLine) (ha : CE X A a ta da) (hb : CE X A b tb db) (hm : behindInMarks .NotIn b = false := by rfl) : CT X A (.Compare a [.NotIn] [b] pos) (tTest (tOp (fun x y H Q => rIn X.K true x y H Q ∨ rInD X.K true x y H Q) ta tb)) (dTst (dOp (dInA true) da db)) := ct_cmp (OpR.or op_notIn_seq (op_notinD hu)) simR_inA ha hb hm
theorem ce_newK : CE X A (.Dict [] [] pos) tDNewK dNewK := ⟨pe_dnewK, sim_newK⟩
/-- o[j] = e -/
theorem cs_setI {o j e : Expr} {to tj te : TE} {dp : dP_} {dj : dE} {dx : dX} {p2 : Pos} (hu : X.A.units + 1 < cLine) (ho : PL X A o to dp) (hj : CE X A j tj dj) (h : EX X A W e te dx)
    (ha : ∀ v, assign (.Subscript o j p2) X.env v = (do
      let ov ← holding [v] (eval o X.env)
      let iv ← holding [v, ov] (eval j X.env)
      standAt p2
      holding [v, ov, iv] (setItem ov iv v)
      release [v, ov, iv] []) := by intro _; rfl)
    (hs : swapsWithSole [.Subscript o j p2] e pos.line X.env = pure false := by rfl) (hw : swappedStores [.Subscript o j p2] e X.env = pure none := by rfl)
    (h1 : (assignEach [.Subscript o j p2] X.env).map (·.2) = [assign (.Subscript o j p2) X.env] := by rfl) :
    CS X A W (.Assign [.Subscript o j p2] e pos) (tAsg te (gSub to tj rSetA)) (dSetI dp dj dx) := by
  refine ⟨ps_asg h.pe (pg_sub ho.pe hj.pe (t := rSetA) ?_ ha) hs hw h1, sim_setI h.sim ho.sim hj.sim⟩
  intro pins s σ H o i v ov iv u Q I ro ri rv q
  rcases q with q | q
  · exact set_list pins s σ H o i v ov iv u Q I ro ri rv q
  · exact set_dict hu pins s σ H o i v ov iv u Q I ro ri rv q
theorem cs_delI {o j : Expr} {to tj : TE} {dp : dP_} {dj : dE} {p2 : Pos} (ho : PL X A o to dp) (hj : CE X A j tj dj) : CS X A W (.Delete [.Subscript o j p2] pos) (sDDel to tj) (dDelI dp dj) := ⟨ps_ddel ho.pe hj.pe, sim_delI ho.sim hj.sim⟩
end
end Dl

set_option maxHeartbeats 2000000
namespace Dl
open PySem L2
/-! ### comprehensions over dicts of our own -/
structure CD (X : Cx) (A : Ax) (tg iter : Expr) (w : Walk) (td : TE) (dp : dP_) : Prop where
  pi : PI X tg iter (w.ti td)
  sim : SimP (kx A X) A td dp
  det : Det dp
section
variable {X : Cx} {A : Ax} {W : WX} {e tg : Expr} {td : TE} {dp : dP_} {pos apos cpos : Pos}
theorem cd_keys (h : PL X A e td dp) (hd : Det dp) : CD X A tg e .keys td dp := ⟨pi_keys h.pe, h.sim, hd⟩
theorem cd_vals (h : PL X A e td dp) (hd : Det dp) (hbase : attributeBase e "values" X.env (eval e X.env) = eval e X.env := by rfl) (hline : (apos.endLine == cpos.line) = true := by rfl) : CD X A tg (.Call (.Attribute e "values" apos) [] [] cpos) .vals td dp := ⟨pi_values h.pe hbase hline, h.sim, hd⟩
theorem ce_lcD {elt iter : Expr} {ifs : List Expr} {scope : Scope} {own : List (Str × Nat)} {w : Walk} {js : List Nat} {g : TG} {dg : dG} {tt : TT} {dt : dT} {te : TE} {de : dE} (hc : X.calm = true) (hN : X.N.Nodup) (hi : CD X A tg iter w td dp) (ok : BlkOk X.N X.env.scope scope own)
    (hg : ∀ (s : Shared) (H : Hp) (C : Addr) (cl : List (Str × Addr)) (fp : List Addr), ∃ g', CG (X.blk s H scope (compEnvC scope cl C X.env) fp) A tg js g' dg ∧ g' = g) (ht : ∀ (s : Shared) (H : Hp) (C : Addr) (cl : List (Str × Addr)) (fp : List Addr), ∃ tt', (PTs (X.blk s H scope (compEnvC scope cl C X.env) fp) ifs tt' ∧ SimT (kx A X) A tt' dt) ∧ tt' = tt)
    (he : ∀ (s : Shared) (H : Hp) (C : Addr) (cl : List (Str × Addr)) (fp : List Addr), ∃ te', CE (X.blk s H scope (compEnvC scope cl C X.env) fp) A elt te' de ∧ te' = te) (hj : ∀ j ∈ js, j ∈ own.map (·.2) := by decide) (hs : ∀ x, foldedSetIterable iter X.env x = pure x := by intro _; rfl) (hv : ∀ v ∈ own.map (·.2), A.A v = false := by decide) :
    CE X A (.ListComp elt [⟨tg, iter, ifs, 0⟩] scope pos) (tLockE (tLc (w.ti td) g tt te (own.map (·.2)))) (dLcD w dp dg dt de (own.map (·.2))) := by
  have hg' : ∀ s H C cl fp, CG (X.blk s H scope (compEnvC scope cl C X.env) fp) A tg js g dg := fun s H C cl fp => by obtain ⟨_, h, rfl⟩ := hg s H C cl fp; exact h
  have ht' : ∀ s H C cl fp, PTs (X.blk s H scope (compEnvC scope cl C X.env) fp) ifs tt ∧ SimT (kx A X) A tt dt := fun s H C cl fp => by obtain ⟨_, h, rfl⟩ := ht s H C cl fp; exact h
  have he' : ∀ s H C cl fp, CE (X.blk s H scope (compEnvC scope cl C X.env) fp) A elt te de := fun s H C cl fp => by obtain ⟨_, h, rfl⟩ := he s H C cl fp; exact h
  exact ⟨pe_lock (pe_lc hc hN hi.pi ok (fun s H C cl fp => (hg' s H C cl fp).pg) (fun s H C cl fp => (ht' s H C cl fp).1) (fun s H C cl fp => (he' s H C cl fp).pe) hs),
    sim_lcD w hi.det hi.sim (hg' X.s_0 X.H_0 0 [] []).sim (ht' X.s_0 X.H_0 0 [] []).2 (he' X.s_0 X.H_0 0 [] []).sim hj hv⟩
theorem cs_setLcD (i : Nat) {y : Str} {py spos : Pos} {elt iter : Expr} {ifs : List Expr} {scope : Scope} {own : List (Str × Nat)} {w : Walk} {js : List Nat} {g : TG} {dg : dG} {tt : TT} {dt : dT} {te : TE} {de : dE} (hc : X.calm = true) (hN : X.N.Nodup) (hi : CD X A tg iter w td dp) (ok : BlkOk X.N X.env.scope scope own)
    (hg : ∀ (s : Shared) (H : Hp) (C : Addr) (cl : List (Str × Addr)) (fp : List Addr), ∃ g', CG (X.blk s H scope (compEnvC scope cl C X.env) fp) A tg js g' dg ∧ g' = g) (ht : ∀ (s : Shared) (H : Hp) (C : Addr) (cl : List (Str × Addr)) (fp : List Addr), ∃ tt', (PTs (X.blk s H scope (compEnvC scope cl C X.env) fp) ifs tt' ∧ SimT (kx A X) A tt' dt) ∧ tt' = tt)
    (he : ∀ (s : Shared) (H : Hp) (C : Addr) (cl : List (Str × Addr)) (fp : List Addr), ∃ te', CE (X.blk s H scope (compEnvC scope cl C X.env) fp) A elt te' de ∧ te' = te) (hsw : swapsWith (.ListComp elt [⟨tg, iter, ifs, 0⟩] scope pos) (some (.Name y py)) spos.line X.env = pure true)
    (hy : X.N[i]? = some y := by rfl) (hyl : X.env.scope.names.lookup y = some .local := by rfl) (hj : ∀ j ∈ js, j ∈ own.map (·.2) := by decide) (hs : ∀ x, foldedSetIterable iter X.env x = pure x := by intro _; rfl) (hv : ∀ v ∈ own.map (·.2), A.A v = false := by decide) (hA : A.A i = false := by rfl) (hn : i < A.n := by decide) :
    CS X A W (.Assign [.Name y py] (.ListComp elt [⟨tg, iter, ifs, 0⟩] scope pos) spos) (tLock (tAsg (tLc (w.ti td) g tt te (own.map (·.2))) (gName i))) (dSet i (dP (dLcD w dp dg dt de (own.map (·.2))))) := by
  have hg' : ∀ s H C cl fp, CG (X.blk s H scope (compEnvC scope cl C X.env) fp) A tg js g dg := fun s H C cl fp => by obtain ⟨_, h, rfl⟩ := hg s H C cl fp; exact h
  have ht' : ∀ s H C cl fp, PTs (X.blk s H scope (compEnvC scope cl C X.env) fp) ifs tt ∧ SimT (kx A X) A tt dt := fun s H C cl fp => by obtain ⟨_, h, rfl⟩ := ht s H C cl fp; exact h
  have he' : ∀ s H C cl fp, CE (X.blk s H scope (compEnvC scope cl C X.env) fp) A elt te de := fun s H C cl fp => by obtain ⟨_, h, rfl⟩ := he s H C cl fp; exact h
  refine ⟨ps_lock (ps_setLc hc hN hy hyl hsw hi.pi ok (fun s H C cl fp => (hg' s H C cl fp).pg) (fun s H C cl fp => (ht' s H C cl fp).1) (fun s H C cl fp => (he' s H C cl fp).pe) hs), ?_⟩
  have sim : SimS (kx A X) A W (tAsg (tLockE (tLc (w.ti td) g tt te (own.map (·.2)))) (gName i)) (dSet i (dP (dLcD w dp dg dt de (own.map (·.2))))) :=
    sim_set hA hn (sim_p (sim_lcD w hi.det hi.sim (hg' X.s_0 X.H_0 0 [] []).sim (ht' X.s_0 X.H_0 0 [] []).2 (he' X.s_0 X.H_0 0 [] []).sim hj hv))
  exact ⟨fun p q k1 k2 k3 k4 k5 => sim.run p q k1 k2 k3 k4 k5⟩
end
/-! ### x.f += e -/
def dFldA (k : Nat) (dp : dP_) (de : dE) (dr : Z → Z → (Z → Prop) → Prop) : dS := fun E ρ => dp ρ fun i p => match atP ρ i p with
  | .ob c cs => (match cs.pos k with
    | some n => (match cs.get n with
      | .v d => de ρ fun y => dr (.v d) y fun z => match z with
        | .v d' => fldAt c k ρ i p (.v d') E.nx
        | _ => False
      | _ => False)
    | none => False)
  | _ => False
theorem in_add {X : Cx} : InOp X .Add (ipI fun i j => i + j) := fun pins s σ H x y u v Q I rx ry q => ip_add pins s σ H x y u v Q I rx ry q
section
variable {K : Kx} {A : Ax} {W : WX}
theorem sim_fldA {te tx : TE} {dp : dP_} {de : dE} {rd : V → V → Hp → VK → Prop} {dr : Z → Z → (Z → Prop) → Prop} {k : Nat} {f : Str} (hf : f = K.nm k) (hk : K.nm k ≠ "" ∧ ∀ j, K.nm j = K.nm k → j = k) (hr : SimR K rd dr) (h1 : SimP K A te dp) (h2 : SimE K A tx de) : SimS K A W (sFldAug K.f te tx rd f) (dFldA k dp de dr) := by
  subst hf
  refine ⟨fun {B H G σ ρ D E} P q k1 k2 k3 k4 k5 => ?_⟩
  refine h1.run P q fun i p u B1 H1 g1 hv hs q1 => ?_
  have P1 := P.gr g1
  split at q1
  · rename_i c cs e
    split at q1
    · rename_i n en
      split at q1
      · rename_i d ed
        obtain ⟨a, vs, N, R, rfl, nd, of, _, _⟩ := P1.ob hv hs e
        obtain ⟨dx, fs, w, e1, e2, e3, e4, e5, e6⟩ := node_fld nd en
        obtain ⟨w', R1, ew, ow, r1, _⟩ := ownF_kid of (pos_lab en).1
        rw [e5] at ew
        cases ew
        rw [ed] at ow
        have dw := ow.vv
        refine ⟨a, _, dx, fs, w, rfl, e1, e2, e3, e4, ?_⟩
        refine h2.run P1 q1 fun y wy B2 H2 g2 z2 q2 => ?_
        have P2 := P1.gr g2
        refine hr P2.ok (x := .v d) (H_0 := fun _ => none) (dp_mono g2.b _ _ dw) (z2.early Ex.none) q2 fun z wz B3 H3 g3 z3 q3 => ?_
        cases z with
        | b s => exact (show False from q3).elim
        | n s => exact (show False from q3).elim
        | v d' =>
          have P3 := P2.gr g3
          have hv3 := P1.sval (fun a o _ e => (g2.trans g3).h a o e) hv
          have en3 : H3 a = some (.ins (K.cl c) dx fs) := g3.h _ _ (g2.h _ _ e1)
          obtain ⟨a', C', dx', fs', ea, e7, e8, e9, e10, e11⟩ := fld_run (Q := fun H' => D.nx σ H') (y := wz) (Rt := fun _ => False) hk (by
            obtain ⟨dx2, fs2, w2, f1, f2, f3, f4, f5, f6⟩ := node_fld nd en
            exact f3) (Ext.gr (g1.trans (g2.trans g3))) P3 hv3 hs (.ofv z3) rfl (fun _ z => z.elim) q3 fun H' G' ρ' x' P' q' => k1 _ _ _ _ _ x' P' q'
          cases ea
          rw [en3] at e7
          cases e7
          exact ⟨dx, fs, en3, e10, e11⟩
      · exact q1.elim
    · exact q1.elim
  · exact q1.elim
end
section
variable {X : Cx} {A : Ax} {W : WX} {o e : Expr} {to te : TE} {dp : dP_} {de : dE} {pos tpos : Pos}
theorem cs_fldI (k : Nat) {f : Str} (hk : A.fn.getD k "" ≠ "" ∧ ∀ j, A.fn.getD j "" = A.fn.getD k "" → j = k) (ho : PL X A o to dp) (h : CE X A e te de) (hf : f = A.fn.getD k "" := by rfl) : CS X A W (.AugAssign (.Attribute o f tpos) .Add e pos) (sFldAug X.K to te (ipI fun i j => i + j) f) (dFldA k dp de dAddI) :=
  ⟨ps_fldaug ho.pe h.pe in_add, sim_fldA hf hk (simR_I0 (g := fun i j => .int (i + j)) fun _ _ _ => .int _) ho.sim h.sim⟩
end
theorem css_out {X : Cx} {A : Ax} {W : WX} {sts : List Stmt} {ts : TS} {ds : dS} (c : CSs X A W sts ts ds) : ∃ ts, PSs X sts ts ∧ SimS (kx A X) A W ts ds := ⟨ts, c.ps, c.sim⟩
theorem getD_inj {l : List Str} (nd : l.Nodup) (ne : ("" : Str) ∉ l) {k : Nat} (hk : k < l.length) : l.getD k "" ≠ "" ∧ ∀ j, l.getD j "" = l.getD k "" → j = k := by
  have hg : l.getD k "" = l[k] := by rw [List.getD_eq_getElem?_getD, List.getElem?_eq_getElem hk]; rfl
  have h0 : l.getD k "" ≠ "" := by
    rw [hg]
    intro z
    exact ne (z ▸ List.getElem_mem hk)
  refine ⟨h0, fun j e => ?_⟩
  by_cases hj : j < l.length
  · have hgj : l.getD j "" = l[j] := by rw [List.getD_eq_getElem?_getD, List.getElem?_eq_getElem hj]; rfl
    rw [hg, hgj] at e
    exact (List.getElem?_inj hj nd).mp (by rw [List.getElem?_eq_getElem hj, List.getElem?_eq_getElem hk, e])
  · exfalso
    rw [List.getD_eq_getElem?_getD, List.getElem?_eq_none (by omega)] at e
    exact h0 e.symm
theorem hM_of {M N : List Bool} (h : ∀ i : Nat, M[i]? = some true → N[i]? = some true) : ∀ i : Nat, M[i]? = some true → (fun i => N.getD i false) i = true := fun i e => by
  show N.getD i false = true
  rw [List.getD_eq_getElem?_getD, h i e]
  rfl
/-- a promise by its answer: what comes out, what the arguments are then -/
def detT (n : Nat) (P : List S → Z → List S → Prop) : FT := fun ρ Q _ => ρ.length = n ∧ ∃ z ρ', P ρ z ρ' ∧ Q z ρ'
theorem mon_detT {n : Nat} {P : List S → Z → List S → Prop} : MonT (detT n P) := by
  rintro ρ Q Q' E E' h _ ⟨l, z, ρ', p, q⟩
  exact ⟨l, z, ρ', p, h _ _ q⟩
theorem len_detT {n : Nat} {P : List S → Z → List S → Prop} : LenT (detT n P) n := fun _ _ _ h => h.1
end Dl

set_option maxHeartbeats 2000000
namespace Dl
open PySem L2
/-! ### sorts by their answer -/
def leS (a b : Str) : Bool := decide (a.cps.toList ≤ b.cps.toList)
def sortS (ss : List Str) : List Str := ss.mergeSort leS
def leI (a b : Int) : Bool := decide (a ≤ b)
def sortI (ss : List Int) : List Int := ss.mergeSort leI
theorem str_ext {a b : Str} (h : a.cps.toList = b.cps.toList) : a = b := by
  cases a; cases b
  have := Array.toList_inj.mp h
  cases this
  rfl
theorem leS_trans (a b c : Str) : leS a b = true → leS b c = true → leS a c = true := fun h g => decide_eq_true (List.le_trans (of_decide_eq_true h) (of_decide_eq_true g))
theorem leS_total (a b : Str) : (leS a b || leS b a) = true := by
  rcases List.le_total a.cps.toList b.cps.toList with h | h
  · rw [show leS a b = true from decide_eq_true h]; rfl
  · rw [show leS b a = true from decide_eq_true h, Bool.or_true]
theorem leI_trans (a b c : Int) : leI a b = true → leI b c = true → leI a c = true := fun h g => decide_eq_true (Int.le_trans (of_decide_eq_true h) (of_decide_eq_true g))
theorem leI_total (a b : Int) : (leI a b || leI b a) = true := by
  rcases Int.le_total a b with h | h
  · rw [show leI a b = true from decide_eq_true h]; rfl
  · rw [show leI b a = true from decide_eq_true h, Bool.or_true]
theorem sortS_perm (ss : List Str) : (sortS ss).Perm ss := List.mergeSort_perm ss leS
theorem sortI_perm (ss : List Int) : (sortI ss).Perm ss := List.mergeSort_perm ss leI
theorem sortS_pw (ss : List Str) : (sortS ss).Pairwise fun a b => leS a b = true := List.pairwise_mergeSort leS_trans leS_total ss
theorem sortI_pw (ss : List Int) : (sortI ss).Pairwise fun a b => leI a b = true := List.pairwise_mergeSort leI_trans leI_total ss
theorem sortS_uniq {ys ks : List Str} (p : ys.Perm ks) (h : ys.Pairwise fun a b => leS a b = true) : ys = sortS ks :=
  List.Perm.eq_of_pairwise (le := fun a b => leS a b = true) (fun a b _ _ h1 h2 => str_ext (List.le_antisymm (of_decide_eq_true h1) (of_decide_eq_true h2))) h (sortS_pw ks) (p.trans (sortS_perm ks).symm)
theorem sortI_uniq {ys ks : List Int} (p : ys.Perm ks) (h : ys.Pairwise fun a b => leI a b = true) : ys = sortI ks :=
  List.Perm.eq_of_pairwise (le := fun a b => leI a b = true) (fun a b _ _ h1 h2 => Int.le_antisymm (of_decide_eq_true h1) (of_decide_eq_true h2)) h (sortI_pw ks) (p.trans (sortI_perm ks).symm)
theorem sortS_eq {ys ks : List Str} (p : ys.Perm ks) : sortS ys = sortS ks := sortS_uniq ((sortS_perm ys).trans p) (sortS_pw ys)
theorem sortI_eq {ys ks : List Int} (p : ys.Perm ks) : sortI ys = sortI ks := sortI_uniq ((sortI_perm ys).trans p) (sortI_pw ys)
theorem rising_pw : ∀ {ys : List Str} {p : Str}, PyProof.Rows.risingS p ys = true → (∀ y ∈ ys, leS p y = true) ∧ ys.Pairwise fun a b => leS a b = true
  | [], p, _ => ⟨(fun _ h => nomatch h), .nil⟩
  | x :: r, p, h => by
    have h : (!PySem.Spec.ltCps x.cps.toList p.cps.toList && PyProof.Rows.risingS x r) = true := h
    rw [Bool.and_eq_true, PyProof.Rows.ltCps_eq] at h
    obtain ⟨a, b⟩ := rising_pw h.2
    have hp : leS p x = true := decide_eq_true (by
      have := h.1
      rw [Bool.not_eq_true', decide_eq_false_iff_not] at this
      exact List.not_lt.mp this)
    exact ⟨fun y hy => by
      rcases List.mem_cons.mp hy with rfl | hy
      · exact hp
      · exact leS_trans _ _ _ hp (a y hy), .cons a b⟩
theorem sortedS_pw : ∀ {ys : List Str}, PyProof.Rows.sortedS ys = true → ys.Pairwise fun a b => leS a b = true
  | [], _ => .nil
  | x :: r, h => by
    obtain ⟨a, b⟩ := rising_pw (ys := r) (p := x) h
    exact .cons a b
theorem sortD_strs (ss : List Str) : sortD (ss.map .str) = (sortS ss).map .str :=
  (List.map_mergeSort (r := leS) (s := PySem.W.dataLe false id) (f := PyData.str) (fun a _ b _ => (congrFun (congrFun (PySem.W.dataLe_str (fun s : Str => s)) a) b).symm)).symm
theorem sortD_ints (ss : List Int) : sortD (ss.map .int) = (sortI ss).map .int :=
  (List.map_mergeSort (r := leI) (s := PySem.W.dataLe false id) (f := PyData.int) (fun a _ b _ => (congrFun (congrFun (PySem.W.dataLe_int (fun s : Int => s)) a) b).symm)).symm
theorem sortOk_strs {ss : List Str} (h : ss.length ≤ sizeLine) (hs : ∀ s ∈ ss, PyData.strOk s = true) : SortOk (ss.map .str) :=
  ⟨PySem.W.AllAlike.of fun _ _ => rfl, PySem.W.Sortable.others fun b => ⟨(fun h => by cases h), fun _ h => by cases h⟩, fun d hd => by
    obtain ⟨s, hm, rfl⟩ := List.mem_map.mp hd
    exact ⟨by simp [PyData.canLay0, hs s hm], by simp [PyData.depth]⟩, by rw [List.length_map]; exact h⟩
theorem sortOk_ints {ss : List Int} (h : ss.length ≤ sizeLine) : SortOk (ss.map .int) :=
  ⟨PySem.W.AllAlike.of fun _ _ => rfl, PySem.W.Sortable.others fun b => ⟨(fun h => by cases h), fun _ h => by cases h⟩, fun d hd => by
    obtain ⟨s, _, rfl⟩ := List.mem_map.mp hd
    exact ⟨by simp [PyData.canLay0], by simp [PyData.depth]⟩, by rw [List.length_map]; exact h⟩
theorem sort_strs {z : Z} {ss : List Str} {Q : Z → Prop} (hd : z.dk = none) (e : z.data = some (.list (ss.map .str))) (h : ss.length ≤ sizeLine) (hs : ∀ s ∈ ss, PyData.strOk s = true) (q : Q (.n (.l ((sortS ss).map .str)))) : fSortZ z Q := by
  unfold fSortZ
  rw [hd, e]
  exact ⟨sortOk_strs h hs, by rw [sortD_strs]; exact q⟩
theorem sort_ints {z : Z} {ss : List Int} {Q : Z → Prop} (hd : z.dk = none) (e : z.data = some (.list (ss.map .int))) (h : ss.length ≤ sizeLine) (q : Q (.n (.l ((sortI ss).map .int)))) : fSortZ z Q := by
  unfold fSortZ
  rw [hd, e]
  exact ⟨sortOk_ints h, by rw [sortD_ints]; exact q⟩
theorem sort_keysS {z : Z} {kvs : List (D × D)} {ss : List Str} {Q : Z → Prop} (hd : z.dk = some kvs) (e : kvs.map (·.1) = ss.map PyData.str) (h : ss.length < 64) (q : Q (.n (.l ((sortS ss).map .str)))) : fSortZ z Q := by
  unfold fSortZ
  rw [hd]
  exact .inr ⟨ss, e, h, fun ys p hs => by rw [sortS_uniq p (sortedS_pw hs)]; exact q⟩
theorem sort_keysI {z : Z} {kvs : List (D × D)} {ss : List Int} {Q : Z → Prop} (hd : z.dk = some kvs) (e : kvs.map (·.1) = ss.map PyData.int) (h : ss.length < 64) (q : Q (.n (.l ((sortI ss).map .int)))) : fSortZ z Q := by
  unfold fSortZ
  rw [hd]
  exact .inl ⟨ss, e, h, fun ys p hs => by rw [sortI_uniq p (hs.imp fun h => decide_eq_true h)]; exact q⟩

/-! ### dicts by their rows -/
class DKey (κ : Type) [DecidableEq κ] where
  ck : κ → D
  inj : ∀ a b : κ, keyA (ck a) = keyA (ck b) → a = b
instance : DKey Str := ⟨.str, fun a b h => by cases h; rfl⟩
instance : DKey Int := ⟨.int, fun a b h => by cases h; rfl⟩
section
variable {κ α : Type} [DecidableEq κ] [DKey κ] {f : α → κ} {g : α → D}
def encK (f : α → κ) (g : α → D) (x : α) : D × D := (DKey.ck (f x), g x)
def putR (f : α → κ) (xs : List α) (y : α) : List α := if xs.any (fun x => decide (f x = f y)) = true then xs.map (fun x => if f x = f y then y else x) else xs ++ [y]
def dropR (f : α → κ) (xs : List α) (k : κ) : List α := xs.filter fun x => !decide (f x = k)
def lookR (f : α → κ) (xs : List α) (k : κ) : Option α := xs.find? fun x => decide (f x = k)
theorem hitD_enc {k : κ} {x : α} : hitD (DKey.ck k) (encK f g x) = decide (f x = k) := by
  unfold hitD encK
  by_cases e : f x = k
  · rw [decide_eq_true e]; subst e; exact decide_eq_true rfl
  · rw [decide_eq_false e]; exact decide_eq_false fun z => e (DKey.inj _ _ z)
theorem lookD_enc {k : κ} : ∀ {xs : List α}, lookD (xs.map (encK f g)) (DKey.ck k) = (lookR f xs k).map g
  | [] => rfl
  | x :: xs => by
    have ih := lookD_enc (k := k) (xs := xs)
    unfold lookD lookR at ih ⊢
    have hh : (decide (keyA (encK f g x).1 = keyA (DKey.ck k))) = decide (f x = k) := hitD_enc
    rw [List.map_cons, List.find?_cons, List.find?_cons, hh]
    by_cases e : f x = k
    · rw [decide_eq_true e]; rfl
    · rw [decide_eq_false e]; exact ih
theorem putD_enc {y : α} {xs : List α} : putD (xs.map (encK f g)) (DKey.ck (f y)) (g y) = (putR f xs y).map (encK f g) := by
  have hh : (xs.map (encK f g)).any (hitD (DKey.ck (f y))) = xs.any (fun x => decide (f x = f y)) := by
    rw [List.any_map]
    congr 1
    funext x
    exact hitD_enc
  unfold putD putR
  rw [hh]
  by_cases e : xs.any (fun x => decide (f x = f y)) = true
  · rw [if_pos e, if_pos e, List.map_map, List.map_map]
    refine List.map_congr_left fun x _ => ?_
    show (if hitD (DKey.ck (f y)) (encK f g x) = true then _ else _) = encK f g (if f x = f y then y else x)
    rw [hitD_enc]
    by_cases e2 : f x = f y
    · rw [if_pos (decide_eq_true e2), if_pos e2]
      show (DKey.ck (f x), g y) = (DKey.ck (f y), g y)
      rw [e2]
    · rw [if_neg (fun z => e2 (of_decide_eq_true z)), if_neg e2]
  · rw [if_neg e, if_neg e, List.map_append]
    rfl
theorem dropD_enc {k : κ} {xs : List α} : dropD (xs.map (encK f g)) (DKey.ck k) = (dropR f xs k).map (encK f g) := by
  unfold dropD dropR
  rw [List.filter_map]
  congr 1
  refine List.filter_congr fun x _ => ?_
  show (!hitD (DKey.ck k) (encK f g x)) = _
  rw [hitD_enc]
theorem lookR_some {xs : List α} {k : κ} {x : α} (h : lookR f xs k = some x) : x ∈ xs ∧ f x = k := ⟨List.mem_of_find?_eq_some h, of_decide_eq_true (List.find?_some (p := fun x => decide (f x = k)) h)⟩
theorem lookR_none {xs : List α} {k : κ} (h : lookR f xs k = none) : ∀ x ∈ xs, f x ≠ k := fun x hx e => by
  have := List.find?_eq_none.mp h x hx
  exact this (decide_eq_true e)
theorem lookR_isSome {xs : List α} {k : κ} : (lookR f xs k).isSome = xs.any (fun x => decide (f x = k)) := by
  unfold lookR
  induction xs with
  | nil => rfl
  | cons x xs ih =>
    rw [List.find?_cons, List.any_cons]
    cases decide (f x = k) with
    | true => rfl
    | false => exact ih
theorem nd_inj : ∀ {xs : List α}, (xs.map f).Nodup → ∀ x ∈ xs, ∀ y ∈ xs, f x = f y → x = y
  | [], _, _, h, _, _, _ => nomatch h
  | a :: xs, nd, x, hx, y, hy, e => by
    have nd' := List.nodup_cons.mp nd
    rcases List.mem_cons.mp hx with e1 | h1
    · rcases List.mem_cons.mp hy with e2 | h2
      · rw [e1, e2]
      · exact absurd (by rw [← e1, e]; exact List.mem_map_of_mem h2) nd'.1
    · rcases List.mem_cons.mp hy with e2 | h2
      · exact absurd (by rw [← e2, ← e]; exact List.mem_map_of_mem h1) nd'.1
      · exact nd_inj nd'.2 x h1 y h2 e
theorem lookR_of {xs : List α} {x : α} (nd : (xs.map f).Nodup) (h : x ∈ xs) : lookR f xs (f x) = some x := by
  cases e : lookR f xs (f x) with
  | none => exact absurd rfl (lookR_none e x h)
  | some y =>
    obtain ⟨hy, hf⟩ := lookR_some e
    rw [nd_inj nd y hy x h hf]
theorem encK_keys {xs : List α} : (xs.map (encK f g)).map (·.1) = (xs.map f).map DKey.ck := by rw [List.map_map, List.map_map]; rfl
theorem encK_vals {xs : List α} : (xs.map (encK f g)).map (·.2) = xs.map g := by rw [List.map_map]; rfl
theorem putR_keys {y : α} {xs : List α} : (putR f xs y).map f = if xs.any (fun x => decide (f x = f y)) = true then xs.map f else xs.map f ++ [f y] := by
  unfold putR
  split
  · rw [List.map_map]
    refine List.map_congr_left fun x _ => ?_
    show f (if f x = f y then y else x) = f x
    split
    · rename_i e; exact e.symm
    · rfl
  · rw [List.map_append]; rfl
theorem putR_nodup {y : α} {xs : List α} (h : (xs.map f).Nodup) : ((putR f xs y).map f).Nodup := by
  rw [putR_keys]
  split
  · exact h
  · rename_i e
    refine List.nodup_append.mpr ⟨h, (.cons (fun _ h => nomatch h) .nil), fun a ha b hb => ?_⟩
    rw [List.mem_singleton] at hb
    subst hb
    obtain ⟨x, hx, rfl⟩ := List.mem_map.mp ha
    exact fun z => e (List.any_eq_true.mpr ⟨x, hx, decide_eq_true z⟩)
theorem putR_mem {y z : α} {xs : List α} (h : z ∈ putR f xs y) : z = y ∨ (z ∈ xs ∧ f z ≠ f y) := by
  unfold putR at h
  split at h
  · obtain ⟨x, hx, rfl⟩ := List.mem_map.mp h
    split
    · exact .inl rfl
    · rename_i e; exact .inr ⟨hx, e⟩
  · rename_i e
    rcases List.mem_append.mp h with h | h
    · exact .inr ⟨h, fun w => e (List.any_eq_true.mpr ⟨z, h, decide_eq_true w⟩)⟩
    · exact .inl (List.mem_singleton.mp h)
/-- put, up to the order: the old row goes, the new one comes -/
theorem putR_perm {y : α} : ∀ {xs : List α}, (xs.map f).Nodup → (putR f xs y).Perm (dropR f xs (f y) ++ [y])
  | [], _ => .refl _
  | x :: xs, nd => by
    have nd' := (List.nodup_cons.mp nd)
    by_cases e : f x = f y
    · have none : ∀ z ∈ xs, f z ≠ f y := fun z hz w => nd'.1 (by rw [e, ← w]; exact List.mem_map_of_mem hz)
      have h1 : putR f (x :: xs) y = y :: xs := by
        unfold putR
        rw [if_pos (List.any_eq_true.mpr ⟨x, .head _, decide_eq_true e⟩), List.map_cons, if_pos e]
        congr 1
        refine (List.map_congr_left fun z hz => ?_).trans (List.map_id xs)
        rw [if_neg (none z hz)]; rfl
      have h2 : dropR f (x :: xs) (f y) = xs := by
        unfold dropR
        rw [List.filter_cons, if_neg (by rw [decide_eq_true e]; decide)]
        exact List.filter_eq_self.mpr fun z hz => by rw [decide_eq_false (none z hz)]; rfl
      rw [h1, h2]
      exact (List.perm_append_comm (l₁ := [y]) (l₂ := xs))
    · have ih := putR_perm (y := y) (xs := xs) nd'.2
      have h1 : putR f (x :: xs) y = x :: putR f xs y := by
        unfold putR
        rw [List.any_cons, decide_eq_false e, Bool.false_or]
        split
        · rw [List.map_cons, if_neg e]
        · rfl
      have h2 : dropR f (x :: xs) (f y) = x :: dropR f xs (f y) := by
        unfold dropR
        rw [List.filter_cons, if_pos (by rw [decide_eq_false e]; rfl)]
      rw [h1, h2]
      exact ih.cons x
theorem dropR_nodup {k : κ} {xs : List α} (h : (xs.map f).Nodup) : ((dropR f xs k).map f).Nodup := h.sublist (List.Sublist.map _ List.filter_sublist)
end
theorem nodup_len {α : Type} [DecidableEq α] : ∀ {xs ys : List α}, xs.Nodup → (∀ x ∈ xs, x ∈ ys) → xs.length ≤ ys.length
  | [], _, _, _ => Nat.zero_le _
  | x :: xs, ys, nd, h => by
    have nd' := List.nodup_cons.mp nd
    have ih := nodup_len (xs := xs) (ys := ys.erase x) nd'.2 fun y hy => (List.mem_erase_of_ne (fun e : y = x => nd'.1 (by rw [← e]; exact hy))).mpr (h y (.tail _ hy))
    rw [List.length_erase_of_mem (h x (.head _))] at ih
    have : 0 < ys.length := List.length_pos_of_mem (h x (.head _))
    show xs.length + 1 ≤ ys.length
    omega
theorem iteB {b : Bool} {A C : Prop} (h1 : b = true → A) (h2 : b = false → C) : if b = true then A else C := by
  cases b
  · exact h2 rfl
  · exact h1 rfl
theorem atI_map {α : Type} {f : α → D} {xs : List α} {d : α} {k : Int} (h0 : 0 ≤ k) (h1 : k < xs.length) : atI (xs.map f) k = some (f (xs.getD k.toNat d)) := by
  have e : k = ((k.toNat : Nat) : Int) := by omega
  rw [e]
  refine atI_nat (j := k.toNat) ?_
  rw [List.getElem?_map, List.getD_eq_getElem?_getD, show ((k.toNat : Nat) : Int).toNat = k.toNat by omega]
  have hl : k.toNat < xs.length := by omega
  rw [List.getElem?_eq_getElem hl]
  rfl
theorem getD_mem {α : Type} {xs : List α} {d : α} {n : Nat} (h : n < xs.length) : xs.getD n d ∈ xs := by
  rw [List.getD_eq_getElem?_getD, List.getElem?_eq_getElem h]
  exact List.getElem_mem h
theorem frz_at {i : Nat} {a : dS} {E : DE} {ρ : List S} {s : S} {d : D} (h : ρ[i]? = some s) (e : s.data = some d) (q : a E (ρ.set i (.v d))) : dFrz i a E ρ := by
  unfold dFrz
  rw [h]
  show (match s.data with | some d => a E (ρ.set i (.v d)) | none => False)
  rw [e]
  exact q
end Dl

set_option maxHeartbeats 2000000
namespace Dl
open PySem L2
/-! ### a method of an object that was just made -/
def dxMethN (c : Nat) (F : FT) (dds : List D) (dx : dX) (da : dPA) : dX := fun ρ Q E => dx ρ (fun z ρ1 => match z with
  | .n t => isOb c t ∧ da ρ1 fun as => callA F (Arg.n t :: as ++ dds.map Arg.d) ρ1 Q E
  | _ => False) E
section
variable {K : Kx} {A : Ax} {W : WX} {F : FT} {dvs : List V} {dds : List D} {ta : TA}
theorem sim_xmethN {te : TE} {dx : dX} {da : dPA} {c : Nat} {m : Str} {f : Addr} (hm : MonT F) (hd : ∀ B, DqAll K.f B dvs dds) (hM : Meth K.f (K.cl c) m f) (h1 : SimX K A W te dx) (h2 : SimPA K A ta da) : SimX K A W (tZmS (K.cl c) m (spT K F) dvs (WE W) te ta) (dxMethN c F dds dx da) := by
  refine ⟨fun {B H G σ ρ Qd Ed Q} P q k kx => ?_⟩
  refine h1.run P q (fun z v B1 H1 G1 ρ1 x1 p1 z1 q1 => ?_) kx
  cases z with
  | v d => exact (show False from q1).elim
  | b d => exact (show False from q1).elim
  | n s =>
    obtain ⟨io, q1⟩ := q1
    obtain ⟨cs, rfl⟩ := isOb_eq io
    obtain ⟨R0, r0, tr, o⟩ := z1
    have oc := o
    rw [Own] at oc
    obtain ⟨a, vs, N, R', rfl, na, nd, _⟩ := oc
    obtain ⟨dx, fs, e1, e2⟩ := node_nometh nd hM
    refine ⟨a, dx, fs, rfl, e1, e2, ?_⟩
    refine h2.run p1 q1 fun as vs B2 H2 R g2 ar q2 => ?_
    refine spT_call (as := .n (.ob c cs) :: as) hm hd (x1.trans (Ext.gr g2)) (p1.gr g2) (.n (R1 := R0) (fun a r => ⟨(r0 a r).1, (r0 a r).2.1, Classical.byContradiction fun z => (g2.nw a z).elim (fun q => q (r0 a r).2.2.1) (r0 a r).2.2.2, g2.h.fwd (r0 a r).2.2.2⟩) (fun a r r' => (ar.new a r').1.elim (r0 a r).2.2.2 (r0 a r).2.1) tr (o.frame g2.b fun a o _ e => g2.h a o e) (ar.back (ext_back x1))) q2 k kx
end
section
variable {X : Cx} {A : Ax} {W : WX} {k k' c : Nat} {ps : List Str} {F : FT} {dvs : List V} {dds : List D} {x m : Str} {p pos apos : Pos} {e o : Expr} {es : List Expr} {t to : TA} {te : TE}
theorem ex_methN {d : dPA} {dx : dX} {pl : Sem Bool} (h : HasM X.prog X.w (kx A X) X.mg X.base k c m ps F dvs dds) (hr : Room k' X.A) (hk : k ≤ k') (tk : Takes X W) (ho : EX X A W o te dx) (ha : PR X A (e :: es) t d)
    (hst : starEach (e :: es) X.env = (false, eval e X.env) :: starEach es X.env := by rfl) (hpl : (backTo pos (starEach es X.env)).any (·.1) = false := by rfl)
    (ht : eval (.Call (.Attribute o m apos) (e :: es) [] pos) X.env = (do
      let ov ← eval o X.env
      standAt apos.atName
      let (f, first) ← holding [ov] (getMethod ov m pl)
      callWith pos f first (backTo pos (starEach (e :: es) X.env)) (backToKw pos (keywordEach [] X.env))) := by rfl) :
    EX X A W (.Call (.Attribute o m apos) (e :: es) [] pos) (tZmS ((kx A X).cl c) m (spT (kx A X) F) dvs (WE W) te t) (dxMethN c F dds dx d) := by
  obtain ⟨f, fd, ds, G, M, b, v⟩ := h.ex
  exact ⟨pe_zmS (pl := pl) ho.pe h.cl M G (hr.mono hk) b v (passAt tk) ha.pa hst hpl ht, sim_xmethN h.mon h.dq M ho.sim ha.sim⟩
theorem ex_methN0 {dx : dX} {pl : Sem Bool} (h : HasM X.prog X.w (kx A X) X.mg X.base k c m ps F dvs dds) (hr : Room k' X.A) (hk : k ≤ k') (tk : Takes X W) (ho : EX X A W o te dx)
    (ht : eval (.Call (.Attribute o m apos) [] [] pos) X.env = (do
      let ov ← eval o X.env
      standAt apos.atName
      let (f, first) ← holding [ov] (getMethod ov m pl)
      callWith pos f first (backTo pos (starEach [] X.env)) (backToKw pos (keywordEach [] X.env))) := by rfl) :
    EX X A W (.Call (.Attribute o m apos) [] [] pos) (tZmS ((kx A X).cl c) m (spT (kx A X) F) dvs (WE W) te tNil) (dxMethN c F dds dx dpaNil) := by
  obtain ⟨f, fd, ds, G, M, b, v⟩ := h.ex
  exact ⟨pe_zmS0 (pl := pl) ho.pe h.cl M G (hr.mono hk) b v (passAt tk) ht, sim_xmethN h.mon h.dq M ho.sim simpa_nil⟩
end
end Dl

set_option maxHeartbeats 2000000
namespace Dl
open PySem L2
/-! ### slots are forgotten at a turn's end -/
theorem Rep.forget {K : Kx} {A : Ax} {B H : Hp} {G : Addr → Prop} {σ : St} {ρ : List S} {i : Nat} (p : Rep K A B H G σ ρ) (hA : NoAl ρ i) : Rep K A B H G σ (ρ.set i .no) := by
  by_cases hi : i < σ.length
  · have q := p.out hA σ[i]
    rwa [List.set_getElem_self] at q
  · have q := p.out hA none
    rwa [List.set_eq_of_length_le (by omega)] at q
theorem Rep.tidy {K : Kx} {A : Ax} {B H : Hp} {G : Addr → Prop} {σ : St} {ρ : List S} (p : Rep K A B H G σ ρ) : ∀ {vs : List Nat}, (∀ v ∈ vs, A.A v = false) → Rep K A B H G σ (wipeS ρ vs)
  | [], _ => p
  | v :: vs, h => by
    have q := Rep.tidy p (vs := vs) fun x hx => h x (List.mem_cons_of_mem _ hx)
    exact q.forget (q.noAl (h v List.mem_cons_self))
/-- behind a turn the slots js are forgotten -/
def dTidy (js : List Nat) (a : dS) : dS := fun E ρ => a { nx := fun ρ' => E.nx (wipeS ρ' js), rt := E.rt, bk := fun ρ' => E.bk (wipeS ρ' js), ct := fun ρ' => E.ct (wipeS ρ' js), ex := E.ex } ρ
theorem sim_tidy {K : Kx} {A : Ax} {W : WX} {t : TS} {a : dS} {js : List Nat} (hj : ∀ j ∈ js, A.A j = false) (h : SimS K A W t a) : SimS K A W t (dTidy js a) := by
  refine ⟨fun {B H G σ ρ D E} p q k1 k2 k3 k4 k5 => ?_⟩
  exact h.run p q (fun B' H' G' σ' ρ' x p' q' => k1 _ _ _ _ _ x (p'.tidy hj) q') k2 (fun B' H' G' σ' ρ' x p' q' => k3 _ _ _ _ _ x (p'.tidy hj) q') (fun B' H' G' σ' ρ' x p' q' => k4 _ _ _ _ _ x (p'.tidy hj) q') k5
theorem css_tidy {X : Cx} {A : Ax} {W : WX} {sts : List Stmt} {t : TS} {a : dS} {js : List Nat} (hj : ∀ j ∈ js, A.A j = false) (h : CSs X A W sts t a) : CSs X A W sts t (dTidy js a) := ⟨h.ps, sim_tidy hj h.sim⟩
theorem cs_tidy {X : Cx} {A : Ax} {W : WX} {st : Stmt} {t : TS} {a : dS} {js : List Nat} (hj : ∀ j ∈ js, A.A j = false) (h : CS X A W st t a) : CS X A W st t (dTidy js a) := ⟨h.ps, sim_tidy hj h.sim⟩

/-- only on the way that goes on -/
def dTidyN (js : List Nat) (a : dS) : dS := fun E ρ => a { nx := fun ρ' => E.nx (wipeS ρ' js), rt := E.rt, bk := E.bk, ct := E.ct, ex := E.ex } ρ
theorem sim_tidyN {K : Kx} {A : Ax} {W : WX} {t : TS} {a : dS} {js : List Nat} (hj : ∀ j ∈ js, A.A j = false) (h : SimS K A W t a) : SimS K A W t (dTidyN js a) := by
  refine ⟨fun {B H G σ ρ D E} p q k1 k2 k3 k4 k5 => ?_⟩
  exact h.run p q (fun B' H' G' σ' ρ' x p' q' => k1 _ _ _ _ _ x (p'.tidy hj) q') k2 k3 k4 k5
theorem cs_tidyN {X : Cx} {A : Ax} {W : WX} {st : Stmt} {t : TS} {a : dS} {js : List Nat} (hj : ∀ j ∈ js, A.A j = false) (h : CS X A W st t a) : CS X A W st t (dTidyN js a) := ⟨h.ps, sim_tidyN hj h.sim⟩
/-- ahead of it -/
def dPre (js : List Nat) (a : dS) : dS := fun E ρ => a E (wipeS ρ js)
theorem cs_pre {X : Cx} {A : Ax} {W : WX} {st : Stmt} {t : TS} {a : dS} {js : List Nat} (hj : ∀ j ∈ js, A.A j = false) (h : CS X A W st t a) : CS X A W st t (dPre js a) := by
  refine ⟨h.ps, ⟨fun {B H G σ ρ D E} p q k1 k2 k3 k4 k5 => ?_⟩⟩
  exact h.sim.run (p.tidy hj) q k1 k2 k3 k4 k5

def seqE (b : dS) (E : DE) : DE := { E with nx := b E }
def tidyE (js : List Nat) (E : DE) : DE := { nx := fun ρ' => E.nx (wipeS ρ' js), rt := E.rt, bk := fun ρ' => E.bk (wipeS ρ' js), ct := fun ρ' => E.ct (wipeS ρ' js), ex := E.ex }
def tidyNE (js : List Nat) (E : DE) : DE := { E with nx := fun ρ' => E.nx (wipeS ρ' js) }
def loopE (N : List S → Prop) (E : DE) : DE := { nx := N, rt := E.rt, bk := E.nx, ct := N, ex := E.ex }
section
variable {a b : dS} {E : DE} {ρ : List S} {z : Z} {x : Exn} {js : List Nat} {N : List S → Prop}
theorem dSeq_ap : dSeq a b E ρ = a (seqE b E) ρ := rfl
theorem dTidy_ap : dTidy js a E ρ = a (tidyE js E) ρ := rfl
theorem dTidyN_ap : dTidyN js a E ρ = a (tidyNE js E) ρ := rfl
theorem seqE_nx : (seqE b E).nx ρ = b E ρ := rfl
theorem seqE_rt : (seqE b E).rt z ρ = E.rt z ρ := rfl
theorem seqE_bk : (seqE b E).bk ρ = E.bk ρ := rfl
theorem seqE_ct : (seqE b E).ct ρ = E.ct ρ := rfl
theorem seqE_ex : (seqE b E).ex x ρ = E.ex x ρ := rfl
theorem tidyE_nx : (tidyE js E).nx ρ = E.nx (wipeS ρ js) := rfl
theorem tidyE_rt : (tidyE js E).rt z ρ = E.rt z ρ := rfl
theorem tidyE_bk : (tidyE js E).bk ρ = E.bk (wipeS ρ js) := rfl
theorem tidyE_ct : (tidyE js E).ct ρ = E.ct (wipeS ρ js) := rfl
theorem tidyE_ex : (tidyE js E).ex x ρ = E.ex x ρ := rfl
theorem tidyNE_nx : (tidyNE js E).nx ρ = E.nx (wipeS ρ js) := rfl
theorem tidyNE_rt : (tidyNE js E).rt z ρ = E.rt z ρ := rfl
theorem tidyNE_bk : (tidyNE js E).bk ρ = E.bk ρ := rfl
theorem tidyNE_ct : (tidyNE js E).ct ρ = E.ct ρ := rfl
theorem tidyNE_ex : (tidyNE js E).ex x ρ = E.ex x ρ := rfl
theorem loopE_nx : (loopE N E).nx ρ = N ρ := rfl
theorem loopE_rt : (loopE N E).rt z ρ = E.rt z ρ := rfl
theorem loopE_bk : (loopE N E).bk ρ = E.nx ρ := rfl
theorem loopE_ct : (loopE N E).ct ρ = N ρ := rfl
theorem loopE_ex : (loopE N E).ex x ρ = E.ex x ρ := rfl
end
/-! ### loops by their states -/
def dLoop (g : dG) (body : dS) (E : DE) (items : List D) (ρ0 : List S) : Prop := ∃ I : Nat → List S → Prop, I 0 ρ0 ∧
  (∀ i x ρ', items[i]? = some x → I i ρ' → g x ρ' fun ρ1 => body { nx := I (i + 1), rt := E.rt, bk := E.nx, ct := I (i + 1), ex := E.ex } ρ1) ∧ ∀ ρ', I items.length ρ' → E.nx ρ'
section
variable {g : dG} {body : dS} {E : DE} {items : List D} {ρ0 ρ : List S}
theorem dFor_eq {di : dXI} : dFor di g body E ρ = di ρ (fun items ρ0 => dLoop g body E items ρ0) E.ex := rfl
/-- between the turns the names are st a, with P i a -/
theorem for_inv {σ : Type} (st : σ → List S) (P : Nat → σ → Prop) (a0 : σ) (h0 : ρ0 = st a0) (p0 : P 0 a0)
    (turn : ∀ i x a, items[i]? = some x → P i a → ∀ N : List S → Prop, (∀ a', P (i + 1) a' → N (st a')) → g x (st a) fun ρ1 => body (loopE N E) ρ1)
    (done : ∀ a, P items.length a → E.nx (st a)) : dLoop g body E items ρ0 := by
  refine ⟨fun i ρ => ∃ a, ρ = st a ∧ P i a, ⟨a0, h0, p0⟩, ?_, ?_⟩
  · rintro i x ρ' hx ⟨a, rfl, p⟩
    exact turn i x a hx p _ fun a' p' => ⟨a', rfl, p'⟩
  · rintro ρ' ⟨a, rfl, p⟩
    exact done a p
/-- the same over a row of typed things -/
theorem for_map {α σ : Type} {enc : α → D} {xs : List α} (st : σ → List S) (P : Nat → σ → Prop) (a0 : σ) (h0 : ρ0 = st a0) (p0 : P 0 a0)
    (turn : ∀ i x a, xs[i]? = some x → P i a → ∀ N : List S → Prop, (∀ a', P (i + 1) a' → N (st a')) → g (enc x) (st a) fun ρ1 => body (loopE N E) ρ1)
    (done : ∀ a, P xs.length a → E.nx (st a)) : dLoop g body E (xs.map enc) ρ0 := by
  refine for_inv st P a0 h0 p0 (fun i x a hx p => ?_) (fun a p => done a (by rwa [List.length_map] at p))
  obtain ⟨y, hy, rfl⟩ := get_map hx
  exact turn i y a hy p
/-- the names are told by what was taken; how many turns are left is known -/
theorem for_pre {α : Type} {enc : α → D} {xs : List α} (st : List α → List S) (h0 : ρ0 = st [])
    (turn : ∀ pre x post, xs = pre ++ x :: post → ∀ N : List S → Prop, N (st (pre ++ [x])) → g (enc x) (st pre) fun ρ1 => body (loopE N E) ρ1)
    (done : E.nx (st xs)) : dLoop g body E (xs.map enc) ρ0 := by
  refine for_map (fun i : Nat => st (xs.take i)) (fun i a => a = i) 0 h0 rfl (fun i x a hx p N hN => ?_) (fun a p => ?_)
  · subst p
    have hi := (List.getElem?_eq_some_iff.mp hx).1
    have e : xs[a] = x := (List.getElem?_eq_some_iff.mp hx).2
    refine turn (xs.take a) x (xs.drop (a + 1)) ?_ N ?_
    · rw [← e, ← List.drop_eq_getElem_cons hi, List.take_append_drop]
    · have := hN (a + 1) rfl
      rwa [take_last hx] at this
  · subst p
    rw [List.take_length]
    exact done
theorem for_preP {α : Type} {enc : α → D} {xs : List α} (st : List α → List S) (P : List α → Prop) (h0 : ρ0 = st []) (p0 : P [])
    (turn : ∀ pre x post, xs = pre ++ x :: post → P pre → ∀ N : List S → Prop, (P (pre ++ [x]) → N (st (pre ++ [x]))) → g (enc x) (st pre) fun ρ1 => body (loopE N E) ρ1)
    (done : P xs → E.nx (st xs)) : dLoop g body E (xs.map enc) ρ0 := by
  refine for_map (fun i : Nat => st (xs.take i)) (fun i a => a = i ∧ P (xs.take i)) 0 h0 ⟨rfl, p0⟩ (fun i x a hx p N hN => ?_) (fun a p => ?_)
  · obtain ⟨rfl, p⟩ := p
    have hi := (List.getElem?_eq_some_iff.mp hx).1
    have e : xs[a] = x := (List.getElem?_eq_some_iff.mp hx).2
    refine turn (xs.take a) x (xs.drop (a + 1)) ?_ p N fun q => ?_
    · rw [← e, ← List.drop_eq_getElem_cons hi, List.take_append_drop]
    · have := hN (a + 1) ⟨rfl, by rwa [take_last hx]⟩
      rwa [take_last hx] at this
  · obtain ⟨rfl, p⟩ := p
    rw [List.take_length] at p ⊢
    exact done p
/-- over lo, lo + 1, .. -/
theorem for_up {σ : Type} {lo : Int} {n : Nat} (st : σ → List S) (P : Nat → σ → Prop) (a0 : σ) (h0 : ρ0 = st a0) (p0 : P 0 a0)
    (turn : ∀ i a, i < n → P i a → ∀ N : List S → Prop, (∀ a', P (i + 1) a' → N (st a')) → g (.int (lo + (i : Int))) (st a) fun ρ1 => body (loopE N E) ρ1)
    (done : ∀ a, P n a → E.nx (st a)) : dLoop g body E (upFrom lo n) ρ0 := by
  refine for_inv st P a0 h0 p0 (fun i x a hx p => ?_) (fun a p => done a (by rwa [upFrom_length] at p))
  obtain ⟨hi, rfl⟩ := upFrom_get hx
  exact turn i a hi p
/-- nothing that counts is changed -/
theorem for_const {α : Type} (enc : α → D) (xs : List α) (turn : ∀ x ∈ xs, ∀ N : List S → Prop, N ρ0 → g (enc x) ρ0 fun ρ1 => body (loopE N E) ρ1) (done : E.nx ρ0) : dLoop g body E (xs.map enc) ρ0 :=
  for_pre (fun _ => ρ0) rfl (fun pre x post e N hN => turn x (by rw [e]; exact List.mem_append_right _ List.mem_cons_self) N hN) done
/-- turn by turn -/
theorem for_nil (h : E.nx ρ0) : dLoop g body E [] ρ0 := for_go h
theorem for_unroll (h : forGo g body E items ρ0) : dLoop g body E items ρ0 := for_go h
end
section
variable {t : dXT} {body : dS} {E : DE} {ρ0 : List S}
theorem least {p : Nat → Prop} (h : ∃ n, p n) : ∃ n, p n ∧ ∀ m, p m → n ≤ m := by
  refine Classical.byContradiction fun z => ?_
  have : ∀ n, ¬ p n := fun n => by
    induction n using Nat.strongRecOn with
    | ind n ih => exact fun hn => z ⟨n, hn, fun m hm => Nat.le_of_not_lt fun hl => ih m hl hm⟩
  exact h.elim this
theorem while_inv {σ : Type} (st : σ → List S) (P : σ → Prop) (μ : σ → Nat) (a0 : σ) (h0 : ρ0 = st a0) (p0 : P a0)
    (turn : ∀ a, P a → ∀ N : List S → Prop, (∀ a', P a' → μ a' < μ a → N (st a')) → t (st a) (fun c ρ1 => if c = true then body (loopE N E) ρ1 else E.nx ρ1) E.ex) :
    dWhile t body E ρ0 := by
  have key : ∃ M : List S → Nat, ∀ ρ, (∃ n a, ρ = st a ∧ P a ∧ μ a = n) → (∃ a, ρ = st a ∧ P a ∧ μ a = M ρ) ∧ ∀ a, ρ = st a → P a → M ρ ≤ μ a := by
    refine ⟨fun ρ => open Classical in if h : ∃ n a, ρ = st a ∧ P a ∧ μ a = n then Classical.choose (least h) else 0, fun ρ h => ?_⟩
    have hs := Classical.choose_spec (least h)
    simp only [dif_pos h]
    exact ⟨hs.1, fun a e p => hs.2 _ ⟨a, e, p, rfl⟩⟩
  obtain ⟨M, hM⟩ := key
  refine ⟨fun ρ => ∃ a, ρ = st a ∧ P a, M, ⟨a0, h0, p0⟩, ?_⟩
  rintro ρ' ⟨a, e, p⟩
  obtain ⟨⟨a, e, p, hn⟩, _⟩ := hM ρ' ⟨_, a, e, p, rfl⟩
  rw [← hn]
  subst e
  exact turn a p _ fun a' p' hl => ⟨⟨a', rfl, p'⟩, Nat.lt_of_le_of_lt ((hM (st a') ⟨_, a', rfl, p', rfl⟩).2 a' rfl p') hl⟩
end

/-! ### for simp -/
theorem fT_nx {M : List Bool} {n : Nat} {g : Nat → V} {Q : Z → List S → Prop} {E : Exn → List S → Prop} {ρ : List S} : (fT M n g Q E).nx ρ = ((ρ.drop n = ghM g 0 M ∧ (backM M ρ).all S.noT = true) ∧ Q (.v .none) (backM M ρ)) := rfl
theorem fT_rt {M : List Bool} {n : Nat} {g : Nat → V} {Q : Z → List S → Prop} {E : Exn → List S → Prop} {z : Z} {ρ : List S} : (fT M n g Q E).rt z ρ = ((ρ.drop n = ghM g 0 M ∧ (backM M ρ).all S.noT = true) ∧ z.keep ∧ Q z (backM M ρ)) := rfl
theorem fT_ex {M : List Bool} {n : Nat} {g : Nat → V} {Q : Z → List S → Prop} {E : Exn → List S → Prop} {x : Exn} {ρ : List S} : (fT M n g Q E).ex x ρ = ((ρ.drop n = ghM g 0 M ∧ (backM M ρ).all S.noT = true) ∧ E x (backM M ρ)) := rfl
theorem fE_nx {Q : Z → Prop} {ρ : List S} : (fE Q).nx ρ = Q (.v .none) := rfl
theorem fE_rt {Q : Z → Prop} {ρ : List S} {z : Z} : (fE Q).rt z ρ = Q z.fin := rfl
theorem sf_pos0 {k : Nat} {s : S} {t : SF} : SF.pos (.cons (.int (k : Int)) s t) k = some 0 := by
  show (if (k : Int) = (k : Int) then some 0 else _) = _
  rw [if_pos rfl]
theorem sf_pos {i : Int} {k : Nat} {s : S} {t : SF} : SF.pos (.cons (.int i) s t) k = if i = (k : Int) then some 0 else (t.pos k).map (· + 1) := rfl
theorem natlit {n : Nat} : ((no_index (@OfNat.ofNat Nat n (instOfNatNat n)) : Nat) : Int) = @OfNat.ofNat Int n instOfNat := rfl
theorem atI_lit {α : Type} {n : Nat} {xs : List α} : atI xs (no_index (@OfNat.ofNat Int n instOfNat)) = xs[n]? := by
  show atI xs (n : Int) = _
  cases e : xs[n]? with
  | some v => exact atI_nat e
  | none =>
    have hl := List.getElem?_eq_none_iff.mp e
    unfold atI ixN
    rw [if_pos (by omega), if_neg (by omega)]
    rfl
theorem dIx_tup {xs : List D} {i : Int} {Q : Z → Prop} : dIx (.v (.tuple xs)) (.v (.int i)) Q = ∃ d, atI xs i = some d ∧ Q (.v d) := rfl
theorem dIx_lst {xs : List D} {i : Int} {Q : Z → Prop} : dIx (.v (.list xs)) (.v (.int i)) Q = ∃ d, atI xs i = some d ∧ Q (.v d) := rfl
/-- a row by its places, when the places are open -/
theorem nonneg_lit {n : Nat} : (0 : Int) ≤ @OfNat.ofNat Int n instOfNat := Int.natCast_nonneg n
end Dl

set_option maxHeartbeats 2000000
namespace Dl
open PySem L2
instance : DKey (Str × Str) := ⟨fun p => .tuple [.str p.1, .str p.2], fun a b h => by
  obtain ⟨a1, a2⟩ := a
  obtain ⟨b1, b2⟩ := b
  cases h
  rfl⟩
/-! ### dicts by typed rows -/
section
variable {κ β : Type} [DecidableEq κ]
def alook (xs : List (κ × β)) (k : κ) : Option β := (xs.find? fun p => decide (p.1 = k)).map (·.2)
def ahas (xs : List (κ × β)) (k : κ) : Bool := xs.any fun p => decide (p.1 = k)
def aput (xs : List (κ × β)) (k : κ) (v : β) : List (κ × β) := if ahas xs k = true then xs.map (fun p => if p.1 = k then (p.1, v) else p) else xs ++ [(k, v)]
def adrop (xs : List (κ × β)) (k : κ) : List (κ × β) := xs.filter fun p => !decide (p.1 = k)
abbrev ND (xs : List (κ × β)) : Prop := (xs.map Prod.fst).Nodup
variable {xs ys : List (κ × β)} {k k' : κ} {v w : β}
theorem alook_nil : alook ([] : List (κ × β)) k = none := rfl
theorem alook_cons {p : κ × β} : alook (p :: xs) k = if p.1 = k then some p.2 else alook xs k := by
  unfold alook
  rw [List.find?_cons]
  by_cases h : p.1 = k
  · rw [decide_eq_true h, if_pos h]; rfl
  · rw [decide_eq_false h, if_neg h]
theorem ahas_eq : ∀ {xs : List (κ × β)}, ahas xs k = (alook xs k).isSome
  | [] => rfl
  | p :: xs => by
    have ih := ahas_eq (xs := xs)
    rw [alook_cons]
    show (decide (p.1 = k) || ahas xs k) = _
    by_cases h : p.1 = k
    · rw [decide_eq_true h, if_pos h]; rfl
    · rw [decide_eq_false h, if_neg h, ih]; rfl
theorem ahas_mem : ahas xs k = true ↔ k ∈ xs.map Prod.fst := by
  unfold ahas
  rw [List.any_eq_true, List.mem_map]
  exact ⟨fun ⟨p, hp, e⟩ => ⟨p, hp, of_decide_eq_true e⟩, fun ⟨p, hp, e⟩ => ⟨p, hp, decide_eq_true e⟩⟩
theorem alook_none : alook xs k = none ↔ k ∉ xs.map Prod.fst := by
  rw [← ahas_mem, ahas_eq]
  cases alook xs k <;> simp
theorem alook_app : alook (xs ++ ys) k = (alook xs k).or (alook ys k) := by
  induction xs with
  | nil => rfl
  | cons p xs ih =>
    rw [List.cons_append, alook_cons, alook_cons, ih]
    split <;> rfl
theorem alook_mapv {f : κ × β → β} : alook (xs.map fun p => (p.1, f p)) k = (xs.find? fun p => decide (p.1 = k)).map f := by
  unfold alook
  induction xs with
  | nil => rfl
  | cons p xs ih =>
    rw [List.map_cons, List.find?_cons, List.find?_cons]
    dsimp only
    by_cases h : p.1 = k
    · rw [decide_eq_true h]; rfl
    · rw [decide_eq_false h]; exact ih
theorem aput_eq : (xs.map fun p => if p.1 = k then (p.1, v) else p) = xs.map fun p => (p.1, if p.1 = k then v else p.2) := by
  refine List.map_congr_left fun p _ => ?_
  split <;> rfl
theorem alook_aput : alook (aput xs k v) k' = if k = k' then some v else alook xs k' := by
  unfold aput
  by_cases h : ahas xs k = true
  · rw [if_pos h, aput_eq, alook_mapv]
    by_cases e : k = k'
    · subst e
      rw [if_pos rfl]
      rw [ahas_eq] at h
      unfold alook at h
      cases e2 : xs.find? fun p => decide (p.1 = k) with
      | none => rw [e2] at h; cases h
      | some p =>
        have := of_decide_eq_true (p := p.1 = k) (List.find?_some (p := fun p : κ × β => decide (p.1 = k)) e2)
        show some (if p.1 = k then v else p.2) = some v
        rw [if_pos this]
    · rw [if_neg e]
      unfold alook
      cases e2 : xs.find? fun p => decide (p.1 = k') with
      | none => rfl
      | some p =>
        have := of_decide_eq_true (p := p.1 = k') (List.find?_some (p := fun p : κ × β => decide (p.1 = k')) e2)
        show some (if p.1 = k then v else p.2) = some p.2
        rw [if_neg (fun z => e (z.symm.trans this))]
  · rw [if_neg h, alook_app, alook_cons, alook_nil]
    by_cases e : k = k'
    · subst e
      rw [if_pos rfl, if_pos rfl]
      rw [ahas_eq] at h
      cases e2 : alook xs k with
      | none => rfl
      | some _ => rw [e2] at h; exact absurd rfl h
    · rw [if_neg e, if_neg e]
      cases alook xs k' <;> rfl
theorem alook_self : alook (aput xs k v) k = some v := by rw [alook_aput, if_pos rfl]
theorem alook_filter {q : κ → Bool} : alook (xs.filter fun p => q p.1) k = if q k = true then alook xs k else none := by
  induction xs with
  | nil => show none = _; split <;> rfl
  | cons p xs ih =>
    rw [List.filter_cons]
    by_cases h : q p.1 = true
    · rw [if_pos h, alook_cons, alook_cons, ih]
      by_cases e : p.1 = k
      · subst e; rw [if_pos rfl, if_pos h, if_pos rfl]
      · rw [if_neg e, if_neg e]
    · rw [if_neg h, ih, alook_cons]
      by_cases e : p.1 = k
      · subst e; rw [if_neg h, if_neg h]
      · rw [if_neg e]
theorem alook_adrop : alook (adrop xs k) k' = if k = k' then none else alook xs k' := by
  unfold adrop
  rw [alook_filter (q := fun a => !decide (a = k))]
  by_cases e : k = k'
  · subst e; rw [if_pos rfl, if_neg (by simp)]
  · rw [if_neg e, if_pos (by simp; exact fun z => e z.symm)]
theorem aput_len : (aput xs k v).length ≤ xs.length + 1 := by
  unfold aput
  split
  · rw [List.length_map]; omega
  · rw [List.length_append]; exact Nat.le_refl _
theorem aput_keys : (aput xs k v).map Prod.fst = if ahas xs k = true then xs.map Prod.fst else xs.map Prod.fst ++ [k] := by
  unfold aput
  split
  · rw [aput_eq, List.map_map]; rfl
  · rw [List.map_append]; rfl
theorem aput_nd (h : ND xs) : ND (aput xs k v) := by
  unfold ND
  rw [aput_keys]
  split
  · exact h
  · rename_i c
    rw [ahas_mem] at c
    refine List.nodup_append.mpr ⟨h, by simp, fun a ha b hb => ?_⟩
    rw [List.mem_singleton.mp hb]
    exact fun z => c (z ▸ ha)
theorem afilter_nd {q : κ × β → Bool} (h : ND xs) : ND (xs.filter q) := List.Nodup.sublist (List.filter_sublist.map _) h
theorem adrop_nd (h : ND xs) : ND (adrop xs k) := afilter_nd h
theorem adrop_none (h : alook xs k = none) : adrop xs k = xs := by
  unfold adrop
  rw [List.filter_eq_self]
  intro p hp
  have := alook_none.mp h
  simp only [Bool.not_eq_true', decide_eq_false_iff_not]
  exact fun z => this (List.mem_map.mpr ⟨p, hp, z⟩)
theorem adrop_len : (adrop xs k).length ≤ xs.length := List.length_filter_le _ _
theorem alook_some (h : alook xs k = some v) : (k, v) ∈ xs := by
  unfold alook at h
  cases e : xs.find? fun p => decide (p.1 = k) with
  | none => rw [e] at h; cases h
  | some p =>
    rw [e] at h
    have h1 := of_decide_eq_true (p := p.1 = k) (List.find?_some (p := fun p : κ × β => decide (p.1 = k)) e)
    have h2 := List.mem_of_find?_eq_some e
    cases h
    subst h1
    exact h2
theorem alook_of (nd : ND xs) (h : (k, v) ∈ xs) : alook xs k = some v := by
  induction xs with
  | nil => cases h
  | cons p xs ih =>
    rw [alook_cons]
    have nd' := List.nodup_cons.mp nd
    rcases List.mem_cons.mp h with e | h
    · subst e; rw [if_pos rfl]
    · rw [if_neg, ih nd'.2 h]
      intro z
      exact nd'.1 (z ▸ List.mem_map.mpr ⟨_, h, rfl⟩)
theorem aput_mem (nd : ND xs) {p : κ × β} : p ∈ aput xs k v ↔ p = (k, v) ∨ (p ∈ xs ∧ p.1 ≠ k) := by
  obtain ⟨a, b⟩ := p
  constructor
  · intro h
    have := alook_of (aput_nd nd) h
    rw [alook_aput] at this
    by_cases e : k = a
    · subst e; rw [if_pos rfl] at this; cases this; exact .inl rfl
    · rw [if_neg e] at this; exact .inr ⟨alook_some this, fun z => e z.symm⟩
  · intro h
    refine alook_some ?_
    rw [alook_aput]
    rcases h with h | ⟨h, n⟩
    · cases h; rw [if_pos rfl]
    · rw [if_neg (fun z => n z.symm)]; exact alook_of nd h
theorem adrop_mem {p : κ × β} : p ∈ adrop xs k ↔ p ∈ xs ∧ p.1 ≠ k := by
  unfold adrop
  rw [List.mem_filter]
  simp
end
section
variable {κ β : Type} [DecidableEq κ] [DKey κ]
/-- a dict's rows as data -/
def eD (g : β → D) (p : κ × β) : D × D := (DKey.ck p.1, g p.2)
variable {g : β → D} {k : κ} {v : β} {xs : List (κ × β)}
theorem eD_enc : (eD g : κ × β → D × D) = encK Prod.fst (fun p => g p.2) := rfl
theorem alook_lookR : (lookR Prod.fst xs k).map (fun p => g p.2) = (alook xs k).map g := by
  unfold lookR alook
  rw [Option.map_map]
  rfl
theorem lookD_eD : lookD (xs.map (eD g)) (DKey.ck k) = (alook xs k).map g := by
  rw [eD_enc, lookD_enc, alook_lookR]
theorem putD_eD : putD (xs.map (eD g)) (DKey.ck k) (g v) = (aput xs k v).map (eD g) := by
  have h := putD_enc (f := Prod.fst) (g := fun p : κ × β => g p.2) (y := (k, v)) (xs := xs)
  rw [eD_enc, h]
  congr 1
  unfold putR aput ahas
  by_cases c : (xs.any fun p => decide (p.1 = k)) = true
  · rw [if_pos c, if_pos c]
    refine List.map_congr_left fun p _ => ?_
    by_cases e : p.1 = k
    · rw [if_pos e, if_pos e, e]
    · rw [if_neg e, if_neg e]
  · rw [if_neg c, if_neg c]
theorem dropD_eD : dropD (xs.map (eD g)) (DKey.ck k) = (adrop xs k).map (eD g) := by
  rw [eD_enc, dropD_enc]
  rfl
theorem eD_keys : (xs.map (eD g)).map (·.1) = xs.map fun p => DKey.ck p.1 := by rw [List.map_map]; rfl
theorem eD_vals : (xs.map (eD g)).map (·.2) = xs.map fun p => g p.2 := by rw [List.map_map]; rfl
theorem eD_items : ((xs.map (eD g)).map fun kv => PyData.tuple [kv.1, kv.2]) = xs.map fun p => .tuple [DKey.ck p.1, g p.2] := by rw [List.map_map]; rfl
end
section
variable {β : Type} {g : β → D} {v : β} {d : D}
theorem lookS {xs : List (Str × β)} {k : Str} : lookD (xs.map (eD g)) (.str k) = (alook xs k).map g := lookD_eD (k := k)
theorem lookI {xs : List (Int × β)} {k : Int} : lookD (xs.map (eD g)) (.int k) = (alook xs k).map g := lookD_eD (k := k)
theorem lookP {xs : List ((Str × Str) × β)} {a b : Str} : lookD (xs.map (eD g)) (.tuple [.str a, .str b]) = (alook xs (a, b)).map g := lookD_eD (k := (a, b))
theorem dropS {xs : List (Str × β)} {k : Str} : dropD (xs.map (eD g)) (.str k) = (adrop xs k).map (eD g) := dropD_eD (k := k)
theorem dropI {xs : List (Int × β)} {k : Int} : dropD (xs.map (eD g)) (.int k) = (adrop xs k).map (eD g) := dropD_eD (k := k)
theorem dropP {xs : List ((Str × Str) × β)} {a b : Str} : dropD (xs.map (eD g)) (.tuple [.str a, .str b]) = (adrop xs (a, b)).map (eD g) := dropD_eD (k := (a, b))
theorem putS (v : β) {xs : List (Str × β)} {k : Str} (e : g v = d := by rfl) : putD (xs.map (eD g)) (.str k) d = (aput xs k v).map (eD g) := by subst e; exact putD_eD (k := k)
theorem putI (v : β) {xs : List (Int × β)} {k : Int} (e : g v = d := by rfl) : putD (xs.map (eD g)) (.int k) d = (aput xs k v).map (eD g) := by subst e; exact putD_eD (k := k)
theorem putPr (v : β) {xs : List ((Str × Str) × β)} {a b : Str} (e : g v = d := by rfl) : putD (xs.map (eD g)) (.tuple [.str a, .str b]) d = (aput xs (a, b) v).map (eD g) := by subst e; exact putD_eD (k := (a, b))
theorem putS_id {xs : List (Str × D)} {k : Str} : putD (xs.map (eD id)) (.str k) d = (aput xs k d).map (eD id) := putS d
theorem putI_id {xs : List (Int × D)} {k : Int} : putD (xs.map (eD id)) (.int k) d = (aput xs k d).map (eD id) := putI d
theorem putP_id {xs : List ((Str × Str) × D)} {a b : Str} : putD (xs.map (eD id)) (.tuple [.str a, .str b]) d = (aput xs (a, b) d).map (eD id) := putPr d
end
theorem szm {α β : Type} {f : α → β} {xs : List α} (h : xs.length < 100000) : (xs.map f).length < sizeLine := by rw [List.length_map]; exact szLt h
theorem szml {α β : Type} {f : α → β} {xs : List α} (h : xs.length ≤ 100000) : (xs.map f).length ≤ sizeLine := by rw [List.length_map]; exact szOk h
end Dl

set_option maxHeartbeats 2000000
namespace Dl
open PySem L2
theorem eqD_int {i j : Int} {Q : Bool → Prop} : eqD (.int i) (.int j) Q = Q (decide (i = j)) := rfl
theorem eqD_str {i j : Str} {Q : Bool → Prop} : eqD (.str i) (.str j) Q = Q (decide (i = j)) := rfl
theorem eqD_bool {i j : Bool} {Q : Bool → Prop} : eqD (.bool i) (.bool j) Q = Q (decide (i = j)) := rfl
/-! ### nice, for simp -/
theorem nices_iff {n : Nat} : ∀ {xs : List D}, (PyData.canLayAll0 xs = true ∧ PyData.depthAll xs ≤ n) ↔ ∀ x ∈ xs, nice n x
  | [] => by simp [PyData.canLayAll0, PyData.depthAll]
  | x :: xs => by
    rw [PyData.canLayAll0, PyData.depthAll, Bool.and_eq_true, List.forall_mem_cons, ← nices_iff (xs := xs)]
    unfold nice
    constructor
    · rintro ⟨⟨a, b⟩, c⟩
      exact ⟨⟨a, by omega⟩, b, by omega⟩
    · rintro ⟨⟨a, b⟩, c, d⟩
      exact ⟨⟨a, c⟩, by omega⟩
theorem nice_tuple_iff {n : Nat} {xs : List D} : nice (n + 1) (.tuple xs) ↔ ∀ x ∈ xs, nice n x := by
  rw [← nices_iff]
  unfold nice
  rw [PyData.canLay0, PyData.depth]
  constructor <;> rintro ⟨a, b⟩ <;> exact ⟨a, by omega⟩
theorem nice_list_iff {n : Nat} {xs : List D} : nice (n + 1) (.list xs) ↔ ∀ x ∈ xs, nice n x := by
  rw [← nices_iff]
  unfold nice
  rw [PyData.canLay0, PyData.depth]
  constructor <;> rintro ⟨a, b⟩ <;> exact ⟨a, by omega⟩
theorem nice_int_iff {n : Nat} {i : Int} : nice n (.int i) ↔ True := iff_of_true nice_int True.intro
theorem nice_bool_iff {n : Nat} {b : Bool} : nice n (.bool b) ↔ True := iff_of_true nice_bool True.intro
theorem nice_none_iff {n : Nat} : nice n .none ↔ True := iff_of_true nice_none True.intro
theorem nice_str_iff {n : Nat} {x : Str} : nice n (.str x) ↔ PyData.strOk x = true := ⟨fun h => by have := h.1; rwa [PyData.canLay0] at this, fun h => nice_str h⟩
theorem mem_nil_iff' {α : Type} {P : α → Prop} : (∀ x ∈ ([] : List α), P x) ↔ True := iff_of_true (fun _ h => nomatch h) True.intro
/-! ### x in rows of alike things -/
theorem inV_ints {i : Int} {xs : List Int} : inV (.int i) ((xs.map PyData.int).map vOf) = decide (i ∈ xs) := by
  unfold inV
  rw [List.any_map, List.any_map]
  induction xs with
  | nil => simp
  | cons x xs ih =>
    rw [List.any_cons, ih]
    simp [Function.comp, vOf, eqV, List.mem_cons]
    by_cases h : i = x
    · subst h; simp
    · simp [h, Ne.symm h]
theorem flat_ints {xs : List Int} : (xs.map PyData.int).all flatD = true := by simp [List.all_eq_true, flatD]
theorem inV_strs {i : Str} {xs : List Str} : inV (.str i) ((xs.map PyData.str).map vOf) = decide (i ∈ xs) := by
  unfold inV
  rw [List.any_map, List.any_map]
  induction xs with
  | nil => simp
  | cons x xs ih =>
    rw [List.any_cons, ih]
    simp [Function.comp, vOf, eqV, List.mem_cons]
    by_cases h : i = x
    · subst h; simp
    · simp [h, Ne.symm h]
theorem flat_strs {xs : List Str} : (xs.map PyData.str).all flatD = true := by simp [List.all_eq_true, flatD]
theorem inV_int1 {i j : Int} {xs : List V} : inV (.int i) (.int j :: xs) = (decide (i = j) || inV (.int i) xs) := by
  unfold inV
  rw [List.any_cons]
  congr 1
  by_cases h : i = j
  · subst h; simp [eqV]
  · simp [eqV, h, Ne.symm h]
theorem inV_str1 {i j : Str} {xs : List V} : inV (.str i) (.str j :: xs) = (decide (i = j) || inV (.str i) xs) := by
  unfold inV
  rw [List.any_cons]
  congr 1
  by_cases h : i = j
  · subst h; simp [eqV]
  · simp [eqV, h, Ne.symm h]
theorem inV_nil {v : V} : inV v [] = false := rfl
/-- told apart from the empty row -/
theorem eqv_emptyL {xs : List D} : PyData.eqv (.list xs) (.list []) = xs.isEmpty := by cases xs <;> simp [PyData.eqv, PyData.eqvAll]
theorem eqD_emptyL {n : Nat} {xs : List D} {Q : Bool → Prop} (h : nice n (.list xs)) (l : n ≤ 64 := by decide) : eqD (.list xs) (.list []) Q = Q xs.isEmpty := by
  show (SeqAt.shaped (.list xs) = true ∧ SeqAt.shaped (.list []) = true ∧ Q (PyData.eqv (.list xs) (.list []))) = _
  rw [shaped_of h l, shaped_of (n := 1) (nice_list nice_nil), eqv_emptyL]
  simp
theorem str_lit {a b : String} : (Str.ofString a = Str.ofString b) = (a = b) := by
  refine propext ⟨fun h => ?_, fun h => by rw [h]⟩
  rw [Str.ofString_eq_toList, Str.ofString_eq_toList] at h
  have h2 : (a.toList.map Char.toNat) = b.toList.map Char.toNat := by
    have := congrArg (fun z : Str => z.cps.toList) h
    simpa using this
  have h3 : a.toList = b.toList := (List.map_inj_right (fun x y e => Char.ext (UInt32.toNat_inj.mp e))).mp h2
  exact String.toList_inj.mp h3
theorem sz_0 : (0 ≤ sizeLine) = True := propext (iff_of_true sk True.intro)
theorem sz_1 : (1 ≤ sizeLine) = True := propext (iff_of_true sk True.intro)
theorem sz_2 : (2 ≤ sizeLine) = True := propext (iff_of_true sk True.intro)
theorem sz_3 : (3 ≤ sizeLine) = True := propext (iff_of_true sk True.intro)
theorem sz_4 : (4 ≤ sizeLine) = True := propext (iff_of_true sk True.intro)
theorem sz_5 : (5 ≤ sizeLine) = True := propext (iff_of_true sk True.intro)
theorem sz_6 : (6 ≤ sizeLine) = True := propext (iff_of_true sk True.intro)
theorem sz_7 : (7 ≤ sizeLine) = True := propext (iff_of_true sk True.intro)
theorem sz_8 : (8 ≤ sizeLine) = True := propext (iff_of_true sk True.intro)
theorem sz_9 : (9 ≤ sizeLine) = True := propext (iff_of_true sk True.intro)
theorem sz_10 : (10 ≤ sizeLine) = True := propext (iff_of_true sk True.intro)
theorem sz_11 : (11 ≤ sizeLine) = True := propext (iff_of_true sk True.intro)
theorem sz_12 : (12 ≤ sizeLine) = True := propext (iff_of_true sk True.intro)
theorem sz_13 : (13 ≤ sizeLine) = True := propext (iff_of_true sk True.intro)
theorem sz_14 : (14 ≤ sizeLine) = True := propext (iff_of_true sk True.intro)
theorem sz_15 : (15 ≤ sizeLine) = True := propext (iff_of_true sk True.intro)
theorem sz_16 : (16 ≤ sizeLine) = True := propext (iff_of_true sk True.intro)
theorem sz_17 : (17 ≤ sizeLine) = True := propext (iff_of_true sk True.intro)
theorem sz_18 : (18 ≤ sizeLine) = True := propext (iff_of_true sk True.intro)
theorem sz_19 : (19 ≤ sizeLine) = True := propext (iff_of_true sk True.intro)
theorem sz_20 : (20 ≤ sizeLine) = True := propext (iff_of_true sk True.intro)
theorem sz_21 : (21 ≤ sizeLine) = True := propext (iff_of_true sk True.intro)
theorem sz_22 : (22 ≤ sizeLine) = True := propext (iff_of_true sk True.intro)
theorem sz_23 : (23 ≤ sizeLine) = True := propext (iff_of_true sk True.intro)
theorem sz_24 : (24 ≤ sizeLine) = True := propext (iff_of_true sk True.intro)
theorem exSome {α : Type} {o : Option α} {P : α → Prop} : (∃ d, o = some d ∧ P d) = (match o with | some d => P d | none => False) := by
  refine propext ?_
  cases o with
  | none => exact ⟨fun ⟨_, h, _⟩ => (nomatch h), fun h => False.elim h⟩
  | some d => exact ⟨fun ⟨_, h, p⟩ => by cases h; exact p, fun p => ⟨d, rfl, p⟩⟩
end Dl

set_option maxHeartbeats 2000000
namespace Dl
open PySem L2
/-! ### what simp leaves alone: what is wanted behind a call, a loop, a comprehension -/
/-- its being there holds simp off a -/
structure Seal {α : Sort _} (a : α) : Type where mk ::
def sl {α : Sort _} (a : α) : Seal a := ⟨⟩
def callS (F : FT) (as : List Dl.Arg) (ρ : List S) (Q : Z → List S → Prop) (E : Exn → List S → Prop) (_ : Seal Q) (_ : Seal E) : Prop := callA F as ρ Q E
theorem callA_eq {F : FT} {as : List Dl.Arg} {ρ : List S} {Q : Z → List S → Prop} {E : Exn → List S → Prop} : callA F as ρ Q E = callS F as ρ Q E (sl Q) (sl E) := rfl
def callF (f : FD) (ds : List D) (Q : Z → Prop) (_ : Seal Q) : Prop := f ds Q
theorem dCallF_eq {f : FD} {dds : List D} {dc : dC} {ρ : List S} {Q : Z → Prop} : dCallF f dds dc ρ Q = dc ρ fun ds => callF f (ds ++ dds) Q (sl Q) := rfl
theorem dCallK_eq {f : FD} {n m : Nat} {dc dk : dC} {ρ : List S} {Q : Z → Prop} : dCallK f n m dc dk ρ Q = dc ρ fun ds => dk ρ fun es => ds.length = n ∧ es.length = m ∧ callF f (ds ++ es) Q (sl Q) := rfl
def makeS (c : Nat) (F : FT) (as : List Dl.Arg) (ρ : List S) (Q : Z → List S → Prop) (E : Exn → List S → Prop) (_ : Seal Q) (_ : Seal E) : Prop := lendOk as ρ ∧ F (.ob c .nil :: lendT as ρ) (fun z ts => z = .v .none ∧ match ts with
    | t :: ts' => t.tru = true ∧ Q (.n t) (backR as ts' (lendR as ρ))
    | [] => False) (fun x ts => E x (backR as ts.tail (lendR as ρ)))
theorem dxMake_eq {c : Nat} {F : FT} {dds : List D} {da : dXA} {ρ : List S} {Q : Z → List S → Prop} {E : Exn → List S → Prop} : dxMake c F dds da ρ Q E = da ρ (fun as ρ1 => makeS c F (as ++ dds.map Dl.Arg.d) ρ1 Q E (sl Q) (sl E)) E := rfl
def loopS (g : dG) (body : dS) (E : DE) (items : List D) (ρ0 : List S) (_ : Seal (g, body, E)) : Prop := dLoop g body E items ρ0
theorem dForS_eq {di : dXI} {g : dG} {body : dS} {E : DE} {ρ : List S} : dFor di g body E ρ = di ρ (fun items ρ0 => loopS g body E items ρ0 (sl _)) E.ex := rfl
def whileS (t : dXT) (body : dS) (E : DE) (ρ0 : List S) (_ : Seal (t, body, E)) : Prop := dWhile t body E ρ0
theorem dWhileS_eq {t : dXT} {body : dS} {E : DE} {ρ : List S} : dWhile t body E ρ = whileS t body E ρ (sl _) := rfl
def lcS (g : dG) (t : dT) (e : dE) (ρ : List S) (Q : Z → Prop) (xs : List D) (_ : Seal (g, t, e, Q)) : Prop := lcGo g t e ρ Q xs []
theorem dLc_eq {di : dI_} {g : dG} {t : dT} {e : dE} {vs : List Nat} {ρ : List S} {Q : Z → Prop} : dLc di g t e vs ρ Q = di ρ fun items => lcS g t e (wipeS ρ vs) Q items (sl _) := rfl
theorem callS_of {F : FT} {as : List Dl.Arg} {ρ : List S} {Q : Z → List S → Prop} {E : Exn → List S → Prop} {s1 : Seal Q} {s2 : Seal E} (h0 : lendOk as ρ) (h : F (lendT as ρ) (fun z ts => Q z (backR as ts (lendR as ρ))) (fun x ts => E x (backR as ts (lendR as ρ)))) : callS F as ρ Q E s1 s2 := ⟨h0, h⟩
theorem makeS_of {c : Nat} {F : FT} {as : List Dl.Arg} {ρ : List S} {Q : Z → List S → Prop} {E : Exn → List S → Prop} {s1 : Seal Q} {s2 : Seal E} (h0 : lendOk as ρ) (h : F (.ob c .nil :: lendT as ρ) (fun z ts => z = .v .none ∧ match ts with
    | t :: ts' => t.tru = true ∧ Q (.n t) (backR as ts' (lendR as ρ))
    | [] => False) (fun x ts => E x (backR as ts.tail (lendR as ρ)))) : makeS c F as ρ Q E s1 s2 := ⟨h0, h⟩
theorem callF_of {f : FD} {ds : List D} {Q : Z → Prop} {s : Seal Q} (h : f ds Q) : callF f ds Q s := h
theorem lc_filterS {α : Type} {dg : dG} {dt : dT} {de : dE} {ρ : List S} {Q : Z → Prop} {s : Seal (dg, dt, de, Q)} (enc : α → D) (p : α → Bool) (f : α → D) {xs : List α} (hl : xs.length < 100000)
    (h1 : ∀ x ∈ xs, ∀ (R0 : Prop) (R1 : D → Prop), (p x = false → R0) → (p x = true → R1 (f x)) → dg (enc x) ρ fun ρ1 => dt ρ1 fun b => if b = true then de ρ1 fun z => match z.own with
      | some d => R1 d
      | none => False
    else R0) (h : Q (.n (.l ((xs.filter p).map f)))) : lcS dg dt de ρ Q (xs.map enc) s := lc_filter enc p f (szLt hl) h1 h
theorem lc_eachS {α : Type} {dg : dG} {de : dE} {ρ : List S} {Q : Z → Prop} {s : Seal (dg, dYes, de, Q)} (enc : α → D) (f : α → D) {xs : List α} (hl : xs.length < 100000)
    (h1 : ∀ x ∈ xs, ∀ (R1 : D → Prop), R1 (f x) → dg (enc x) ρ fun ρ1 => de ρ1 fun z => match z.own with
      | some d => R1 d
      | none => False) (h : Q (.n (.l (xs.map f)))) : lcS dg dYes de ρ Q (xs.map enc) s := lc_each enc f (szLt hl) h1 h
theorem lc_litS {dg : dG} {dt : dT} {de : dE} {ρ : List S} {Q : Z → Prop} {xs : List D} {s : Seal (dg, dt, de, Q)} (h : lcGo dg dt de ρ Q xs []) : lcS dg dt de ρ Q xs s := h
theorem loopS_of {g : dG} {body : dS} {E : DE} {items : List D} {ρ0 : List S} {s : Seal (g, body, E)} (h : dLoop g body E items ρ0) : loopS g body E items ρ0 s := h
theorem whileS_of {t : dXT} {body : dS} {E : DE} {ρ0 : List S} {s : Seal (t, body, E)} (h : dWhile t body E ρ0) : whileS t body E ρ0 s := h
/-! ### readings by cases, their ends told last -/
section
variable {Q : Z → Prop} {R : List S → Prop} {ρ : List S} {n : Nat} {d e : D} {f : D → (Z → Prop) → Prop} {f2 : D → D → (Z → Prop) → Prop} {fz : Z → (Z → Prop) → Prop} {zs : List Z} {g : dG} {gs : dGs} {ds : List D} {s : S}
theorem dL1_ap : dL1 f zs Q = (match zs with | [z] => (match z.data with | some d => f d Q | none => False) | _ => False) := rfl
theorem dL2_ap : dL2 f2 zs Q = (match zs with | [y, z] => (match y.data, z.data with | some d, some e => f2 d e Q | _, _ => False) | _ => False) := rfl
theorem dL1Z_ap : dL1Z fz zs Q = (match zs with | [z] => fz z Q | _ => False) := rfl
theorem fLen_ap : fLen d Q = (match d with | .str y => y.length ≤ sizeLine ∧ Q (.v (.int y.length)) | .list xs => Q (.v (.int xs.length)) | .dict [(.none, .list xs)] => Q (.v (.int xs.length)) | .tuple xs => Q (.v (.int xs.length)) | _ => False) := by unfold fLen; split <;> simp
theorem fAbs_ap : fAbs d Q = (match d with | .int i => Q (.v (.int (if i < 0 then -i else i))) | _ => False) := by unfold fAbs; split <;> simp
theorem fInt_ap : fInt d Q = (match d with | .int i => Q (.v (.int i)) | .bool b => Q (.v (.int (if b then 1 else 0))) | _ => False) := by unfold fInt; split <;> simp
theorem fStr_ap : fStr d Q = (match d with | .int i => i.natAbs.log2 < 1920 ∧ Q (.v (.str (toString i))) | _ => False) := by unfold fStr; split <;> simp
theorem fMax_ap : fMax d e Q = (match d, e with | .int i, .int j => Q (.v (.int (if j > i then j else i))) | _, _ => False) := by unfold fMax; split <;> simp
theorem fMin_ap : fMin d e Q = (match d, e with | .int i, .int j => Q (.v (.int (if j < i then j else i))) | _, _ => False) := by unfold fMin; split <;> simp
theorem fList_ap : fList d Q = (match d with | .list xs => Q (.n (.l xs)) | .dict [(.none, .list xs)] => Q (.n (.l xs)) | .tuple xs => Q (.n (.l xs)) | _ => False) := by unfold fList; split <;> simp
theorem fTup_ap : fTup d Q = (match d with | .list xs => Q (.v (.tuple xs)) | .dict [(.none, .list xs)] => Q (.v (.tuple xs)) | .tuple xs => Q (.v (.tuple xs)) | _ => False) := by unfold fTup; split <;> simp
theorem fSum_ap : fSum d Q = (match d with | .list xs => ∃ ns : List Int, xs = ns.map PyData.int ∧ Q (.v (.int ns.sum)) | _ => False) := by unfold fSum; split <;> simp
theorem fAny_ap : fAny d Q = (match d with | .list xs => ∃ bs : List Bool, xs = bs.map PyData.bool ∧ Q (.v (.bool (bs.any id))) | _ => False) := by unfold fAny; split <;> simp
theorem fAll_ap : fAll d Q = (match d with | .list xs => ∃ bs : List Bool, xs = bs.map PyData.bool ∧ Q (.v (.bool (bs.all id))) | _ => False) := by unfold fAll; split <;> simp
theorem fSort_ap : fSort d Q = (match d with | .list xs => SortOk xs ∧ Q (.n (.l (sortD xs))) | _ => False) := by unfold fSort; split <;> simp
theorem dgCons_ap : dgCons g gs ds ρ R = (match ds with | d :: r => g d ρ fun ρ' => gs r ρ' R | [] => False) := rfl
theorem dgTup_ap : dgTup n gs d ρ R = (match d with | .tuple ds => ds.length = n ∧ gs ds ρ R | .list ds => ds.length = n ∧ gs ds ρ R | _ => False) := rfl
theorem rdS_ap : rdS s Q = (match s with | .v d => Q (.v d) | .no => False | .al _ _ => False | .gh _ _ _ => False | s => Q (.b s)) := rfl
end
/-- a loop turn by turn -/
theorem forGo_nil {g : dG} {body : dS} {E : DE} {ρ : List S} : forGo g body E [] ρ = E.nx ρ := rfl
def goE (g : dG) (body : dS) (E : DE) (xs : List D) : DE := { nx := forGo g body E xs, rt := E.rt, bk := E.nx, ct := forGo g body E xs, ex := E.ex }
section
variable {g : dG} {body : dS} {E : DE} {xs : List D} {x : D} {ρ : List S} {z : Z} {u : Exn}
theorem forGo_cons : forGo g body E (x :: xs) ρ = g x ρ fun ρ1 => body (goE g body E xs) ρ1 := rfl
theorem goE_nx : (goE g body E xs).nx ρ = forGo g body E xs ρ := rfl
theorem goE_ct : (goE g body E xs).ct ρ = forGo g body E xs ρ := rfl
theorem goE_bk : (goE g body E xs).bk ρ = E.nx ρ := rfl
theorem goE_rt : (goE g body E xs).rt z ρ = E.rt z ρ := rfl
theorem goE_ex : (goE g body E xs).ex u ρ = E.ex u ρ := rfl
end
end Dl

set_option maxHeartbeats 2000000
namespace Dl
open PySem L2
/-! ### texts -/
theorem ok_str (s : String) : PyData.strOk (Str.ofString s) = true := by
  rw [Str.ofString_eq_toList]
  show (((s.toList.map Char.toNat).toArray).all (· < 0x110000)) = true
  rw [Array.all_eq_true']
  intro x hx
  obtain ⟨c, _, rfl⟩ := List.mem_map.mp (List.mem_toArray.mp hx)
  refine decide_eq_true ?_
  have := c.valid
  rcases this with h | h
  · show c.val.toNat < _
    have : c.val.toNat < 0xd800 := h
    omega
  · show c.val.toNat < _
    have : c.val.toNat < 0x110000 := h.2
    exact this
theorem ok_app {a b : Str} : PyData.strOk (a ++ b) = (PyData.strOk a && PyData.strOk b) := by
  show ((a.cps ++ b.cps).all (· < 0x110000)) = _
  rw [Array.all_append]
  rfl
theorem len_app {a b : Str} : (a ++ b : Str).length = a.length + b.length := by
  show (a.cps ++ b.cps).size = _
  rw [Array.size_append]
  rfl
theorem len_num {v : Int} (h0 : 0 ≤ v) (h : v < 1000000000) : (Str.ofString (toString v)).length ≤ 9 := PyProof.Rows.toString_length_le h0 (by decide) (by exact h)
theorem log_num {v : Int} (h : v.natAbs < 18446744073709551616) : v.natAbs.log2 < 1920 := by
  by_cases h0 : v.natAbs = 0
  · rw [h0]; decide
  · exact (Nat.log2_lt h0).mpr (Nat.lt_of_lt_of_le (show v.natAbs < 2 ^ 64 from h) (Nat.pow_le_pow_right (by decide) (by decide)))
theorem len_str (s : String) : (Str.ofString s).length = s.length := by
  rw [Str.ofString_eq_toList]
  show ((s.toList.map Char.toNat).toArray).size = _
  rw [List.size_toArray, List.length_map]
  rfl
end Dl

set_option maxHeartbeats 4000000
namespace My
open PySem L2 Dl
def topS (i : Nat) : Stmt := PySem.Challenge.pw_majordomo_k77_what_a_worker_should_do.main.body.getD i (.Pass ⟨0, 0, 0, 0⟩)
abbrev cnm : List Str := ["Runs"]
abbrev fnm : List Str := ["rows"]
abbrev kw (K : PySem.W.Frag) (mg : Str → Option Value) : Kx := ⟨K, fun n => clOf mg (cnm.getD n ""), fun n => fnm.getD n ""⟩
theorem fn_nd : fnm.Nodup ∧ ("" : Str) ∉ fnm := by decide +kernel
theorem hk_0 : fnm.getD 0 "" ≠ "" ∧ ∀ j, fnm.getD j "" = fnm.getD 0 "" → j = 0 := getD_inj fn_nd.1 fn_nd.2 (by decide)
abbrev s_Runs___init__ : Stmt := inClass (topS 2) 0
abbrev n_Runs___init__ : List Str := ["self"]
abbrev p_Runs___init__ : List Str := ["self"]
abbrev m_Runs___init__ : List Bool := [true]
abbrev ax_Runs___init__ : Ax := ⟨1, fun i => ([true] : List Bool).getD i false, cnm, fnm⟩
theorem sc_Runs___init__ : FnScope n_Runs___init__ p_Runs___init__ (defScope s_Runs___init__) := ⟨rfl, rfl, rfl, by decide +kernel, rfl, by decide +kernel, by decide +kernel⟩
abbrev dd_Runs___init__ : List D := []
abbrev s_Runs_begin : Stmt := inClass (topS 2) 1
abbrev n_Runs_begin : List Str := ["self", "slot", "born"]
abbrev p_Runs_begin : List Str := ["self", "slot", "born"]
abbrev m_Runs_begin : List Bool := [true, false, false]
abbrev ax_Runs_begin : Ax := ⟨3, fun i => ([true, false, false] : List Bool).getD i false, cnm, fnm⟩
theorem sc_Runs_begin : FnScope n_Runs_begin p_Runs_begin (defScope s_Runs_begin) := ⟨rfl, rfl, rfl, by decide +kernel, rfl, by decide +kernel, by decide +kernel⟩
abbrev dd_Runs_begin : List D := []
abbrev s_Runs_born_of : Stmt := inClass (topS 2) 4
abbrev n_Runs_born_of : List Str := ["self", "slot"]
abbrev p_Runs_born_of : List Str := ["self", "slot"]
abbrev m_Runs_born_of : List Bool := [true, false]
abbrev ax_Runs_born_of : Ax := ⟨2, fun i => ([true, false] : List Bool).getD i false, cnm, fnm⟩
theorem sc_Runs_born_of : FnScope n_Runs_born_of p_Runs_born_of (defScope s_Runs_born_of) := ⟨rfl, rfl, rfl, by decide +kernel, rfl, by decide +kernel, by decide +kernel⟩
abbrev dd_Runs_born_of : List D := []
abbrev s_Runs_slots : Stmt := inClass (topS 2) 5
abbrev n_Runs_slots : List Str := ["self"]
abbrev p_Runs_slots : List Str := ["self"]
abbrev m_Runs_slots : List Bool := [true]
abbrev ax_Runs_slots : Ax := ⟨1, fun i => ([true] : List Bool).getD i false, cnm, fnm⟩
theorem sc_Runs_slots : FnScope n_Runs_slots p_Runs_slots (defScope s_Runs_slots) := ⟨rfl, rfl, rfl, by decide +kernel, rfl, by decide +kernel, by decide +kernel⟩
abbrev dd_Runs_slots : List D := []
abbrev s_tasks_of : Stmt := topS 3
abbrev n_tasks_of : List Str := ["entries", "node", "life", "rows", "kind", "name", "born", "rev", "value"]
abbrev p_tasks_of : List Str := ["entries", "node", "life"]
abbrev m_tasks_of : List Bool := [false, false, false]
abbrev ax_tasks_of : Ax := ⟨9, fun i => ([false, false, false, false, false, false, false, false, false] : List Bool).getD i false, cnm, fnm⟩
theorem sc_tasks_of : FnScope n_tasks_of p_tasks_of (defScope s_tasks_of) := ⟨rfl, rfl, rfl, by decide +kernel, rfl, by decide +kernel, by decide +kernel⟩
abbrev dd_tasks_of : List D := []
abbrev s_to_run : Stmt := topS 4
abbrev n_to_run : List Str := ["tasks", "runs", "confirmed", "rows", "name", "born", "rev", "value"]
abbrev p_to_run : List Str := ["tasks", "runs", "confirmed"]
abbrev m_to_run : List Bool := [false, true, false]
abbrev ax_to_run : Ax := ⟨8, fun i => ([false, true, false, false, false, false, false, false] : List Bool).getD i false, cnm, fnm⟩
theorem sc_to_run : FnScope n_to_run p_to_run (defScope s_to_run) := ⟨rfl, rfl, rfl, by decide +kernel, rfl, by decide +kernel, by decide +kernel⟩
abbrev dd_to_run : List D := []
abbrev s_next_start : Stmt := topS 5
abbrev n_next_start : List Str := ["tasks", "held", "task"]
abbrev p_next_start : List Str := ["tasks", "held"]
abbrev m_next_start : List Bool := [false, false]
abbrev ax_next_start : Ax := ⟨3, fun i => ([false, false, false] : List Bool).getD i false, cnm, fnm⟩
theorem sc_next_start : FnScope n_next_start p_next_start (defScope s_next_start) := ⟨rfl, rfl, rfl, by decide +kernel, rfl, by decide +kernel, by decide +kernel⟩
abbrev dd_next_start : List D := []
abbrev s_next_end : Stmt := topS 6
abbrev n_next_end : List Str := ["tasks", "held", "task"]
abbrev p_next_end : List Str := ["tasks", "held"]
abbrev m_next_end : List Bool := [false, false]
abbrev ax_next_end : Ax := ⟨3, fun i => ([false, false, false] : List Bool).getD i false, cnm, fnm⟩
theorem sc_next_end : FnScope n_next_end p_next_end (defScope s_next_end) := ⟨rfl, rfl, rfl, by decide +kernel, rfl, by decide +kernel, by decide +kernel⟩
abbrev dd_next_end : List D := []
abbrev s__law_number : Stmt := topS 8
abbrev n__law_number : List Str := ["_law_script", "_law_k", "_law_cell"]
abbrev p__law_number : List Str := ["_law_script", "_law_k"]
abbrev m__law_number : List Bool := [false, false]
abbrev ax__law_number : Ax := ⟨3, fun i => ([false, false, false] : List Bool).getD i false, cnm, fnm⟩
theorem sc__law_number : FnScope n__law_number p__law_number (defScope s__law_number) := ⟨rfl, rfl, rfl, by decide +kernel, rfl, by decide +kernel, by decide +kernel⟩
abbrev dd__law_number : List D := []
abbrev s__law_digits : Stmt := topS 9
abbrev n__law_digits : List Str := ["_law_script", "_law_k", "_law_sizes", "_law_number_here", "_law_digits_here", "_law_size"]
abbrev p__law_digits : List Str := ["_law_script", "_law_k", "_law_sizes"]
abbrev m__law_digits : List Bool := [false, false, false]
abbrev ax__law_digits : Ax := ⟨6, fun i => ([false, false, false, false, false, false] : List Bool).getD i false, cnm, fnm⟩
theorem sc__law_digits : FnScope n__law_digits p__law_digits (defScope s__law_digits) := ⟨rfl, rfl, rfl, by decide +kernel, rfl, by decide +kernel, by decide +kernel⟩
abbrev dd__law_digits : List D := []
abbrev s__law_entry : Stmt := topS 10
abbrev n__law_entry : List Str := ["_law_script", "_law_k", "_law_states", "_law_nodes", "_law_state", "_law_stop", "_law_node", "_law_life", "_law_kind", "_law_size", "_law_name", "_law_value"]
abbrev p__law_entry : List Str := ["_law_script", "_law_k"]
abbrev m__law_entry : List Bool := [false, false]
abbrev ax__law_entry : Ax := ⟨12, fun i => ([false, false, false, false, false, false, false, false, false, false, false, false] : List Bool).getD i false, cnm, fnm⟩
theorem sc__law_entry : FnScope n__law_entry p__law_entry (defScope s__law_entry) := ⟨rfl, rfl, rfl, by decide +kernel, rfl, by decide +kernel, by decide +kernel⟩
abbrev dd__law_entry : List D := []
abbrev s__law_first : Stmt := topS 11
abbrev n__law_first : List Str := ["_law_tasks", "_law_states", "_law_stop", "_law_held", "_law_task"]
abbrev p__law_first : List Str := ["_law_tasks", "_law_states", "_law_stop", "_law_held"]
abbrev m__law_first : List Bool := [false, false, false, false]
abbrev ax__law_first : Ax := ⟨5, fun i => ([false, false, false, false, false] : List Bool).getD i false, cnm, fnm⟩
theorem sc__law_first : FnScope n__law_first p__law_first (defScope s__law_first) := ⟨rfl, rfl, rfl, by decide +kernel, rfl, by decide +kernel, by decide +kernel⟩
abbrev dd__law_first : List D := []
abbrev s__law_one : Stmt := topS 12
abbrev n__law_one : List Str := ["_law_entries", "_law_node", "_law_life", "_law_runs", "_law_confirmed", "_law_held", "_law_due", "_law_kind", "_law_name", "_law_born", "_law_rev", "_law_value", "_law_rows"]
abbrev p__law_one : List Str := ["_law_entries", "_law_node", "_law_life", "_law_runs", "_law_confirmed", "_law_held"]
abbrev m__law_one : List Bool := [false, false, false, true, false, false]
abbrev ax__law_one : Ax := ⟨13, fun i => ([false, false, false, true, false, false, false, false, false, false, false, false, false] : List Bool).getD i false, cnm, fnm⟩
theorem sc__law_one : FnScope n__law_one p__law_one (defScope s__law_one) := ⟨rfl, rfl, rfl, by decide +kernel, rfl, by decide +kernel, by decide +kernel⟩
abbrev dd__law_one : List D := []
abbrev s_law : Stmt := topS 13
abbrev n_law : List Str := ["_law_script", "_law_size", "_law_entries", "_law_k", "_law_kept", "_law_entry_here", "_law_runs", "_law_confirmed", "_law_held", "_law_use", "_law_slots", "_law_node", "_law_life"]
abbrev p_law : List Str := ["_law_script"]
abbrev m_law : List Bool := [false]
abbrev ax_law : Ax := ⟨13, fun i => ([false, false, false, false, false, false, false, false, false, false, false, false, false] : List Bool).getD i false, cnm, fnm⟩
theorem sc_law : FnScope n_law p_law (defScope s_law) := ⟨rfl, rfl, rfl, by decide +kernel, rfl, by decide +kernel, by decide +kernel⟩
abbrev dd_law : List D := []

/-- what the walk asks of the top -/
structure Txt (K : PySem.W.Frag) (mg : Str → Option Value) : Prop where
  b_abs : mg "abs" = none
  b_int : mg "int" = none
  b_len : mg "len" = none
  b_range : mg "range" = none
  b_sorted : mg "sorted" = none
  b_str : mg "str" = none
  na_0_0 : NoAttr K (clOf mg "Runs") "rows"
  t : True

def num (ns : List Int) (k : Int) : Int :=
  let c := if k < ns.length then ns.getD k.toNat 0 else k
  if 10 ^ 18 ≤ c ∨ c < 0 then (if c < 0 then -c else c) else (c + 7 * k + 1) * 48271 % 2147483647 * 69621 % 2147483647
def P_num (as : List D) (z : Z) : Prop := ∃ (ns : List Int) (k : Int), as = [scrD ns, .int k] ∧ (0 ≤ k ∧ k < 2 ^ 60) ∧ z = .v (.int (num ns k))
def digs (n : Int) : List Int → List Int
  | [] => []
  | s :: r => n % s :: digs (n / s) r
theorem num_nonneg (ns : List Int) (k : Int) (h : 0 ≤ k) : 0 ≤ num ns k := by
  unfold num
  dsimp only
  generalize (if k < (ns.length : Int) then ns.getD k.toNat 0 else k) = c
  split
  · split <;> omega
  · exact Int.emod_nonneg _ (show (2147483647 : Int) ≠ 0 by decide)
def P_digs (as : List D) (z : Z) : Prop := ∃ (ns : List Int) (k : Int) (sz : List Int), as = [scrD ns, .int k, .list (sz.map .int)] ∧ (0 ≤ k ∧ k < 2 ^ 60) ∧ (∀ s ∈ sz, 0 < s ∧ s < 1073741824) ∧ sz.length ≤ 1000 ∧ z = .v (.list ((digs (num ns k) sz).map .int))
theorem digs_len : ∀ (sz : List Int) (n : Int), (digs n sz).length = sz.length
  | [], _ => rfl
  | s :: r, n => by show (digs (n / s) r).length + 1 = r.length + 1; rw [digs_len r]
def qs (n : Int) (sz : List Int) : Int := sz.foldl (fun a s => a / s) n
theorem digs_snoc : ∀ (sz : List Int) (n s : Int), digs n (sz ++ [s]) = digs n sz ++ [qs n sz % s]
  | [], n, s => rfl
  | t :: r, n, s => by
    show n % t :: digs (n / t) (r ++ [s]) = n % t :: (digs (n / t) r ++ [qs n (t :: r) % s])
    rw [digs_snoc r]
    rfl
theorem qs_snoc (sz : List Int) (n s : Int) : qs n (sz ++ [s]) = qs n sz / s := by unfold qs; rw [List.foldl_append]; rfl
def F__law_number : FD := det 2 P_num
def b__law_number_L56 : dS := (dRet (dP (dOp dMod (dCall (dL1 fInt) (dCons (dOp dMulA (dOp dMod (dCall (dL1 fInt) (dCons (dOp dMulA (dOp dAdd (dOp dAdd (dVar 2) (dOp dMulA (dK (.int 7)) (dVar 1))) (dK (.int 1))) (dK (.int 48271))) dNil)) (dK (.int 2147483647))) (dK (.int 69621))) dNil)) (dK (.int 2147483647)))))
def b__law_number_L54 : dS := (dSeq (dIf (dPT (dOrT (dTst (dOp dGe (dVar 2) (dOp dPow (dK (.int 10)) (dK (.int 18))))) (dTst (dOp dLtB (dVar 2) (dK (.int 0)))))) (dRet (dP (dCall (dL1 fAbs) (dCons (dVar 2) dNil)))) dNext) b__law_number_L56)
def b__law_number_L52 : dS := (dSeq (dIf (dPT (dTst (dOp dLtB (dVar 1) (dCall (dL1Z fLenZ) (dCons (dVar 0) dNil))))) (dSet 2 (dP (dOp dIxA (dVar 0) (dVar 1)))) dNext) b__law_number_L54)
def b__law_number : dS := (dSeq (dSet 2 (dP (dVar 1))) b__law_number_L52)

theorem sem__law_number : ∀ as Q, F__law_number as Q → b__law_number (fE Q) (args n__law_number.length as) := by
  rintro as Q ⟨_, _, ⟨ns, k, rfl, h0, rfl⟩, h⟩
  have go : ∀ c : Int, (if k < ns.length then ns.getD k.toNat 0 else k) = c → b__law_number_L54 (fE Q) [.v (scrD ns), .v (.int k), .v (.int c)] := fun c hc => by
    unfold num at h
    rw [hc] at h
    dsimp only at h
    have fin : (10 ^ 18 ≤ c ∨ c < 0) → Q (.v (.int (if c < 0 then -c else c))) := fun z => by rw [if_pos z] at h; exact h
    refine ⟨cpow, ite3 (fun h1 => ?_) (fun h1 => ite3 (fun h2 => ?_) (fun h2 => ?_))⟩
    · exact fin (.inl h1)
    · exact fin (.inr h2)
    · rw [if_neg (fun z => z.elim (fun q => h1 q) h2)] at h
      exact ⟨cmulL, cmulR, p0, cmulR, p0, h⟩
  refine ite3 (fun hc => ?_) (fun hc => ?_)
  · have hc : k < ns.length := by simpa using hc
    exact ⟨_, atI_ints h0.1 hc, go _ (if_pos hc)⟩
  · exact go k (if_neg (by simpa using hc))
def F__law_digits : FD := det 3 P_digs
def b__law_digits_L62 : dS := (dSet 3 (dP (dOp dFdiv (dCall (dL1 fInt) (dCons (dVar 3) dNil)) (dVar 5))))
def b__law_digits_B60 : dS := dTidy [5] ((dSeq (dDrop (dxAppP (dpVar 4) (dOp dMod (dCall (dL1 fInt) (dCons (dVar 3) dNil)) (dVar 5)))) b__law_digits_L62))
def b__law_digits_L63 : dS := (dRetV 4)
def b__law_digits_L60 : dS := (dSeq (dPre [5] (dFor (dPI (dItems (dVar 2))) (dgName 5) b__law_digits_B60)) (dFrz 4 b__law_digits_L63))
def b__law_digits_L59 : dS := (dSeq (dSet 4 (dP (dLstD dCnil))) b__law_digits_L60)
def b__law_digits : dS := (dSeq (dSet 3 (dP (dCallF F__law_number dd__law_number (dCcons (dVar 0) (dCcons (dVar 1) dCnil))))) b__law_digits_L59)

theorem sem__law_digits : ∀ as Q, F__law_digits as Q → b__law_digits (fE Q) (args n__law_digits.length as) := by
  rintro as Q ⟨_, _, ⟨ns, k, sz, rfl, h0, hs, hl, rfl⟩, h⟩
  refine ⟨rfl, _, ⟨ns, k, rfl, h0, rfl⟩, sk, fun i ρ => ∃ s5, ρ = [.v (scrD ns), .v (.int k), .v (.list (sz.map .int)), .v (.int (qs (num ns k) (sz.take i))), .l ((digs (num ns k) (sz.take i)).map .int), s5], ⟨.no, rfl⟩, ?_, ?_⟩
  · rintro i x ρ hx ⟨s5, rfl⟩
    obtain ⟨s, hi, rfl⟩ := get_map hx
    have hm := hs s (List.mem_of_getElem? hi)
    have hli : i < sz.length := (List.getElem?_eq_some_iff.mp hi).1
    have hz : ((digs (num ns k) (sz.take i)).map PyData.int).length < sizeLine := by
      rw [List.length_map, digs_len, List.length_take]
      exact szLt (by omega)
    exact ⟨True.intro, hm.1, hz, ⟨hm.1, hm.2⟩, _, by rw [take_last hi, qs_snoc, digs_snoc, List.map_append]; rfl⟩
  · rintro ρ ⟨s5, rfl⟩
    rw [List.length_map, List.take_length]
    exact h

structure T where
  name : Str
  born : Int
  rev : Int
  txt : Str
  size : Int
  st : Str
  stop : Int
  node : Str
  life : Int
abbrev valT (t : T) : D := .tuple [.int 3, .str t.txt, .int t.size, .str t.st, .int t.stop, .str t.node, .int t.life, .str ""]
abbrev encT (t : T) : D := .tuple [.str t.name, .int t.born, .int t.rev, valT t]
inductive Ent where
  | node (name : Str) (b rev life : Int)
  | task (t : T)
def encE : Ent → D
  | .node name b rev life => .tuple [.str "node", .str name, .int b, .int rev, .tuple [.int 9, .int 0, .int life, .int 0, .str ""]]
  | .task t => .tuple [.str "task", .str t.name, .int t.born, .int t.rev, valT t]
abbrev runs (xs : List (Str × Int)) : S := .ob 0 (.cons (.int 0) (.dc false (xs.map (eD PyData.int))) .nil)
def mine (node : Str) (life : Int) : Ent → List T
  | .node _ _ _ _ => []
  | .task t => if t.node = node ∧ t.life = life then [t] else []
def sortT (ts : List T) : List T := ts.mergeSort (PySem.W.dataLe false encT)
def tasksOf (es : List Ent) (node : Str) (life : Int) : List T := sortT (es.flatMap (mine node life))
def F_Runs___init__ : FT := detT 1 fun ρ z ρ' => ρ = [.ob 0 .nil] ∧ z = .v .none ∧ ρ' = [runs []]
theorem cl_Runs___init__   {Q : Z → List S → Prop} {E : Exn → List S → Prop} (h : Q (.v .none) [runs []]) : F_Runs___init__ [.ob 0 .nil] Q E := ⟨rfl, _, _, ⟨rfl, rfl, rfl⟩, h⟩
def F_Runs_begin : FT := detT 3 fun ρ z ρ' => ∃ (xs : List (Str × Int)) (t : Str) (b : Int), ρ = [runs xs, .v (.str t), .v (.int b)] ∧ (xs.length < 100) ∧ z = .v .none ∧ ρ' = [runs (aput xs t b), .no, .no]
theorem cl_Runs_begin {xs : List (Str × Int)} {t : Str} {b : Int} (hl : xs.length < 100) {Q : Z → List S → Prop} {E : Exn → List S → Prop} (h : Q (.v .none) [runs (aput xs t b), .no, .no]) : F_Runs_begin [runs xs, .v (.str t), .v (.int b)] Q E := ⟨rfl, _, _, ⟨xs, t, b, rfl, hl, rfl, rfl⟩, h⟩
def F_Runs_born_of : FT := detT 2 fun ρ z ρ' => ∃ (xs : List (Str × Int)) (t : Str), ρ = [runs xs, .v (.str t)] ∧ z = .v (.int ((alook xs t).getD 0)) ∧ ρ' = [runs xs, .no]
theorem cl_Runs_born_of {xs : List (Str × Int)} {t : Str}  {Q : Z → List S → Prop} {E : Exn → List S → Prop} (h : Q (.v (.int ((alook xs t).getD 0))) [runs xs, .no]) : F_Runs_born_of [runs xs, .v (.str t)] Q E := ⟨rfl, _, _, ⟨xs, t, rfl, rfl, rfl⟩, h⟩
def F_Runs_slots : FT := detT 1 fun ρ z ρ' => ∃ (xs : List (Str × Int)), ρ = [runs xs] ∧ (xs.length < 64) ∧ z = .n (.l ((sortS (xs.map Prod.fst)).map .str)) ∧ ρ' = [runs xs]
theorem cl_Runs_slots {xs : List (Str × Int)} (hl : xs.length < 64) {Q : Z → List S → Prop} {E : Exn → List S → Prop} (h : Q (.n (.l ((sortS (xs.map Prod.fst)).map .str))) [runs xs]) : F_Runs_slots [runs xs] Q E := ⟨rfl, _, _, ⟨xs, rfl, hl, rfl, rfl⟩, h⟩
def b_Runs___init__ : dS := (dFldS 0 0 (dpVar 0) (dP (dNewK)))

def b_Runs_begin : dS := (dSetI (dpFld 0 (dpVar 0)) (dVar 1) (dP (dVar 2)))

def b_Runs_born_of_L22 : dS := (dRet (dP (dK (.int 0))))
def b_Runs_born_of : dS := (dSeq (dIf (dPT (dTst (dOp (dInA false) (dVar 1) (dFld 0 (dVar 0))))) (dRet (dP (dOp dIxA (dFld 0 (dVar 0)) (dVar 1)))) dNext) b_Runs_born_of_L22)

def b_Runs_slots : dS := (dRet (dP (dCall (dL1Z fSortZ) (dCons (dFld 0 (dVar 0)) dNil))))

theorem sem_Runs___init__ : ∀ ρ Q Ed, F_Runs___init__ ρ Q Ed → ∀ g, b_Runs___init__ (fT m_Runs___init__ n_Runs___init__.length g Q Ed) (argT m_Runs___init__ n_Runs___init__.length g ρ) := by
  rintro ρ Q Ed ⟨_, z, ρ', ⟨rfl, rfl, rfl⟩, h⟩ g
  exact ⟨by decide, rfl, ⟨rfl, rfl⟩, h⟩
theorem sem_Runs_begin : ∀ ρ Q Ed, F_Runs_begin ρ Q Ed → ∀ g, b_Runs_begin (fT m_Runs_begin n_Runs_begin.length g Q Ed) (argT m_Runs_begin n_Runs_begin.length g ρ) := by
  rintro ρ Q Ed ⟨_, z, ρ', ⟨xs, t, b, rfl, hl, rfl, rfl⟩, h⟩ g
  simp -dsimp -implicitDefEqProofs only [↓dNext.eq_1, ↓dBreak.eq_1, ↓dCont.eq_1, ↓dNever.eq_1, ↓dDrop.eq_1, ↓dRet.eq_1, ↓dRetN.eq_1, ↓dIf.eq_1, ↓dSet.eq_1, ↓dFrz.eq_1, ↓dUnp.eq_1, ↓dRetV.eq_1, ↓dAug.eq_1, ↓dSetI.eq_1, ↓dDelI.eq_1, ↓dFldS.eq_1, ↓dFldA.eq_1, ↓setAt.eq_1, ↓delAt.eq_1, ↓fldAt.eq_1, ↓dP.eq_1, ↓dPT.eq_1, ↓dPC.eq_1, ↓dPI.eq_1, ↓dXnil.eq_1, ↓dXcons.eq_1, ↓dxOp.eq_1, ↓dxOpL.eq_1, ↓dxUn.eq_1, ↓dxTst.eq_1, ↓truD.eq_1, ↓dxTru.eq_1, ↓dxAndT.eq_1, ↓dxOrT.eq_1, ↓dxNotT.eq_1, ↓dxAndE.eq_1, ↓dxOrE.eq_1, ↓dxNotE.eq_1, ↓dxIfE.eq_1, ↓dxTup.eq_1, ↓dxLst.eq_1, ↓dxCB.eq_1, ↓dxCall.eq_1, ↓dxMethP.eq_1, ↓dxMethV.eq_1, ↓dxMethN.eq_1, ↓dxAppP.eq_1, ↓dxAppV.eq_1, dxAppP.isL, ↓appAt.eq_1, ↓nmPl.eq_1, nmAt, ↓nmArg.eq_1, isOb, ↓dVar.eq_1, ↓dK.eq_1, ↓dOp.eq_1, ↓dUn.eq_1, ↓dNil.eq_1, ↓dCons.eq_1, ↓dCnil.eq_1, ↓dCcons.eq_1, ↓dCall.eq_1, ↓dTupD.eq_1, ↓dLstD.eq_1, ↓dTst.eq_1, ↓dTru.eq_1, ↓dAndT.eq_1, ↓dOrT.eq_1, ↓dNotT.eq_1, ↓dAndE.eq_1, ↓dOrE.eq_1, ↓dNotE.eq_1, ↓dIfE.eq_1, ↓dNewK.eq_1, ↓dFld.eq_1, ↓dYes.eq_1, ↓dIsi.eq_1, dTy, isiB, ↓dI.eq_1, ↓dIC.eq_1, ↓dAdd.eq_1, ↓dEq.eq_1, ↓dNe.eq_1, dIs, ↓dLtI.eq_1, ↓dLt.eq_1, ↓dLtB.eq_1, ↓dSub.eq_1, ↓dMul.eq_1, ↓dFdiv.eq_1, ↓dMod.eq_1, ↓dPow.eq_1, ↓dLe.eq_1, ↓dGt.eq_1, ↓dGe.eq_1, ↓dAddI.eq_1, ↓dNeg.eq_1, ↓dMulA.eq_1, ↓dInA.eq_1, ↓dInD.eq_1, ↓dIn.eq_1, keyIn, ↓dIxA.eq_1, ↓dGetD.eq_1, ↓dIx.eq_1, ↓dSl.eq_1, ↓dOnone.eq_1, ↓dOsome.eq_1, ↓dL1_ap, ↓dL2_ap, ↓dL1Z_ap, ↓fLen_ap, ↓fAbs_ap, ↓fInt_ap, ↓fStr_ap, ↓fMax_ap, ↓fMin_ap, ↓fList_ap, ↓fTup_ap, ↓fLenZ.eq_1, ↓fListZ.eq_1, ↓fSum_ap, ↓fAny_ap, ↓fAll_ap, ↓dpVar.eq_1, ↓dpFld.eq_1, ↓dpaNil.eq_1, ↓dpaP.eq_1, ↓dpaD.eq_1, ↓dPPA.eq_1, ↓dxaNil.eq_1, ↓dxaV.eq_1, ↓dxaD.eq_1, ↓dxaN.eq_1, ↓dgName.eq_1, ↓dgNil.eq_1, ↓dgCons_ap, ↓dgTup_ap, ↓dItems.eq_1, ↓dXItems.eq_1, ↓itemsD.eq_1, Z.own, Z.data, S.data, Z.dicv, S.dicv, Z.items, S.items, Z.mems, S.mems, Z.ownL, Z.dk, S.dk, Z.keep, Z.fin, kindT, keyD, keyT, keysD, keyA, atP, S.at, S.kids, S.wth, SF.pos, SF.get, SF.set, SF.len, SF.labs, SF.app, S.put, putP, repl, kill, killS, backM, ghM, argT, args, lendR, backR, apartAll, npre, apart, S.noT, S.tru, S.live, wipeS, List.getElem?_cons_zero, List.getElem?_cons_succ, List.getElem?_nil, List.set_cons_zero, List.set_cons_succ, List.cons_append, List.nil_append, List.replicate, List.length_cons, List.length_nil, List.map_cons, List.map_nil, List.drop_succ_cons, List.drop_zero, List.all_cons, List.all_nil, List.tail_cons, List.getD, Option.map_some, Option.map_none, Option.isSome_some, Option.isSome_none, Option.some.injEq, Bool.and_true, Bool.true_and, Bool.not_true, Bool.not_false, Bool.false_eq_true, Bool.and_self, Bool.or_false, Bool.false_or, if_true, if_false, ite_true, ite_false, and_true, true_and, true_or, or_true, decide_eq_true_eq, decide_true, decide_false, Bool.not_eq_true', Bool.not_eq_eq_eq_not, decide_not, not_false_eq_true, not_true_eq_false, ↓reduceIte, natlit, atI_lit, ↓dPre.eq_1, ↓fT_nx, ↓fT_rt, ↓fT_ex, Nat.reduceAdd, Int.reduceNeg, ↓eqD_int, ↓eqD_str, ↓eqD_bool, ↓dRng1.eq_1, ↓dRng2.eq_1, inV_ints, inV_strs, inV_int1, inV_str1, inV_nil, flat_ints, flat_strs, flatD, vOf, lookS, lookI, lookP, dropS, dropI, dropP, Nat.sub_self, List.replicate_zero, Option.getD_some, Option.getD_none, reduceCtorEq, List.append_nil, str_lit, sz_0, sz_1, sz_2, sz_3, sz_4, sz_5, sz_6, sz_7, sz_8, sz_9, sz_10, sz_11, sz_12, sz_13, sz_14, sz_15, sz_16, sz_17, sz_18, sz_19, sz_20, sz_21, sz_22, sz_23, sz_24, Nat.reduceSub, Nat.reduceMul, Nat.reduceDiv, Nat.reduceMod, Nat.reduceLT, Nat.reduceLeDiff, Nat.reduceEqDiff, Nat.reduceGT, Nat.reduceBEq, Int.reduceAdd, Int.reduceSub, Int.reduceMul, Int.reduceDiv, Int.reduceMod, Int.reduceLT, Int.reduceLE, Int.reduceEq, Int.reduceNe, Int.reduceGT, Int.reduceGE, Int.reduceToNat, String.reduceEq, String.reduceNe, and_false, false_and, ↓dCallF_eq, ↓dCallK_eq, ↓dxMake_eq, Option.isSome_map, ↓callA_eq, ↓dForS_eq, ↓dWhileS_eq, ↓dLc_eq, ↓dSeq_ap, ↓dTidy_ap, ↓dTidyN_ap, seqE_nx, seqE_rt, seqE_bk, seqE_ct, seqE_ex, tidyE_nx, tidyE_rt, tidyE_bk, tidyE_ct, tidyE_ex, tidyNE_nx, tidyNE_rt, tidyNE_bk, tidyNE_ct, tidyNE_ex, loopE_nx, loopE_rt, loopE_bk, loopE_ct, loopE_ex, ↓fE_nx, ↓fE_rt, ↓exSome, ↓rdS_ap, ↓fSort_ap, goE_nx, goE_rt, goE_bk, goE_ct, goE_ex, decide_eq_false_iff_not, ite_not, b_Runs_begin, putS b]
  exact ⟨szm (by omega), h⟩
theorem sem_Runs_born_of : ∀ ρ Q Ed, F_Runs_born_of ρ Q Ed → ∀ g, b_Runs_born_of (fT m_Runs_born_of n_Runs_born_of.length g Q Ed) (argT m_Runs_born_of n_Runs_born_of.length g ρ) := by
  rintro ρ Q Ed ⟨_, z, ρ', ⟨xs, t, rfl, rfl, rfl⟩, h⟩ g
  cases e : alook xs t with
  | none => rw [e] at h; simp -dsimp -implicitDefEqProofs only [↓dNext.eq_1, ↓dBreak.eq_1, ↓dCont.eq_1, ↓dNever.eq_1, ↓dDrop.eq_1, ↓dRet.eq_1, ↓dRetN.eq_1, ↓dIf.eq_1, ↓dSet.eq_1, ↓dFrz.eq_1, ↓dUnp.eq_1, ↓dRetV.eq_1, ↓dAug.eq_1, ↓dSetI.eq_1, ↓dDelI.eq_1, ↓dFldS.eq_1, ↓dFldA.eq_1, ↓setAt.eq_1, ↓delAt.eq_1, ↓fldAt.eq_1, ↓dP.eq_1, ↓dPT.eq_1, ↓dPC.eq_1, ↓dPI.eq_1, ↓dXnil.eq_1, ↓dXcons.eq_1, ↓dxOp.eq_1, ↓dxOpL.eq_1, ↓dxUn.eq_1, ↓dxTst.eq_1, ↓truD.eq_1, ↓dxTru.eq_1, ↓dxAndT.eq_1, ↓dxOrT.eq_1, ↓dxNotT.eq_1, ↓dxAndE.eq_1, ↓dxOrE.eq_1, ↓dxNotE.eq_1, ↓dxIfE.eq_1, ↓dxTup.eq_1, ↓dxLst.eq_1, ↓dxCB.eq_1, ↓dxCall.eq_1, ↓dxMethP.eq_1, ↓dxMethV.eq_1, ↓dxMethN.eq_1, ↓dxAppP.eq_1, ↓dxAppV.eq_1, dxAppP.isL, ↓appAt.eq_1, ↓nmPl.eq_1, nmAt, ↓nmArg.eq_1, isOb, ↓dVar.eq_1, ↓dK.eq_1, ↓dOp.eq_1, ↓dUn.eq_1, ↓dNil.eq_1, ↓dCons.eq_1, ↓dCnil.eq_1, ↓dCcons.eq_1, ↓dCall.eq_1, ↓dTupD.eq_1, ↓dLstD.eq_1, ↓dTst.eq_1, ↓dTru.eq_1, ↓dAndT.eq_1, ↓dOrT.eq_1, ↓dNotT.eq_1, ↓dAndE.eq_1, ↓dOrE.eq_1, ↓dNotE.eq_1, ↓dIfE.eq_1, ↓dNewK.eq_1, ↓dFld.eq_1, ↓dYes.eq_1, ↓dIsi.eq_1, dTy, isiB, ↓dI.eq_1, ↓dIC.eq_1, ↓dAdd.eq_1, ↓dEq.eq_1, ↓dNe.eq_1, dIs, ↓dLtI.eq_1, ↓dLt.eq_1, ↓dLtB.eq_1, ↓dSub.eq_1, ↓dMul.eq_1, ↓dFdiv.eq_1, ↓dMod.eq_1, ↓dPow.eq_1, ↓dLe.eq_1, ↓dGt.eq_1, ↓dGe.eq_1, ↓dAddI.eq_1, ↓dNeg.eq_1, ↓dMulA.eq_1, ↓dInA.eq_1, ↓dInD.eq_1, ↓dIn.eq_1, keyIn, ↓dIxA.eq_1, ↓dGetD.eq_1, ↓dIx.eq_1, ↓dSl.eq_1, ↓dOnone.eq_1, ↓dOsome.eq_1, ↓dL1_ap, ↓dL2_ap, ↓dL1Z_ap, ↓fLen_ap, ↓fAbs_ap, ↓fInt_ap, ↓fStr_ap, ↓fMax_ap, ↓fMin_ap, ↓fList_ap, ↓fTup_ap, ↓fLenZ.eq_1, ↓fListZ.eq_1, ↓fSum_ap, ↓fAny_ap, ↓fAll_ap, ↓dpVar.eq_1, ↓dpFld.eq_1, ↓dpaNil.eq_1, ↓dpaP.eq_1, ↓dpaD.eq_1, ↓dPPA.eq_1, ↓dxaNil.eq_1, ↓dxaV.eq_1, ↓dxaD.eq_1, ↓dxaN.eq_1, ↓dgName.eq_1, ↓dgNil.eq_1, ↓dgCons_ap, ↓dgTup_ap, ↓dItems.eq_1, ↓dXItems.eq_1, ↓itemsD.eq_1, Z.own, Z.data, S.data, Z.dicv, S.dicv, Z.items, S.items, Z.mems, S.mems, Z.ownL, Z.dk, S.dk, Z.keep, Z.fin, kindT, keyD, keyT, keysD, keyA, atP, S.at, S.kids, S.wth, SF.pos, SF.get, SF.set, SF.len, SF.labs, SF.app, S.put, putP, repl, kill, killS, backM, ghM, argT, args, lendR, backR, apartAll, npre, apart, S.noT, S.tru, S.live, wipeS, List.getElem?_cons_zero, List.getElem?_cons_succ, List.getElem?_nil, List.set_cons_zero, List.set_cons_succ, List.cons_append, List.nil_append, List.replicate, List.length_cons, List.length_nil, List.map_cons, List.map_nil, List.drop_succ_cons, List.drop_zero, List.all_cons, List.all_nil, List.tail_cons, List.getD, Option.map_some, Option.map_none, Option.isSome_some, Option.isSome_none, Option.some.injEq, Bool.and_true, Bool.true_and, Bool.not_true, Bool.not_false, Bool.false_eq_true, Bool.and_self, Bool.or_false, Bool.false_or, if_true, if_false, ite_true, ite_false, and_true, true_and, true_or, or_true, decide_eq_true_eq, decide_true, decide_false, Bool.not_eq_true', Bool.not_eq_eq_eq_not, decide_not, not_false_eq_true, not_true_eq_false, ↓reduceIte, natlit, atI_lit, ↓dPre.eq_1, ↓fT_nx, ↓fT_rt, ↓fT_ex, Nat.reduceAdd, Int.reduceNeg, ↓eqD_int, ↓eqD_str, ↓eqD_bool, ↓dRng1.eq_1, ↓dRng2.eq_1, inV_ints, inV_strs, inV_int1, inV_str1, inV_nil, flat_ints, flat_strs, flatD, vOf, lookS, lookI, lookP, dropS, dropI, dropP, Nat.sub_self, List.replicate_zero, Option.getD_some, Option.getD_none, reduceCtorEq, List.append_nil, str_lit, sz_0, sz_1, sz_2, sz_3, sz_4, sz_5, sz_6, sz_7, sz_8, sz_9, sz_10, sz_11, sz_12, sz_13, sz_14, sz_15, sz_16, sz_17, sz_18, sz_19, sz_20, sz_21, sz_22, sz_23, sz_24, Nat.reduceSub, Nat.reduceMul, Nat.reduceDiv, Nat.reduceMod, Nat.reduceLT, Nat.reduceLeDiff, Nat.reduceEqDiff, Nat.reduceGT, Nat.reduceBEq, Int.reduceAdd, Int.reduceSub, Int.reduceMul, Int.reduceDiv, Int.reduceMod, Int.reduceLT, Int.reduceLE, Int.reduceEq, Int.reduceNe, Int.reduceGT, Int.reduceGE, Int.reduceToNat, String.reduceEq, String.reduceNe, and_false, false_and, ↓dCallF_eq, ↓dCallK_eq, ↓dxMake_eq, Option.isSome_map, ↓callA_eq, ↓dForS_eq, ↓dWhileS_eq, ↓dLc_eq, ↓dSeq_ap, ↓dTidy_ap, ↓dTidyN_ap, seqE_nx, seqE_rt, seqE_bk, seqE_ct, seqE_ex, tidyE_nx, tidyE_rt, tidyE_bk, tidyE_ct, tidyE_ex, tidyNE_nx, tidyNE_rt, tidyNE_bk, tidyNE_ct, tidyNE_ex, loopE_nx, loopE_rt, loopE_bk, loopE_ct, loopE_ex, ↓fE_nx, ↓fE_rt, ↓exSome, ↓rdS_ap, ↓fSort_ap, goE_nx, goE_rt, goE_bk, goE_ct, goE_ex, decide_eq_false_iff_not, ite_not, b_Runs_born_of, b_Runs_born_of_L22, e]; exact h
  | some b => rw [e] at h; simp -dsimp -implicitDefEqProofs only [↓dNext.eq_1, ↓dBreak.eq_1, ↓dCont.eq_1, ↓dNever.eq_1, ↓dDrop.eq_1, ↓dRet.eq_1, ↓dRetN.eq_1, ↓dIf.eq_1, ↓dSet.eq_1, ↓dFrz.eq_1, ↓dUnp.eq_1, ↓dRetV.eq_1, ↓dAug.eq_1, ↓dSetI.eq_1, ↓dDelI.eq_1, ↓dFldS.eq_1, ↓dFldA.eq_1, ↓setAt.eq_1, ↓delAt.eq_1, ↓fldAt.eq_1, ↓dP.eq_1, ↓dPT.eq_1, ↓dPC.eq_1, ↓dPI.eq_1, ↓dXnil.eq_1, ↓dXcons.eq_1, ↓dxOp.eq_1, ↓dxOpL.eq_1, ↓dxUn.eq_1, ↓dxTst.eq_1, ↓truD.eq_1, ↓dxTru.eq_1, ↓dxAndT.eq_1, ↓dxOrT.eq_1, ↓dxNotT.eq_1, ↓dxAndE.eq_1, ↓dxOrE.eq_1, ↓dxNotE.eq_1, ↓dxIfE.eq_1, ↓dxTup.eq_1, ↓dxLst.eq_1, ↓dxCB.eq_1, ↓dxCall.eq_1, ↓dxMethP.eq_1, ↓dxMethV.eq_1, ↓dxMethN.eq_1, ↓dxAppP.eq_1, ↓dxAppV.eq_1, dxAppP.isL, ↓appAt.eq_1, ↓nmPl.eq_1, nmAt, ↓nmArg.eq_1, isOb, ↓dVar.eq_1, ↓dK.eq_1, ↓dOp.eq_1, ↓dUn.eq_1, ↓dNil.eq_1, ↓dCons.eq_1, ↓dCnil.eq_1, ↓dCcons.eq_1, ↓dCall.eq_1, ↓dTupD.eq_1, ↓dLstD.eq_1, ↓dTst.eq_1, ↓dTru.eq_1, ↓dAndT.eq_1, ↓dOrT.eq_1, ↓dNotT.eq_1, ↓dAndE.eq_1, ↓dOrE.eq_1, ↓dNotE.eq_1, ↓dIfE.eq_1, ↓dNewK.eq_1, ↓dFld.eq_1, ↓dYes.eq_1, ↓dIsi.eq_1, dTy, isiB, ↓dI.eq_1, ↓dIC.eq_1, ↓dAdd.eq_1, ↓dEq.eq_1, ↓dNe.eq_1, dIs, ↓dLtI.eq_1, ↓dLt.eq_1, ↓dLtB.eq_1, ↓dSub.eq_1, ↓dMul.eq_1, ↓dFdiv.eq_1, ↓dMod.eq_1, ↓dPow.eq_1, ↓dLe.eq_1, ↓dGt.eq_1, ↓dGe.eq_1, ↓dAddI.eq_1, ↓dNeg.eq_1, ↓dMulA.eq_1, ↓dInA.eq_1, ↓dInD.eq_1, ↓dIn.eq_1, keyIn, ↓dIxA.eq_1, ↓dGetD.eq_1, ↓dIx.eq_1, ↓dSl.eq_1, ↓dOnone.eq_1, ↓dOsome.eq_1, ↓dL1_ap, ↓dL2_ap, ↓dL1Z_ap, ↓fLen_ap, ↓fAbs_ap, ↓fInt_ap, ↓fStr_ap, ↓fMax_ap, ↓fMin_ap, ↓fList_ap, ↓fTup_ap, ↓fLenZ.eq_1, ↓fListZ.eq_1, ↓fSum_ap, ↓fAny_ap, ↓fAll_ap, ↓dpVar.eq_1, ↓dpFld.eq_1, ↓dpaNil.eq_1, ↓dpaP.eq_1, ↓dpaD.eq_1, ↓dPPA.eq_1, ↓dxaNil.eq_1, ↓dxaV.eq_1, ↓dxaD.eq_1, ↓dxaN.eq_1, ↓dgName.eq_1, ↓dgNil.eq_1, ↓dgCons_ap, ↓dgTup_ap, ↓dItems.eq_1, ↓dXItems.eq_1, ↓itemsD.eq_1, Z.own, Z.data, S.data, Z.dicv, S.dicv, Z.items, S.items, Z.mems, S.mems, Z.ownL, Z.dk, S.dk, Z.keep, Z.fin, kindT, keyD, keyT, keysD, keyA, atP, S.at, S.kids, S.wth, SF.pos, SF.get, SF.set, SF.len, SF.labs, SF.app, S.put, putP, repl, kill, killS, backM, ghM, argT, args, lendR, backR, apartAll, npre, apart, S.noT, S.tru, S.live, wipeS, List.getElem?_cons_zero, List.getElem?_cons_succ, List.getElem?_nil, List.set_cons_zero, List.set_cons_succ, List.cons_append, List.nil_append, List.replicate, List.length_cons, List.length_nil, List.map_cons, List.map_nil, List.drop_succ_cons, List.drop_zero, List.all_cons, List.all_nil, List.tail_cons, List.getD, Option.map_some, Option.map_none, Option.isSome_some, Option.isSome_none, Option.some.injEq, Bool.and_true, Bool.true_and, Bool.not_true, Bool.not_false, Bool.false_eq_true, Bool.and_self, Bool.or_false, Bool.false_or, if_true, if_false, ite_true, ite_false, and_true, true_and, true_or, or_true, decide_eq_true_eq, decide_true, decide_false, Bool.not_eq_true', Bool.not_eq_eq_eq_not, decide_not, not_false_eq_true, not_true_eq_false, ↓reduceIte, natlit, atI_lit, ↓dPre.eq_1, ↓fT_nx, ↓fT_rt, ↓fT_ex, Nat.reduceAdd, Int.reduceNeg, ↓eqD_int, ↓eqD_str, ↓eqD_bool, ↓dRng1.eq_1, ↓dRng2.eq_1, inV_ints, inV_strs, inV_int1, inV_str1, inV_nil, flat_ints, flat_strs, flatD, vOf, lookS, lookI, lookP, dropS, dropI, dropP, Nat.sub_self, List.replicate_zero, Option.getD_some, Option.getD_none, reduceCtorEq, List.append_nil, str_lit, sz_0, sz_1, sz_2, sz_3, sz_4, sz_5, sz_6, sz_7, sz_8, sz_9, sz_10, sz_11, sz_12, sz_13, sz_14, sz_15, sz_16, sz_17, sz_18, sz_19, sz_20, sz_21, sz_22, sz_23, sz_24, Nat.reduceSub, Nat.reduceMul, Nat.reduceDiv, Nat.reduceMod, Nat.reduceLT, Nat.reduceLeDiff, Nat.reduceEqDiff, Nat.reduceGT, Nat.reduceBEq, Int.reduceAdd, Int.reduceSub, Int.reduceMul, Int.reduceDiv, Int.reduceMod, Int.reduceLT, Int.reduceLE, Int.reduceEq, Int.reduceNe, Int.reduceGT, Int.reduceGE, Int.reduceToNat, String.reduceEq, String.reduceNe, and_false, false_and, ↓dCallF_eq, ↓dCallK_eq, ↓dxMake_eq, Option.isSome_map, ↓callA_eq, ↓dForS_eq, ↓dWhileS_eq, ↓dLc_eq, ↓dSeq_ap, ↓dTidy_ap, ↓dTidyN_ap, seqE_nx, seqE_rt, seqE_bk, seqE_ct, seqE_ex, tidyE_nx, tidyE_rt, tidyE_bk, tidyE_ct, tidyE_ex, tidyNE_nx, tidyNE_rt, tidyNE_bk, tidyNE_ct, tidyNE_ex, loopE_nx, loopE_rt, loopE_bk, loopE_ct, loopE_ex, ↓fE_nx, ↓fE_rt, ↓exSome, ↓rdS_ap, ↓fSort_ap, goE_nx, goE_rt, goE_bk, goE_ct, goE_ex, decide_eq_false_iff_not, ite_not, b_Runs_born_of, e]; exact h
theorem sem_Runs_slots : ∀ ρ Q Ed, F_Runs_slots ρ Q Ed → ∀ g, b_Runs_slots (fT m_Runs_slots n_Runs_slots.length g Q Ed) (argT m_Runs_slots n_Runs_slots.length g ρ) := by
  rintro ρ Q Ed ⟨_, z, ρ', ⟨xs, rfl, hl, rfl, rfl⟩, h⟩ g
  refine .inr ⟨xs.map Prod.fst, by rw [eD_keys, List.map_map]; rfl, by rw [List.length_map]; exact hl, fun ys p hs => ?_⟩
  rw [sortS_uniq p (sortedS_pw hs)]
  exact ⟨⟨rfl, rfl⟩, True.intro, h⟩
theorem sortT_enc (ts : List T) : sortD (ts.map encT) = (sortT ts).map encT := by
  unfold sortD sortT
  symm
  refine List.map_mergeSort fun a _ b _ => ?_
  rw [PySem.W.dataLe_eq, PySem.W.dataLe_eq]
  rfl
structure T.Ok (t : T) : Prop where
  name : PyData.strOk t.name = true
  txt : PyData.strOk t.txt = true
  st : PyData.strOk t.st = true
  node : PyData.strOk t.node = true
theorem nice_T {t : T} (h : t.Ok) : nice 2 (encT t) := by
  simp only [nice_tuple_iff, nice_list_iff, nice_int_iff, nice_bool_iff, nice_none_iff, nice_str_iff, List.forall_mem_cons, mem_nil_iff', List.forall_mem_map, and_true, true_and, implies_true, encT, h.name, h.txt, h.st, h.node]
  decide +kernel
theorem sort_ok {ts : List T} (hl : ts.length ≤ 1000) (hs : ∀ t ∈ ts, t.Ok) : SortOk (ts.map encT) where
  al := PySem.W.AllAlike.of fun a b => by simp [encT, valT, PySem.W.alike, PySem.W.alikeAll]
  so := PySem.W.Sortable.tuples fun a => ⟨_, _, rfl⟩
  cl := fun d hd => by
    obtain ⟨r, hr, rfl⟩ := List.mem_map.mp hd
    have h := nice_T (hs r hr)
    exact ⟨h.1, Nat.le_trans h.2 (by decide)⟩
  sz := by rw [List.length_map]; exact szOk (by omega)
theorem mine_len (node : Str) (life : Int) : ∀ es : List Ent, (es.flatMap (mine node life)).length ≤ es.length
  | [] => Nat.le_refl _
  | e :: es => by
    show (mine node life e ++ es.flatMap (mine node life)).length ≤ es.length + 1
    rw [List.length_append]
    have h : (mine node life e).length ≤ 1 := by
      cases e with
      | node _ _ _ _ => exact Nat.zero_le _
      | task t => unfold mine; dsimp only; split <;> simp
    have := mine_len node life es
    omega
def OkE : Ent → Prop
  | .node name _ _ _ => PyData.strOk name = true
  | .task t => t.Ok
theorem mine_ok {node : Str} {life : Int} {es : List Ent} (h : ∀ e ∈ es, OkE e) : ∀ t ∈ es.flatMap (mine node life), t.Ok := fun t ht => by
  obtain ⟨e, he, hre⟩ := List.mem_flatMap.mp ht
  have h := h e he
  cases e with
  | node _ _ _ _ => cases hre
  | task u =>
    unfold mine at hre
    dsimp only at hre
    split at hre
    · rw [List.mem_singleton.mp hre]; exact h
    · cases hre
def F_tasks_of : FD := det 3 fun as z => ∃ (es : List Ent) (node : Str) (life : Int), as = [.list (es.map encE), .str node, .int life] ∧ (es.length ≤ 1000) ∧ (∀ e ∈ es, OkE e) ∧ z = .n (.l ((tasksOf es node life).map encT))
theorem cl_tasks_of {es : List Ent} {node : Str} {life : Int} (hl : es.length ≤ 1000) (ho : ∀ e ∈ es, OkE e) {Q : Z → Prop} (h : Q (.n (.l ((tasksOf es node life).map encT)))) : F_tasks_of [.list (es.map encE), .str node, .int life] Q := ⟨rfl, _, ⟨es, node, life, rfl, hl, ho, rfl⟩, h⟩
def b_tasks_of_B28 : dS := dTidy [4, 5, 6, 7, 8] ((dIf (dPT (dAndT (dTst (dOp dEq (dVar 4) (dK (.str "task")))) (dAndT (dTst (dOp dEq (dOp dIxA (dVar 8) (dK (.int 5))) (dVar 1))) (dTst (dOp dEq (dOp dIxA (dVar 8) (dK (.int 6))) (dVar 2)))))) (dDrop (dxAppP (dpVar 3) (dTupD (dCcons (dVar 5) (dCcons (dVar 6) (dCcons (dVar 7) (dCcons (dVar 8) dCnil))))))) dNext))
def b_tasks_of_L31 : dS := (dRet (dP (dCall (dL1Z fSortZ) (dCons (dVar 3) dNil))))
def b_tasks_of_L28 : dS := (dSeq (dPre [4, 5, 6, 7, 8] (dFor (dPI (dItems (dVar 0))) (dgTup 5 (dgCons (dgName 4) (dgCons (dgName 5) (dgCons (dgName 6) (dgCons (dgName 7) (dgCons (dgName 8) dgNil)))))) b_tasks_of_B28)) b_tasks_of_L31)
def b_tasks_of : dS := (dSeq (dSet 3 (dP (dLstD dCnil))) b_tasks_of_L28)

theorem mine_task {node : Str} {life : Int} {t : T} : mine node life (.task t) = if t.node = node ∧ t.life = life then [t] else [] := rfl
theorem sem_tasks_of : ∀ as Q, F_tasks_of as Q → b_tasks_of (fE Q) (args n_tasks_of.length as) := by
  rintro as Q ⟨_, _, ⟨es, node, life, rfl, hl, ho, rfl⟩, h⟩
  simp -dsimp -implicitDefEqProofs only [↓dNext.eq_1, ↓dBreak.eq_1, ↓dCont.eq_1, ↓dNever.eq_1, ↓dDrop.eq_1, ↓dRet.eq_1, ↓dRetN.eq_1, ↓dIf.eq_1, ↓dSet.eq_1, ↓dFrz.eq_1, ↓dUnp.eq_1, ↓dRetV.eq_1, ↓dAug.eq_1, ↓dSetI.eq_1, ↓dDelI.eq_1, ↓dFldS.eq_1, ↓dFldA.eq_1, ↓setAt.eq_1, ↓delAt.eq_1, ↓fldAt.eq_1, ↓dP.eq_1, ↓dPT.eq_1, ↓dPC.eq_1, ↓dPI.eq_1, ↓dXnil.eq_1, ↓dXcons.eq_1, ↓dxOp.eq_1, ↓dxOpL.eq_1, ↓dxUn.eq_1, ↓dxTst.eq_1, ↓truD.eq_1, ↓dxTru.eq_1, ↓dxAndT.eq_1, ↓dxOrT.eq_1, ↓dxNotT.eq_1, ↓dxAndE.eq_1, ↓dxOrE.eq_1, ↓dxNotE.eq_1, ↓dxIfE.eq_1, ↓dxTup.eq_1, ↓dxLst.eq_1, ↓dxCB.eq_1, ↓dxCall.eq_1, ↓dxMethP.eq_1, ↓dxMethV.eq_1, ↓dxMethN.eq_1, ↓dxAppP.eq_1, ↓dxAppV.eq_1, dxAppP.isL, ↓appAt.eq_1, ↓nmPl.eq_1, nmAt, ↓nmArg.eq_1, isOb, ↓dVar.eq_1, ↓dK.eq_1, ↓dOp.eq_1, ↓dUn.eq_1, ↓dNil.eq_1, ↓dCons.eq_1, ↓dCnil.eq_1, ↓dCcons.eq_1, ↓dCall.eq_1, ↓dTupD.eq_1, ↓dLstD.eq_1, ↓dTst.eq_1, ↓dTru.eq_1, ↓dAndT.eq_1, ↓dOrT.eq_1, ↓dNotT.eq_1, ↓dAndE.eq_1, ↓dOrE.eq_1, ↓dNotE.eq_1, ↓dIfE.eq_1, ↓dNewK.eq_1, ↓dFld.eq_1, ↓dYes.eq_1, ↓dIsi.eq_1, dTy, isiB, ↓dI.eq_1, ↓dIC.eq_1, ↓dAdd.eq_1, ↓dEq.eq_1, ↓dNe.eq_1, dIs, ↓dLtI.eq_1, ↓dLt.eq_1, ↓dLtB.eq_1, ↓dSub.eq_1, ↓dMul.eq_1, ↓dFdiv.eq_1, ↓dMod.eq_1, ↓dPow.eq_1, ↓dLe.eq_1, ↓dGt.eq_1, ↓dGe.eq_1, ↓dAddI.eq_1, ↓dNeg.eq_1, ↓dMulA.eq_1, ↓dInA.eq_1, ↓dInD.eq_1, ↓dIn.eq_1, keyIn, ↓dIxA.eq_1, ↓dGetD.eq_1, ↓dIx.eq_1, ↓dSl.eq_1, ↓dOnone.eq_1, ↓dOsome.eq_1, ↓dL1_ap, ↓dL2_ap, ↓dL1Z_ap, ↓fLen_ap, ↓fAbs_ap, ↓fInt_ap, ↓fStr_ap, ↓fMax_ap, ↓fMin_ap, ↓fList_ap, ↓fTup_ap, ↓fLenZ.eq_1, ↓fListZ.eq_1, ↓fSum_ap, ↓fAny_ap, ↓fAll_ap, ↓dpVar.eq_1, ↓dpFld.eq_1, ↓dpaNil.eq_1, ↓dpaP.eq_1, ↓dpaD.eq_1, ↓dPPA.eq_1, ↓dxaNil.eq_1, ↓dxaV.eq_1, ↓dxaD.eq_1, ↓dxaN.eq_1, ↓dgName.eq_1, ↓dgNil.eq_1, ↓dgCons_ap, ↓dgTup_ap, ↓dItems.eq_1, ↓dXItems.eq_1, ↓itemsD.eq_1, Z.own, Z.data, S.data, Z.dicv, S.dicv, Z.items, S.items, Z.mems, S.mems, Z.ownL, Z.dk, S.dk, Z.keep, Z.fin, kindT, keyD, keyT, keysD, keyA, atP, S.at, S.kids, S.wth, SF.pos, SF.get, SF.set, SF.len, SF.labs, SF.app, S.put, putP, repl, kill, killS, backM, ghM, argT, args, lendR, backR, apartAll, npre, apart, S.noT, S.tru, S.live, wipeS, List.getElem?_cons_zero, List.getElem?_cons_succ, List.getElem?_nil, List.set_cons_zero, List.set_cons_succ, List.cons_append, List.nil_append, List.replicate, List.length_cons, List.length_nil, List.map_cons, List.map_nil, List.drop_succ_cons, List.drop_zero, List.all_cons, List.all_nil, List.tail_cons, List.getD, Option.map_some, Option.map_none, Option.isSome_some, Option.isSome_none, Option.some.injEq, Bool.and_true, Bool.true_and, Bool.not_true, Bool.not_false, Bool.false_eq_true, Bool.and_self, Bool.or_false, Bool.false_or, if_true, if_false, ite_true, ite_false, and_true, true_and, true_or, or_true, decide_eq_true_eq, decide_true, decide_false, Bool.not_eq_true', Bool.not_eq_eq_eq_not, decide_not, not_false_eq_true, not_true_eq_false, ↓reduceIte, natlit, atI_lit, ↓dPre.eq_1, ↓fT_nx, ↓fT_rt, ↓fT_ex, Nat.reduceAdd, Int.reduceNeg, ↓eqD_int, ↓eqD_str, ↓eqD_bool, ↓dRng1.eq_1, ↓dRng2.eq_1, inV_ints, inV_strs, inV_int1, inV_str1, inV_nil, flat_ints, flat_strs, flatD, vOf, lookS, lookI, lookP, dropS, dropI, dropP, Nat.sub_self, List.replicate_zero, Option.getD_some, Option.getD_none, reduceCtorEq, List.append_nil, str_lit, sz_0, sz_1, sz_2, sz_3, sz_4, sz_5, sz_6, sz_7, sz_8, sz_9, sz_10, sz_11, sz_12, sz_13, sz_14, sz_15, sz_16, sz_17, sz_18, sz_19, sz_20, sz_21, sz_22, sz_23, sz_24, Nat.reduceSub, Nat.reduceMul, Nat.reduceDiv, Nat.reduceMod, Nat.reduceLT, Nat.reduceLeDiff, Nat.reduceEqDiff, Nat.reduceGT, Nat.reduceBEq, Int.reduceAdd, Int.reduceSub, Int.reduceMul, Int.reduceDiv, Int.reduceMod, Int.reduceLT, Int.reduceLE, Int.reduceEq, Int.reduceNe, Int.reduceGT, Int.reduceGE, Int.reduceToNat, String.reduceEq, String.reduceNe, and_false, false_and, ↓dCallF_eq, ↓dCallK_eq, ↓dxMake_eq, Option.isSome_map, ↓callA_eq, ↓dForS_eq, ↓dWhileS_eq, ↓dLc_eq, ↓dSeq_ap, ↓dTidy_ap, ↓dTidyN_ap, seqE_nx, seqE_rt, seqE_bk, seqE_ct, seqE_ex, tidyE_nx, tidyE_rt, tidyE_bk, tidyE_ct, tidyE_ex, tidyNE_nx, tidyNE_rt, tidyNE_bk, tidyNE_ct, tidyNE_ex, loopE_nx, loopE_rt, loopE_bk, loopE_ct, loopE_ex, ↓fE_nx, ↓fE_rt, ↓exSome, ↓rdS_ap, ↓fSort_ap, goE_nx, goE_rt, goE_bk, goE_ct, goE_ex, decide_eq_false_iff_not, ite_not, b_tasks_of, b_tasks_of_L28]
  refine for_pre (fun pre => [.v (.list (es.map encE)), .v (.str node), .v (.int life), .l ((pre.flatMap (mine node life)).map encT), .no, .no, .no, .no, .no]) rfl ?_ ?_
  · intro pre e post he N hN
    have hz := mine_len node life pre
    have hp : pre.length ≤ 1000 := by have := congrArg List.length he; simp at this; omega
    rw [List.flatMap_append, List.map_append, List.flatMap_singleton] at hN
    cases e with
    | node name b rev l => simp -dsimp -implicitDefEqProofs only [↓dNext.eq_1, ↓dBreak.eq_1, ↓dCont.eq_1, ↓dNever.eq_1, ↓dDrop.eq_1, ↓dRet.eq_1, ↓dRetN.eq_1, ↓dIf.eq_1, ↓dSet.eq_1, ↓dFrz.eq_1, ↓dUnp.eq_1, ↓dRetV.eq_1, ↓dAug.eq_1, ↓dSetI.eq_1, ↓dDelI.eq_1, ↓dFldS.eq_1, ↓dFldA.eq_1, ↓setAt.eq_1, ↓delAt.eq_1, ↓fldAt.eq_1, ↓dP.eq_1, ↓dPT.eq_1, ↓dPC.eq_1, ↓dPI.eq_1, ↓dXnil.eq_1, ↓dXcons.eq_1, ↓dxOp.eq_1, ↓dxOpL.eq_1, ↓dxUn.eq_1, ↓dxTst.eq_1, ↓truD.eq_1, ↓dxTru.eq_1, ↓dxAndT.eq_1, ↓dxOrT.eq_1, ↓dxNotT.eq_1, ↓dxAndE.eq_1, ↓dxOrE.eq_1, ↓dxNotE.eq_1, ↓dxIfE.eq_1, ↓dxTup.eq_1, ↓dxLst.eq_1, ↓dxCB.eq_1, ↓dxCall.eq_1, ↓dxMethP.eq_1, ↓dxMethV.eq_1, ↓dxMethN.eq_1, ↓dxAppP.eq_1, ↓dxAppV.eq_1, dxAppP.isL, ↓appAt.eq_1, ↓nmPl.eq_1, nmAt, ↓nmArg.eq_1, isOb, ↓dVar.eq_1, ↓dK.eq_1, ↓dOp.eq_1, ↓dUn.eq_1, ↓dNil.eq_1, ↓dCons.eq_1, ↓dCnil.eq_1, ↓dCcons.eq_1, ↓dCall.eq_1, ↓dTupD.eq_1, ↓dLstD.eq_1, ↓dTst.eq_1, ↓dTru.eq_1, ↓dAndT.eq_1, ↓dOrT.eq_1, ↓dNotT.eq_1, ↓dAndE.eq_1, ↓dOrE.eq_1, ↓dNotE.eq_1, ↓dIfE.eq_1, ↓dNewK.eq_1, ↓dFld.eq_1, ↓dYes.eq_1, ↓dIsi.eq_1, dTy, isiB, ↓dI.eq_1, ↓dIC.eq_1, ↓dAdd.eq_1, ↓dEq.eq_1, ↓dNe.eq_1, dIs, ↓dLtI.eq_1, ↓dLt.eq_1, ↓dLtB.eq_1, ↓dSub.eq_1, ↓dMul.eq_1, ↓dFdiv.eq_1, ↓dMod.eq_1, ↓dPow.eq_1, ↓dLe.eq_1, ↓dGt.eq_1, ↓dGe.eq_1, ↓dAddI.eq_1, ↓dNeg.eq_1, ↓dMulA.eq_1, ↓dInA.eq_1, ↓dInD.eq_1, ↓dIn.eq_1, keyIn, ↓dIxA.eq_1, ↓dGetD.eq_1, ↓dIx.eq_1, ↓dSl.eq_1, ↓dOnone.eq_1, ↓dOsome.eq_1, ↓dL1_ap, ↓dL2_ap, ↓dL1Z_ap, ↓fLen_ap, ↓fAbs_ap, ↓fInt_ap, ↓fStr_ap, ↓fMax_ap, ↓fMin_ap, ↓fList_ap, ↓fTup_ap, ↓fLenZ.eq_1, ↓fListZ.eq_1, ↓fSum_ap, ↓fAny_ap, ↓fAll_ap, ↓dpVar.eq_1, ↓dpFld.eq_1, ↓dpaNil.eq_1, ↓dpaP.eq_1, ↓dpaD.eq_1, ↓dPPA.eq_1, ↓dxaNil.eq_1, ↓dxaV.eq_1, ↓dxaD.eq_1, ↓dxaN.eq_1, ↓dgName.eq_1, ↓dgNil.eq_1, ↓dgCons_ap, ↓dgTup_ap, ↓dItems.eq_1, ↓dXItems.eq_1, ↓itemsD.eq_1, Z.own, Z.data, S.data, Z.dicv, S.dicv, Z.items, S.items, Z.mems, S.mems, Z.ownL, Z.dk, S.dk, Z.keep, Z.fin, kindT, keyD, keyT, keysD, keyA, atP, S.at, S.kids, S.wth, SF.pos, SF.get, SF.set, SF.len, SF.labs, SF.app, S.put, putP, repl, kill, killS, backM, ghM, argT, args, lendR, backR, apartAll, npre, apart, S.noT, S.tru, S.live, wipeS, List.getElem?_cons_zero, List.getElem?_cons_succ, List.getElem?_nil, List.set_cons_zero, List.set_cons_succ, List.cons_append, List.nil_append, List.replicate, List.length_cons, List.length_nil, List.map_cons, List.map_nil, List.drop_succ_cons, List.drop_zero, List.all_cons, List.all_nil, List.tail_cons, List.getD, Option.map_some, Option.map_none, Option.isSome_some, Option.isSome_none, Option.some.injEq, Bool.and_true, Bool.true_and, Bool.not_true, Bool.not_false, Bool.false_eq_true, Bool.and_self, Bool.or_false, Bool.false_or, if_true, if_false, ite_true, ite_false, and_true, true_and, true_or, or_true, decide_eq_true_eq, decide_true, decide_false, Bool.not_eq_true', Bool.not_eq_eq_eq_not, decide_not, not_false_eq_true, not_true_eq_false, ↓reduceIte, natlit, atI_lit, ↓dPre.eq_1, ↓fT_nx, ↓fT_rt, ↓fT_ex, Nat.reduceAdd, Int.reduceNeg, ↓eqD_int, ↓eqD_str, ↓eqD_bool, ↓dRng1.eq_1, ↓dRng2.eq_1, inV_ints, inV_strs, inV_int1, inV_str1, inV_nil, flat_ints, flat_strs, flatD, vOf, lookS, lookI, lookP, dropS, dropI, dropP, Nat.sub_self, List.replicate_zero, Option.getD_some, Option.getD_none, reduceCtorEq, List.append_nil, str_lit, sz_0, sz_1, sz_2, sz_3, sz_4, sz_5, sz_6, sz_7, sz_8, sz_9, sz_10, sz_11, sz_12, sz_13, sz_14, sz_15, sz_16, sz_17, sz_18, sz_19, sz_20, sz_21, sz_22, sz_23, sz_24, Nat.reduceSub, Nat.reduceMul, Nat.reduceDiv, Nat.reduceMod, Nat.reduceLT, Nat.reduceLeDiff, Nat.reduceEqDiff, Nat.reduceGT, Nat.reduceBEq, Int.reduceAdd, Int.reduceSub, Int.reduceMul, Int.reduceDiv, Int.reduceMod, Int.reduceLT, Int.reduceLE, Int.reduceEq, Int.reduceNe, Int.reduceGT, Int.reduceGE, Int.reduceToNat, String.reduceEq, String.reduceNe, and_false, false_and, ↓dCallF_eq, ↓dCallK_eq, ↓dxMake_eq, Option.isSome_map, ↓callA_eq, ↓dForS_eq, ↓dWhileS_eq, ↓dLc_eq, ↓dSeq_ap, ↓dTidy_ap, ↓dTidyN_ap, seqE_nx, seqE_rt, seqE_bk, seqE_ct, seqE_ex, tidyE_nx, tidyE_rt, tidyE_bk, tidyE_ct, tidyE_ex, tidyNE_nx, tidyNE_rt, tidyNE_bk, tidyNE_ct, tidyNE_ex, loopE_nx, loopE_rt, loopE_bk, loopE_ct, loopE_ex, ↓fE_nx, ↓fE_rt, ↓exSome, ↓rdS_ap, ↓fSort_ap, goE_nx, goE_rt, goE_bk, goE_ct, goE_ex, decide_eq_false_iff_not, ite_not, encE, b_tasks_of_B28]; simpa [mine] using hN
    | task t =>
      simp -dsimp -implicitDefEqProofs only [↓dNext.eq_1, ↓dBreak.eq_1, ↓dCont.eq_1, ↓dNever.eq_1, ↓dDrop.eq_1, ↓dRet.eq_1, ↓dRetN.eq_1, ↓dIf.eq_1, ↓dSet.eq_1, ↓dFrz.eq_1, ↓dUnp.eq_1, ↓dRetV.eq_1, ↓dAug.eq_1, ↓dSetI.eq_1, ↓dDelI.eq_1, ↓dFldS.eq_1, ↓dFldA.eq_1, ↓setAt.eq_1, ↓delAt.eq_1, ↓fldAt.eq_1, ↓dP.eq_1, ↓dPT.eq_1, ↓dPC.eq_1, ↓dPI.eq_1, ↓dXnil.eq_1, ↓dXcons.eq_1, ↓dxOp.eq_1, ↓dxOpL.eq_1, ↓dxUn.eq_1, ↓dxTst.eq_1, ↓truD.eq_1, ↓dxTru.eq_1, ↓dxAndT.eq_1, ↓dxOrT.eq_1, ↓dxNotT.eq_1, ↓dxAndE.eq_1, ↓dxOrE.eq_1, ↓dxNotE.eq_1, ↓dxIfE.eq_1, ↓dxTup.eq_1, ↓dxLst.eq_1, ↓dxCB.eq_1, ↓dxCall.eq_1, ↓dxMethP.eq_1, ↓dxMethV.eq_1, ↓dxMethN.eq_1, ↓dxAppP.eq_1, ↓dxAppV.eq_1, dxAppP.isL, ↓appAt.eq_1, ↓nmPl.eq_1, nmAt, ↓nmArg.eq_1, isOb, ↓dVar.eq_1, ↓dK.eq_1, ↓dOp.eq_1, ↓dUn.eq_1, ↓dNil.eq_1, ↓dCons.eq_1, ↓dCnil.eq_1, ↓dCcons.eq_1, ↓dCall.eq_1, ↓dTupD.eq_1, ↓dLstD.eq_1, ↓dTst.eq_1, ↓dTru.eq_1, ↓dAndT.eq_1, ↓dOrT.eq_1, ↓dNotT.eq_1, ↓dAndE.eq_1, ↓dOrE.eq_1, ↓dNotE.eq_1, ↓dIfE.eq_1, ↓dNewK.eq_1, ↓dFld.eq_1, ↓dYes.eq_1, ↓dIsi.eq_1, dTy, isiB, ↓dI.eq_1, ↓dIC.eq_1, ↓dAdd.eq_1, ↓dEq.eq_1, ↓dNe.eq_1, dIs, ↓dLtI.eq_1, ↓dLt.eq_1, ↓dLtB.eq_1, ↓dSub.eq_1, ↓dMul.eq_1, ↓dFdiv.eq_1, ↓dMod.eq_1, ↓dPow.eq_1, ↓dLe.eq_1, ↓dGt.eq_1, ↓dGe.eq_1, ↓dAddI.eq_1, ↓dNeg.eq_1, ↓dMulA.eq_1, ↓dInA.eq_1, ↓dInD.eq_1, ↓dIn.eq_1, keyIn, ↓dIxA.eq_1, ↓dGetD.eq_1, ↓dIx.eq_1, ↓dSl.eq_1, ↓dOnone.eq_1, ↓dOsome.eq_1, ↓dL1_ap, ↓dL2_ap, ↓dL1Z_ap, ↓fLen_ap, ↓fAbs_ap, ↓fInt_ap, ↓fStr_ap, ↓fMax_ap, ↓fMin_ap, ↓fList_ap, ↓fTup_ap, ↓fLenZ.eq_1, ↓fListZ.eq_1, ↓fSum_ap, ↓fAny_ap, ↓fAll_ap, ↓dpVar.eq_1, ↓dpFld.eq_1, ↓dpaNil.eq_1, ↓dpaP.eq_1, ↓dpaD.eq_1, ↓dPPA.eq_1, ↓dxaNil.eq_1, ↓dxaV.eq_1, ↓dxaD.eq_1, ↓dxaN.eq_1, ↓dgName.eq_1, ↓dgNil.eq_1, ↓dgCons_ap, ↓dgTup_ap, ↓dItems.eq_1, ↓dXItems.eq_1, ↓itemsD.eq_1, Z.own, Z.data, S.data, Z.dicv, S.dicv, Z.items, S.items, Z.mems, S.mems, Z.ownL, Z.dk, S.dk, Z.keep, Z.fin, kindT, keyD, keyT, keysD, keyA, atP, S.at, S.kids, S.wth, SF.pos, SF.get, SF.set, SF.len, SF.labs, SF.app, S.put, putP, repl, kill, killS, backM, ghM, argT, args, lendR, backR, apartAll, npre, apart, S.noT, S.tru, S.live, wipeS, List.getElem?_cons_zero, List.getElem?_cons_succ, List.getElem?_nil, List.set_cons_zero, List.set_cons_succ, List.cons_append, List.nil_append, List.replicate, List.length_cons, List.length_nil, List.map_cons, List.map_nil, List.drop_succ_cons, List.drop_zero, List.all_cons, List.all_nil, List.tail_cons, List.getD, Option.map_some, Option.map_none, Option.isSome_some, Option.isSome_none, Option.some.injEq, Bool.and_true, Bool.true_and, Bool.not_true, Bool.not_false, Bool.false_eq_true, Bool.and_self, Bool.or_false, Bool.false_or, if_true, if_false, ite_true, ite_false, and_true, true_and, true_or, or_true, decide_eq_true_eq, decide_true, decide_false, Bool.not_eq_true', Bool.not_eq_eq_eq_not, decide_not, not_false_eq_true, not_true_eq_false, ↓reduceIte, natlit, atI_lit, ↓dPre.eq_1, ↓fT_nx, ↓fT_rt, ↓fT_ex, Nat.reduceAdd, Int.reduceNeg, ↓eqD_int, ↓eqD_str, ↓eqD_bool, ↓dRng1.eq_1, ↓dRng2.eq_1, inV_ints, inV_strs, inV_int1, inV_str1, inV_nil, flat_ints, flat_strs, flatD, vOf, lookS, lookI, lookP, dropS, dropI, dropP, Nat.sub_self, List.replicate_zero, Option.getD_some, Option.getD_none, reduceCtorEq, List.append_nil, str_lit, sz_0, sz_1, sz_2, sz_3, sz_4, sz_5, sz_6, sz_7, sz_8, sz_9, sz_10, sz_11, sz_12, sz_13, sz_14, sz_15, sz_16, sz_17, sz_18, sz_19, sz_20, sz_21, sz_22, sz_23, sz_24, Nat.reduceSub, Nat.reduceMul, Nat.reduceDiv, Nat.reduceMod, Nat.reduceLT, Nat.reduceLeDiff, Nat.reduceEqDiff, Nat.reduceGT, Nat.reduceBEq, Int.reduceAdd, Int.reduceSub, Int.reduceMul, Int.reduceDiv, Int.reduceMod, Int.reduceLT, Int.reduceLE, Int.reduceEq, Int.reduceNe, Int.reduceGT, Int.reduceGE, Int.reduceToNat, String.reduceEq, String.reduceNe, and_false, false_and, ↓dCallF_eq, ↓dCallK_eq, ↓dxMake_eq, Option.isSome_map, ↓callA_eq, ↓dForS_eq, ↓dWhileS_eq, ↓dLc_eq, ↓dSeq_ap, ↓dTidy_ap, ↓dTidyN_ap, seqE_nx, seqE_rt, seqE_bk, seqE_ct, seqE_ex, tidyE_nx, tidyE_rt, tidyE_bk, tidyE_ct, tidyE_ex, tidyNE_nx, tidyNE_rt, tidyNE_bk, tidyNE_ct, tidyNE_ex, loopE_nx, loopE_rt, loopE_bk, loopE_ct, loopE_ex, ↓fE_nx, ↓fE_rt, ↓exSome, ↓rdS_ap, ↓fSort_ap, goE_nx, goE_rt, goE_bk, goE_ct, goE_ex, decide_eq_false_iff_not, ite_not, encE, b_tasks_of_B28]
      rw [mine_task] at hN
      by_cases c : t.node = node <;> by_cases c2 : t.life = life <;> simp only [c, c2, if_true, if_false, and_true, and_false, List.map_nil, List.append_nil] at hN ⊢ <;> first | exact hN | exact ⟨szm (by omega), hN⟩
  · simp -dsimp -implicitDefEqProofs only [↓dNext.eq_1, ↓dBreak.eq_1, ↓dCont.eq_1, ↓dNever.eq_1, ↓dDrop.eq_1, ↓dRet.eq_1, ↓dRetN.eq_1, ↓dIf.eq_1, ↓dSet.eq_1, ↓dFrz.eq_1, ↓dUnp.eq_1, ↓dRetV.eq_1, ↓dAug.eq_1, ↓dSetI.eq_1, ↓dDelI.eq_1, ↓dFldS.eq_1, ↓dFldA.eq_1, ↓setAt.eq_1, ↓delAt.eq_1, ↓fldAt.eq_1, ↓dP.eq_1, ↓dPT.eq_1, ↓dPC.eq_1, ↓dPI.eq_1, ↓dXnil.eq_1, ↓dXcons.eq_1, ↓dxOp.eq_1, ↓dxOpL.eq_1, ↓dxUn.eq_1, ↓dxTst.eq_1, ↓truD.eq_1, ↓dxTru.eq_1, ↓dxAndT.eq_1, ↓dxOrT.eq_1, ↓dxNotT.eq_1, ↓dxAndE.eq_1, ↓dxOrE.eq_1, ↓dxNotE.eq_1, ↓dxIfE.eq_1, ↓dxTup.eq_1, ↓dxLst.eq_1, ↓dxCB.eq_1, ↓dxCall.eq_1, ↓dxMethP.eq_1, ↓dxMethV.eq_1, ↓dxMethN.eq_1, ↓dxAppP.eq_1, ↓dxAppV.eq_1, dxAppP.isL, ↓appAt.eq_1, ↓nmPl.eq_1, nmAt, ↓nmArg.eq_1, isOb, ↓dVar.eq_1, ↓dK.eq_1, ↓dOp.eq_1, ↓dUn.eq_1, ↓dNil.eq_1, ↓dCons.eq_1, ↓dCnil.eq_1, ↓dCcons.eq_1, ↓dCall.eq_1, ↓dTupD.eq_1, ↓dLstD.eq_1, ↓dTst.eq_1, ↓dTru.eq_1, ↓dAndT.eq_1, ↓dOrT.eq_1, ↓dNotT.eq_1, ↓dAndE.eq_1, ↓dOrE.eq_1, ↓dNotE.eq_1, ↓dIfE.eq_1, ↓dNewK.eq_1, ↓dFld.eq_1, ↓dYes.eq_1, ↓dIsi.eq_1, dTy, isiB, ↓dI.eq_1, ↓dIC.eq_1, ↓dAdd.eq_1, ↓dEq.eq_1, ↓dNe.eq_1, dIs, ↓dLtI.eq_1, ↓dLt.eq_1, ↓dLtB.eq_1, ↓dSub.eq_1, ↓dMul.eq_1, ↓dFdiv.eq_1, ↓dMod.eq_1, ↓dPow.eq_1, ↓dLe.eq_1, ↓dGt.eq_1, ↓dGe.eq_1, ↓dAddI.eq_1, ↓dNeg.eq_1, ↓dMulA.eq_1, ↓dInA.eq_1, ↓dInD.eq_1, ↓dIn.eq_1, keyIn, ↓dIxA.eq_1, ↓dGetD.eq_1, ↓dIx.eq_1, ↓dSl.eq_1, ↓dOnone.eq_1, ↓dOsome.eq_1, ↓dL1_ap, ↓dL2_ap, ↓dL1Z_ap, ↓fLen_ap, ↓fAbs_ap, ↓fInt_ap, ↓fStr_ap, ↓fMax_ap, ↓fMin_ap, ↓fList_ap, ↓fTup_ap, ↓fLenZ.eq_1, ↓fListZ.eq_1, ↓fSum_ap, ↓fAny_ap, ↓fAll_ap, ↓dpVar.eq_1, ↓dpFld.eq_1, ↓dpaNil.eq_1, ↓dpaP.eq_1, ↓dpaD.eq_1, ↓dPPA.eq_1, ↓dxaNil.eq_1, ↓dxaV.eq_1, ↓dxaD.eq_1, ↓dxaN.eq_1, ↓dgName.eq_1, ↓dgNil.eq_1, ↓dgCons_ap, ↓dgTup_ap, ↓dItems.eq_1, ↓dXItems.eq_1, ↓itemsD.eq_1, Z.own, Z.data, S.data, Z.dicv, S.dicv, Z.items, S.items, Z.mems, S.mems, Z.ownL, Z.dk, S.dk, Z.keep, Z.fin, kindT, keyD, keyT, keysD, keyA, atP, S.at, S.kids, S.wth, SF.pos, SF.get, SF.set, SF.len, SF.labs, SF.app, S.put, putP, repl, kill, killS, backM, ghM, argT, args, lendR, backR, apartAll, npre, apart, S.noT, S.tru, S.live, wipeS, List.getElem?_cons_zero, List.getElem?_cons_succ, List.getElem?_nil, List.set_cons_zero, List.set_cons_succ, List.cons_append, List.nil_append, List.replicate, List.length_cons, List.length_nil, List.map_cons, List.map_nil, List.drop_succ_cons, List.drop_zero, List.all_cons, List.all_nil, List.tail_cons, List.getD, Option.map_some, Option.map_none, Option.isSome_some, Option.isSome_none, Option.some.injEq, Bool.and_true, Bool.true_and, Bool.not_true, Bool.not_false, Bool.false_eq_true, Bool.and_self, Bool.or_false, Bool.false_or, if_true, if_false, ite_true, ite_false, and_true, true_and, true_or, or_true, decide_eq_true_eq, decide_true, decide_false, Bool.not_eq_true', Bool.not_eq_eq_eq_not, decide_not, not_false_eq_true, not_true_eq_false, ↓reduceIte, natlit, atI_lit, ↓dPre.eq_1, ↓fT_nx, ↓fT_rt, ↓fT_ex, Nat.reduceAdd, Int.reduceNeg, ↓eqD_int, ↓eqD_str, ↓eqD_bool, ↓dRng1.eq_1, ↓dRng2.eq_1, inV_ints, inV_strs, inV_int1, inV_str1, inV_nil, flat_ints, flat_strs, flatD, vOf, lookS, lookI, lookP, dropS, dropI, dropP, Nat.sub_self, List.replicate_zero, Option.getD_some, Option.getD_none, reduceCtorEq, List.append_nil, str_lit, sz_0, sz_1, sz_2, sz_3, sz_4, sz_5, sz_6, sz_7, sz_8, sz_9, sz_10, sz_11, sz_12, sz_13, sz_14, sz_15, sz_16, sz_17, sz_18, sz_19, sz_20, sz_21, sz_22, sz_23, sz_24, Nat.reduceSub, Nat.reduceMul, Nat.reduceDiv, Nat.reduceMod, Nat.reduceLT, Nat.reduceLeDiff, Nat.reduceEqDiff, Nat.reduceGT, Nat.reduceBEq, Int.reduceAdd, Int.reduceSub, Int.reduceMul, Int.reduceDiv, Int.reduceMod, Int.reduceLT, Int.reduceLE, Int.reduceEq, Int.reduceNe, Int.reduceGT, Int.reduceGE, Int.reduceToNat, String.reduceEq, String.reduceNe, and_false, false_and, ↓dCallF_eq, ↓dCallK_eq, ↓dxMake_eq, Option.isSome_map, ↓callA_eq, ↓dForS_eq, ↓dWhileS_eq, ↓dLc_eq, ↓dSeq_ap, ↓dTidy_ap, ↓dTidyN_ap, seqE_nx, seqE_rt, seqE_bk, seqE_ct, seqE_ex, tidyE_nx, tidyE_rt, tidyE_bk, tidyE_ct, tidyE_ex, tidyNE_nx, tidyNE_rt, tidyNE_bk, tidyNE_ct, tidyNE_ex, loopE_nx, loopE_rt, loopE_bk, loopE_ct, loopE_ex, ↓fE_nx, ↓fE_rt, ↓exSome, ↓rdS_ap, ↓fSort_ap, goE_nx, goE_rt, goE_bk, goE_ct, goE_ex, decide_eq_false_iff_not, ite_not, b_tasks_of_L31, fSortZ, fSort]
    refine ⟨sort_ok (Nat.le_trans (mine_len node life es) hl) (mine_ok ho), ?_⟩
    rw [sortT_enc]
    exact h
abbrev encU (t : T) : D := .tuple [.str t.name, .int t.born, .str t.txt, .int t.size]
def wantU (xs : List (Str × Int)) (cs : List Int) (t : T) : Bool := decide (t.st = "running") && (decide (t.stop = 0) && (decide ((alook xs t.name).getD 0 = 0) && !decide (t.born ∈ cs)))
def F_to_run : FT := detT 3 fun ρ z ρ' => ∃ (ts : List T) (xs : List (Str × Int)) (cs : List Int), ρ = [.v (.list (ts.map encT)), runs xs, .v (.list (cs.map .int))] ∧ (ts.length ≤ 1000) ∧ z = .n (.l ((ts.filter (wantU xs cs)).map encU)) ∧ ρ' = [.no, runs xs, .no]
theorem cl_to_run {ts : List T} {xs : List (Str × Int)} {cs : List Int} (hl : ts.length ≤ 1000) {Q : Z → List S → Prop} {E : Exn → List S → Prop} (h : Q (.n (.l ((ts.filter (wantU xs cs)).map encU))) [.no, runs xs, .no]) : F_to_run [.v (.list (ts.map encT)), runs xs, .v (.list (cs.map .int))] Q E := ⟨rfl, _, _, ⟨ts, xs, cs, rfl, hl, rfl, rfl⟩, h⟩
def b_to_run_B34 : dS := dTidy [4, 5, 6, 7] ((dIf (dPT (dAndT (dTst (dOp dEq (dOp dIxA (dVar 7) (dK (.int 3))) (dK (.str "running")))) (dTst (dOp dEq (dOp dIxA (dVar 7) (dK (.int 4))) (dK (.int 0)))))) (dIf (dxAndT (dxTst (dxOp dEq (dxMethP 0 F_Runs_born_of dd_Runs_born_of (dpVar 1) (dpaD (dVar 4) dpaNil)) (dP (dK (.int 0))))) (dPT (dTst (dOp (dInA true) (dVar 5) (dVar 2))))) (dDrop (dxAppP (dpVar 3) (dTupD (dCcons (dVar 4) (dCcons (dVar 5) (dCcons (dOp dIxA (dVar 7) (dK (.int 1))) (dCcons (dOp dIxA (dVar 7) (dK (.int 2))) dCnil))))))) dNext) dNext))
def b_to_run_L38 : dS := (dRetV 3)
def b_to_run_L34 : dS := (dSeq (dPre [4, 5, 6, 7] (dFor (dPI (dItems (dVar 0))) (dgTup 4 (dgCons (dgName 4) (dgCons (dgName 5) (dgCons (dgName 6) (dgCons (dgName 7) dgNil))))) b_to_run_B34)) b_to_run_L38)
def b_to_run : dS := (dSeq (dSet 3 (dP (dLstD dCnil))) b_to_run_L34)

theorem sem_to_run : ∀ ρ Q Ed, F_to_run ρ Q Ed → ∀ g, b_to_run (fT m_to_run n_to_run.length g Q Ed) (argT m_to_run n_to_run.length g ρ) := by
  rintro ρ Q Ed ⟨_, z, ρ', ⟨ts, xs, cs, rfl, hl, rfl, rfl⟩, h⟩ g
  simp -dsimp -implicitDefEqProofs only [↓dNext.eq_1, ↓dBreak.eq_1, ↓dCont.eq_1, ↓dNever.eq_1, ↓dDrop.eq_1, ↓dRet.eq_1, ↓dRetN.eq_1, ↓dIf.eq_1, ↓dSet.eq_1, ↓dFrz.eq_1, ↓dUnp.eq_1, ↓dRetV.eq_1, ↓dAug.eq_1, ↓dSetI.eq_1, ↓dDelI.eq_1, ↓dFldS.eq_1, ↓dFldA.eq_1, ↓setAt.eq_1, ↓delAt.eq_1, ↓fldAt.eq_1, ↓dP.eq_1, ↓dPT.eq_1, ↓dPC.eq_1, ↓dPI.eq_1, ↓dXnil.eq_1, ↓dXcons.eq_1, ↓dxOp.eq_1, ↓dxOpL.eq_1, ↓dxUn.eq_1, ↓dxTst.eq_1, ↓truD.eq_1, ↓dxTru.eq_1, ↓dxAndT.eq_1, ↓dxOrT.eq_1, ↓dxNotT.eq_1, ↓dxAndE.eq_1, ↓dxOrE.eq_1, ↓dxNotE.eq_1, ↓dxIfE.eq_1, ↓dxTup.eq_1, ↓dxLst.eq_1, ↓dxCB.eq_1, ↓dxCall.eq_1, ↓dxMethP.eq_1, ↓dxMethV.eq_1, ↓dxMethN.eq_1, ↓dxAppP.eq_1, ↓dxAppV.eq_1, dxAppP.isL, ↓appAt.eq_1, ↓nmPl.eq_1, nmAt, ↓nmArg.eq_1, isOb, ↓dVar.eq_1, ↓dK.eq_1, ↓dOp.eq_1, ↓dUn.eq_1, ↓dNil.eq_1, ↓dCons.eq_1, ↓dCnil.eq_1, ↓dCcons.eq_1, ↓dCall.eq_1, ↓dTupD.eq_1, ↓dLstD.eq_1, ↓dTst.eq_1, ↓dTru.eq_1, ↓dAndT.eq_1, ↓dOrT.eq_1, ↓dNotT.eq_1, ↓dAndE.eq_1, ↓dOrE.eq_1, ↓dNotE.eq_1, ↓dIfE.eq_1, ↓dNewK.eq_1, ↓dFld.eq_1, ↓dYes.eq_1, ↓dIsi.eq_1, dTy, isiB, ↓dI.eq_1, ↓dIC.eq_1, ↓dAdd.eq_1, ↓dEq.eq_1, ↓dNe.eq_1, dIs, ↓dLtI.eq_1, ↓dLt.eq_1, ↓dLtB.eq_1, ↓dSub.eq_1, ↓dMul.eq_1, ↓dFdiv.eq_1, ↓dMod.eq_1, ↓dPow.eq_1, ↓dLe.eq_1, ↓dGt.eq_1, ↓dGe.eq_1, ↓dAddI.eq_1, ↓dNeg.eq_1, ↓dMulA.eq_1, ↓dInA.eq_1, ↓dInD.eq_1, ↓dIn.eq_1, keyIn, ↓dIxA.eq_1, ↓dGetD.eq_1, ↓dIx.eq_1, ↓dSl.eq_1, ↓dOnone.eq_1, ↓dOsome.eq_1, ↓dL1_ap, ↓dL2_ap, ↓dL1Z_ap, ↓fLen_ap, ↓fAbs_ap, ↓fInt_ap, ↓fStr_ap, ↓fMax_ap, ↓fMin_ap, ↓fList_ap, ↓fTup_ap, ↓fLenZ.eq_1, ↓fListZ.eq_1, ↓fSum_ap, ↓fAny_ap, ↓fAll_ap, ↓dpVar.eq_1, ↓dpFld.eq_1, ↓dpaNil.eq_1, ↓dpaP.eq_1, ↓dpaD.eq_1, ↓dPPA.eq_1, ↓dxaNil.eq_1, ↓dxaV.eq_1, ↓dxaD.eq_1, ↓dxaN.eq_1, ↓dgName.eq_1, ↓dgNil.eq_1, ↓dgCons_ap, ↓dgTup_ap, ↓dItems.eq_1, ↓dXItems.eq_1, ↓itemsD.eq_1, Z.own, Z.data, S.data, Z.dicv, S.dicv, Z.items, S.items, Z.mems, S.mems, Z.ownL, Z.dk, S.dk, Z.keep, Z.fin, kindT, keyD, keyT, keysD, keyA, atP, S.at, S.kids, S.wth, SF.pos, SF.get, SF.set, SF.len, SF.labs, SF.app, S.put, putP, repl, kill, killS, backM, ghM, argT, args, lendR, backR, apartAll, npre, apart, S.noT, S.tru, S.live, wipeS, List.getElem?_cons_zero, List.getElem?_cons_succ, List.getElem?_nil, List.set_cons_zero, List.set_cons_succ, List.cons_append, List.nil_append, List.replicate, List.length_cons, List.length_nil, List.map_cons, List.map_nil, List.drop_succ_cons, List.drop_zero, List.all_cons, List.all_nil, List.tail_cons, List.getD, Option.map_some, Option.map_none, Option.isSome_some, Option.isSome_none, Option.some.injEq, Bool.and_true, Bool.true_and, Bool.not_true, Bool.not_false, Bool.false_eq_true, Bool.and_self, Bool.or_false, Bool.false_or, if_true, if_false, ite_true, ite_false, and_true, true_and, true_or, or_true, decide_eq_true_eq, decide_true, decide_false, Bool.not_eq_true', Bool.not_eq_eq_eq_not, decide_not, not_false_eq_true, not_true_eq_false, ↓reduceIte, natlit, atI_lit, ↓dPre.eq_1, ↓fT_nx, ↓fT_rt, ↓fT_ex, Nat.reduceAdd, Int.reduceNeg, ↓eqD_int, ↓eqD_str, ↓eqD_bool, ↓dRng1.eq_1, ↓dRng2.eq_1, inV_ints, inV_strs, inV_int1, inV_str1, inV_nil, flat_ints, flat_strs, flatD, vOf, lookS, lookI, lookP, dropS, dropI, dropP, Nat.sub_self, List.replicate_zero, Option.getD_some, Option.getD_none, reduceCtorEq, List.append_nil, str_lit, sz_0, sz_1, sz_2, sz_3, sz_4, sz_5, sz_6, sz_7, sz_8, sz_9, sz_10, sz_11, sz_12, sz_13, sz_14, sz_15, sz_16, sz_17, sz_18, sz_19, sz_20, sz_21, sz_22, sz_23, sz_24, Nat.reduceSub, Nat.reduceMul, Nat.reduceDiv, Nat.reduceMod, Nat.reduceLT, Nat.reduceLeDiff, Nat.reduceEqDiff, Nat.reduceGT, Nat.reduceBEq, Int.reduceAdd, Int.reduceSub, Int.reduceMul, Int.reduceDiv, Int.reduceMod, Int.reduceLT, Int.reduceLE, Int.reduceEq, Int.reduceNe, Int.reduceGT, Int.reduceGE, Int.reduceToNat, String.reduceEq, String.reduceNe, and_false, false_and, ↓dCallF_eq, ↓dCallK_eq, ↓dxMake_eq, Option.isSome_map, ↓callA_eq, ↓dForS_eq, ↓dWhileS_eq, ↓dLc_eq, ↓dSeq_ap, ↓dTidy_ap, ↓dTidyN_ap, seqE_nx, seqE_rt, seqE_bk, seqE_ct, seqE_ex, tidyE_nx, tidyE_rt, tidyE_bk, tidyE_ct, tidyE_ex, tidyNE_nx, tidyNE_rt, tidyNE_bk, tidyNE_ct, tidyNE_ex, loopE_nx, loopE_rt, loopE_bk, loopE_ct, loopE_ex, ↓fE_nx, ↓fE_rt, ↓exSome, ↓rdS_ap, ↓fSort_ap, goE_nx, goE_rt, goE_bk, goE_ct, goE_ex, decide_eq_false_iff_not, ite_not, b_to_run, b_to_run_L34]
  refine for_pre (fun pre => [.v (.list (ts.map encT)), runs xs, .v (.list (cs.map .int)), .l ((pre.filter (wantU xs cs)).map encU), .no, .no, .no, .no, .gh (g 1) 1 []]) rfl ?_ ?_
  · intro pre t post he N hN
    have hp : pre.length ≤ 1000 := by have := congrArg List.length he; simp at this; omega
    have hz := List.length_filter_le (wantU xs cs) pre
    rw [List.filter_append, List.map_append] at hN
    simp -dsimp -implicitDefEqProofs only [↓dNext.eq_1, ↓dBreak.eq_1, ↓dCont.eq_1, ↓dNever.eq_1, ↓dDrop.eq_1, ↓dRet.eq_1, ↓dRetN.eq_1, ↓dIf.eq_1, ↓dSet.eq_1, ↓dFrz.eq_1, ↓dUnp.eq_1, ↓dRetV.eq_1, ↓dAug.eq_1, ↓dSetI.eq_1, ↓dDelI.eq_1, ↓dFldS.eq_1, ↓dFldA.eq_1, ↓setAt.eq_1, ↓delAt.eq_1, ↓fldAt.eq_1, ↓dP.eq_1, ↓dPT.eq_1, ↓dPC.eq_1, ↓dPI.eq_1, ↓dXnil.eq_1, ↓dXcons.eq_1, ↓dxOp.eq_1, ↓dxOpL.eq_1, ↓dxUn.eq_1, ↓dxTst.eq_1, ↓truD.eq_1, ↓dxTru.eq_1, ↓dxAndT.eq_1, ↓dxOrT.eq_1, ↓dxNotT.eq_1, ↓dxAndE.eq_1, ↓dxOrE.eq_1, ↓dxNotE.eq_1, ↓dxIfE.eq_1, ↓dxTup.eq_1, ↓dxLst.eq_1, ↓dxCB.eq_1, ↓dxCall.eq_1, ↓dxMethP.eq_1, ↓dxMethV.eq_1, ↓dxMethN.eq_1, ↓dxAppP.eq_1, ↓dxAppV.eq_1, dxAppP.isL, ↓appAt.eq_1, ↓nmPl.eq_1, nmAt, ↓nmArg.eq_1, isOb, ↓dVar.eq_1, ↓dK.eq_1, ↓dOp.eq_1, ↓dUn.eq_1, ↓dNil.eq_1, ↓dCons.eq_1, ↓dCnil.eq_1, ↓dCcons.eq_1, ↓dCall.eq_1, ↓dTupD.eq_1, ↓dLstD.eq_1, ↓dTst.eq_1, ↓dTru.eq_1, ↓dAndT.eq_1, ↓dOrT.eq_1, ↓dNotT.eq_1, ↓dAndE.eq_1, ↓dOrE.eq_1, ↓dNotE.eq_1, ↓dIfE.eq_1, ↓dNewK.eq_1, ↓dFld.eq_1, ↓dYes.eq_1, ↓dIsi.eq_1, dTy, isiB, ↓dI.eq_1, ↓dIC.eq_1, ↓dAdd.eq_1, ↓dEq.eq_1, ↓dNe.eq_1, dIs, ↓dLtI.eq_1, ↓dLt.eq_1, ↓dLtB.eq_1, ↓dSub.eq_1, ↓dMul.eq_1, ↓dFdiv.eq_1, ↓dMod.eq_1, ↓dPow.eq_1, ↓dLe.eq_1, ↓dGt.eq_1, ↓dGe.eq_1, ↓dAddI.eq_1, ↓dNeg.eq_1, ↓dMulA.eq_1, ↓dInA.eq_1, ↓dInD.eq_1, ↓dIn.eq_1, keyIn, ↓dIxA.eq_1, ↓dGetD.eq_1, ↓dIx.eq_1, ↓dSl.eq_1, ↓dOnone.eq_1, ↓dOsome.eq_1, ↓dL1_ap, ↓dL2_ap, ↓dL1Z_ap, ↓fLen_ap, ↓fAbs_ap, ↓fInt_ap, ↓fStr_ap, ↓fMax_ap, ↓fMin_ap, ↓fList_ap, ↓fTup_ap, ↓fLenZ.eq_1, ↓fListZ.eq_1, ↓fSum_ap, ↓fAny_ap, ↓fAll_ap, ↓dpVar.eq_1, ↓dpFld.eq_1, ↓dpaNil.eq_1, ↓dpaP.eq_1, ↓dpaD.eq_1, ↓dPPA.eq_1, ↓dxaNil.eq_1, ↓dxaV.eq_1, ↓dxaD.eq_1, ↓dxaN.eq_1, ↓dgName.eq_1, ↓dgNil.eq_1, ↓dgCons_ap, ↓dgTup_ap, ↓dItems.eq_1, ↓dXItems.eq_1, ↓itemsD.eq_1, Z.own, Z.data, S.data, Z.dicv, S.dicv, Z.items, S.items, Z.mems, S.mems, Z.ownL, Z.dk, S.dk, Z.keep, Z.fin, kindT, keyD, keyT, keysD, keyA, atP, S.at, S.kids, S.wth, SF.pos, SF.get, SF.set, SF.len, SF.labs, SF.app, S.put, putP, repl, kill, killS, backM, ghM, argT, args, lendR, backR, apartAll, npre, apart, S.noT, S.tru, S.live, wipeS, List.getElem?_cons_zero, List.getElem?_cons_succ, List.getElem?_nil, List.set_cons_zero, List.set_cons_succ, List.cons_append, List.nil_append, List.replicate, List.length_cons, List.length_nil, List.map_cons, List.map_nil, List.drop_succ_cons, List.drop_zero, List.all_cons, List.all_nil, List.tail_cons, List.getD, Option.map_some, Option.map_none, Option.isSome_some, Option.isSome_none, Option.some.injEq, Bool.and_true, Bool.true_and, Bool.not_true, Bool.not_false, Bool.false_eq_true, Bool.and_self, Bool.or_false, Bool.false_or, if_true, if_false, ite_true, ite_false, and_true, true_and, true_or, or_true, decide_eq_true_eq, decide_true, decide_false, Bool.not_eq_true', Bool.not_eq_eq_eq_not, decide_not, not_false_eq_true, not_true_eq_false, ↓reduceIte, natlit, atI_lit, ↓dPre.eq_1, ↓fT_nx, ↓fT_rt, ↓fT_ex, Nat.reduceAdd, Int.reduceNeg, ↓eqD_int, ↓eqD_str, ↓eqD_bool, ↓dRng1.eq_1, ↓dRng2.eq_1, inV_ints, inV_strs, inV_int1, inV_str1, inV_nil, flat_ints, flat_strs, flatD, vOf, lookS, lookI, lookP, dropS, dropI, dropP, Nat.sub_self, List.replicate_zero, Option.getD_some, Option.getD_none, reduceCtorEq, List.append_nil, str_lit, sz_0, sz_1, sz_2, sz_3, sz_4, sz_5, sz_6, sz_7, sz_8, sz_9, sz_10, sz_11, sz_12, sz_13, sz_14, sz_15, sz_16, sz_17, sz_18, sz_19, sz_20, sz_21, sz_22, sz_23, sz_24, Nat.reduceSub, Nat.reduceMul, Nat.reduceDiv, Nat.reduceMod, Nat.reduceLT, Nat.reduceLeDiff, Nat.reduceEqDiff, Nat.reduceGT, Nat.reduceBEq, Int.reduceAdd, Int.reduceSub, Int.reduceMul, Int.reduceDiv, Int.reduceMod, Int.reduceLT, Int.reduceLE, Int.reduceEq, Int.reduceNe, Int.reduceGT, Int.reduceGE, Int.reduceToNat, String.reduceEq, String.reduceNe, and_false, false_and, ↓dCallF_eq, ↓dCallK_eq, ↓dxMake_eq, Option.isSome_map, ↓callA_eq, ↓dForS_eq, ↓dWhileS_eq, ↓dLc_eq, ↓dSeq_ap, ↓dTidy_ap, ↓dTidyN_ap, seqE_nx, seqE_rt, seqE_bk, seqE_ct, seqE_ex, tidyE_nx, tidyE_rt, tidyE_bk, tidyE_ct, tidyE_ex, tidyNE_nx, tidyNE_rt, tidyNE_bk, tidyNE_ct, tidyNE_ex, loopE_nx, loopE_rt, loopE_bk, loopE_ct, loopE_ex, ↓fE_nx, ↓fE_rt, ↓exSome, ↓rdS_ap, ↓fSort_ap, goE_nx, goE_rt, goE_bk, goE_ct, goE_ex, decide_eq_false_iff_not, ite_not, b_to_run_B34]
    by_cases c1 : t.st = "running"
    case neg => rw [if_neg c1]; simpa [wantU, c1] using hN
    rw [if_pos c1]
    by_cases c2 : t.stop = 0
    case neg => rw [if_neg c2]; simpa [wantU, c2] using hN
    rw [if_pos c2]
    refine callS_of (by repeat' (first | exact True.intro | rfl | (refine ⟨?_, ?_⟩))) (cl_Runs_born_of ?_)
    simp -dsimp -implicitDefEqProofs only [↓dNext.eq_1, ↓dBreak.eq_1, ↓dCont.eq_1, ↓dNever.eq_1, ↓dDrop.eq_1, ↓dRet.eq_1, ↓dRetN.eq_1, ↓dIf.eq_1, ↓dSet.eq_1, ↓dFrz.eq_1, ↓dUnp.eq_1, ↓dRetV.eq_1, ↓dAug.eq_1, ↓dSetI.eq_1, ↓dDelI.eq_1, ↓dFldS.eq_1, ↓dFldA.eq_1, ↓setAt.eq_1, ↓delAt.eq_1, ↓fldAt.eq_1, ↓dP.eq_1, ↓dPT.eq_1, ↓dPC.eq_1, ↓dPI.eq_1, ↓dXnil.eq_1, ↓dXcons.eq_1, ↓dxOp.eq_1, ↓dxOpL.eq_1, ↓dxUn.eq_1, ↓dxTst.eq_1, ↓truD.eq_1, ↓dxTru.eq_1, ↓dxAndT.eq_1, ↓dxOrT.eq_1, ↓dxNotT.eq_1, ↓dxAndE.eq_1, ↓dxOrE.eq_1, ↓dxNotE.eq_1, ↓dxIfE.eq_1, ↓dxTup.eq_1, ↓dxLst.eq_1, ↓dxCB.eq_1, ↓dxCall.eq_1, ↓dxMethP.eq_1, ↓dxMethV.eq_1, ↓dxMethN.eq_1, ↓dxAppP.eq_1, ↓dxAppV.eq_1, dxAppP.isL, ↓appAt.eq_1, ↓nmPl.eq_1, nmAt, ↓nmArg.eq_1, isOb, ↓dVar.eq_1, ↓dK.eq_1, ↓dOp.eq_1, ↓dUn.eq_1, ↓dNil.eq_1, ↓dCons.eq_1, ↓dCnil.eq_1, ↓dCcons.eq_1, ↓dCall.eq_1, ↓dTupD.eq_1, ↓dLstD.eq_1, ↓dTst.eq_1, ↓dTru.eq_1, ↓dAndT.eq_1, ↓dOrT.eq_1, ↓dNotT.eq_1, ↓dAndE.eq_1, ↓dOrE.eq_1, ↓dNotE.eq_1, ↓dIfE.eq_1, ↓dNewK.eq_1, ↓dFld.eq_1, ↓dYes.eq_1, ↓dIsi.eq_1, dTy, isiB, ↓dI.eq_1, ↓dIC.eq_1, ↓dAdd.eq_1, ↓dEq.eq_1, ↓dNe.eq_1, dIs, ↓dLtI.eq_1, ↓dLt.eq_1, ↓dLtB.eq_1, ↓dSub.eq_1, ↓dMul.eq_1, ↓dFdiv.eq_1, ↓dMod.eq_1, ↓dPow.eq_1, ↓dLe.eq_1, ↓dGt.eq_1, ↓dGe.eq_1, ↓dAddI.eq_1, ↓dNeg.eq_1, ↓dMulA.eq_1, ↓dInA.eq_1, ↓dInD.eq_1, ↓dIn.eq_1, keyIn, ↓dIxA.eq_1, ↓dGetD.eq_1, ↓dIx.eq_1, ↓dSl.eq_1, ↓dOnone.eq_1, ↓dOsome.eq_1, ↓dL1_ap, ↓dL2_ap, ↓dL1Z_ap, ↓fLen_ap, ↓fAbs_ap, ↓fInt_ap, ↓fStr_ap, ↓fMax_ap, ↓fMin_ap, ↓fList_ap, ↓fTup_ap, ↓fLenZ.eq_1, ↓fListZ.eq_1, ↓fSum_ap, ↓fAny_ap, ↓fAll_ap, ↓dpVar.eq_1, ↓dpFld.eq_1, ↓dpaNil.eq_1, ↓dpaP.eq_1, ↓dpaD.eq_1, ↓dPPA.eq_1, ↓dxaNil.eq_1, ↓dxaV.eq_1, ↓dxaD.eq_1, ↓dxaN.eq_1, ↓dgName.eq_1, ↓dgNil.eq_1, ↓dgCons_ap, ↓dgTup_ap, ↓dItems.eq_1, ↓dXItems.eq_1, ↓itemsD.eq_1, Z.own, Z.data, S.data, Z.dicv, S.dicv, Z.items, S.items, Z.mems, S.mems, Z.ownL, Z.dk, S.dk, Z.keep, Z.fin, kindT, keyD, keyT, keysD, keyA, atP, S.at, S.kids, S.wth, SF.pos, SF.get, SF.set, SF.len, SF.labs, SF.app, S.put, putP, repl, kill, killS, backM, ghM, argT, args, lendR, backR, apartAll, npre, apart, S.noT, S.tru, S.live, wipeS, List.getElem?_cons_zero, List.getElem?_cons_succ, List.getElem?_nil, List.set_cons_zero, List.set_cons_succ, List.cons_append, List.nil_append, List.replicate, List.length_cons, List.length_nil, List.map_cons, List.map_nil, List.drop_succ_cons, List.drop_zero, List.all_cons, List.all_nil, List.tail_cons, List.getD, Option.map_some, Option.map_none, Option.isSome_some, Option.isSome_none, Option.some.injEq, Bool.and_true, Bool.true_and, Bool.not_true, Bool.not_false, Bool.false_eq_true, Bool.and_self, Bool.or_false, Bool.false_or, if_true, if_false, ite_true, ite_false, and_true, true_and, true_or, or_true, decide_eq_true_eq, decide_true, decide_false, Bool.not_eq_true', Bool.not_eq_eq_eq_not, decide_not, not_false_eq_true, not_true_eq_false, ↓reduceIte, natlit, atI_lit, ↓dPre.eq_1, ↓fT_nx, ↓fT_rt, ↓fT_ex, Nat.reduceAdd, Int.reduceNeg, ↓eqD_int, ↓eqD_str, ↓eqD_bool, ↓dRng1.eq_1, ↓dRng2.eq_1, inV_ints, inV_strs, inV_int1, inV_str1, inV_nil, flat_ints, flat_strs, flatD, vOf, lookS, lookI, lookP, dropS, dropI, dropP, Nat.sub_self, List.replicate_zero, Option.getD_some, Option.getD_none, reduceCtorEq, List.append_nil, str_lit, sz_0, sz_1, sz_2, sz_3, sz_4, sz_5, sz_6, sz_7, sz_8, sz_9, sz_10, sz_11, sz_12, sz_13, sz_14, sz_15, sz_16, sz_17, sz_18, sz_19, sz_20, sz_21, sz_22, sz_23, sz_24, Nat.reduceSub, Nat.reduceMul, Nat.reduceDiv, Nat.reduceMod, Nat.reduceLT, Nat.reduceLeDiff, Nat.reduceEqDiff, Nat.reduceGT, Nat.reduceBEq, Int.reduceAdd, Int.reduceSub, Int.reduceMul, Int.reduceDiv, Int.reduceMod, Int.reduceLT, Int.reduceLE, Int.reduceEq, Int.reduceNe, Int.reduceGT, Int.reduceGE, Int.reduceToNat, String.reduceEq, String.reduceNe, and_false, false_and, ↓dCallF_eq, ↓dCallK_eq, ↓dxMake_eq, Option.isSome_map, ↓callA_eq, ↓dForS_eq, ↓dWhileS_eq, ↓dLc_eq, ↓dSeq_ap, ↓dTidy_ap, ↓dTidyN_ap, seqE_nx, seqE_rt, seqE_bk, seqE_ct, seqE_ex, tidyE_nx, tidyE_rt, tidyE_bk, tidyE_ct, tidyE_ex, tidyNE_nx, tidyNE_rt, tidyNE_bk, tidyNE_ct, tidyNE_ex, loopE_nx, loopE_rt, loopE_bk, loopE_ct, loopE_ex, ↓fE_nx, ↓fE_rt, ↓exSome, ↓rdS_ap, ↓fSort_ap, goE_nx, goE_rt, goE_bk, goE_ct, goE_ex, decide_eq_false_iff_not, ite_not]
    by_cases c3 : (alook xs t.name).getD 0 = 0
    case neg => rw [if_neg c3]; simpa [wantU, c3] using hN
    rw [if_pos c3]
    by_cases c4 : t.born ∈ cs
    case pos => simp -dsimp -implicitDefEqProofs only [↓dNext.eq_1, ↓dBreak.eq_1, ↓dCont.eq_1, ↓dNever.eq_1, ↓dDrop.eq_1, ↓dRet.eq_1, ↓dRetN.eq_1, ↓dIf.eq_1, ↓dSet.eq_1, ↓dFrz.eq_1, ↓dUnp.eq_1, ↓dRetV.eq_1, ↓dAug.eq_1, ↓dSetI.eq_1, ↓dDelI.eq_1, ↓dFldS.eq_1, ↓dFldA.eq_1, ↓setAt.eq_1, ↓delAt.eq_1, ↓fldAt.eq_1, ↓dP.eq_1, ↓dPT.eq_1, ↓dPC.eq_1, ↓dPI.eq_1, ↓dXnil.eq_1, ↓dXcons.eq_1, ↓dxOp.eq_1, ↓dxOpL.eq_1, ↓dxUn.eq_1, ↓dxTst.eq_1, ↓truD.eq_1, ↓dxTru.eq_1, ↓dxAndT.eq_1, ↓dxOrT.eq_1, ↓dxNotT.eq_1, ↓dxAndE.eq_1, ↓dxOrE.eq_1, ↓dxNotE.eq_1, ↓dxIfE.eq_1, ↓dxTup.eq_1, ↓dxLst.eq_1, ↓dxCB.eq_1, ↓dxCall.eq_1, ↓dxMethP.eq_1, ↓dxMethV.eq_1, ↓dxMethN.eq_1, ↓dxAppP.eq_1, ↓dxAppV.eq_1, dxAppP.isL, ↓appAt.eq_1, ↓nmPl.eq_1, nmAt, ↓nmArg.eq_1, isOb, ↓dVar.eq_1, ↓dK.eq_1, ↓dOp.eq_1, ↓dUn.eq_1, ↓dNil.eq_1, ↓dCons.eq_1, ↓dCnil.eq_1, ↓dCcons.eq_1, ↓dCall.eq_1, ↓dTupD.eq_1, ↓dLstD.eq_1, ↓dTst.eq_1, ↓dTru.eq_1, ↓dAndT.eq_1, ↓dOrT.eq_1, ↓dNotT.eq_1, ↓dAndE.eq_1, ↓dOrE.eq_1, ↓dNotE.eq_1, ↓dIfE.eq_1, ↓dNewK.eq_1, ↓dFld.eq_1, ↓dYes.eq_1, ↓dIsi.eq_1, dTy, isiB, ↓dI.eq_1, ↓dIC.eq_1, ↓dAdd.eq_1, ↓dEq.eq_1, ↓dNe.eq_1, dIs, ↓dLtI.eq_1, ↓dLt.eq_1, ↓dLtB.eq_1, ↓dSub.eq_1, ↓dMul.eq_1, ↓dFdiv.eq_1, ↓dMod.eq_1, ↓dPow.eq_1, ↓dLe.eq_1, ↓dGt.eq_1, ↓dGe.eq_1, ↓dAddI.eq_1, ↓dNeg.eq_1, ↓dMulA.eq_1, ↓dInA.eq_1, ↓dInD.eq_1, ↓dIn.eq_1, keyIn, ↓dIxA.eq_1, ↓dGetD.eq_1, ↓dIx.eq_1, ↓dSl.eq_1, ↓dOnone.eq_1, ↓dOsome.eq_1, ↓dL1_ap, ↓dL2_ap, ↓dL1Z_ap, ↓fLen_ap, ↓fAbs_ap, ↓fInt_ap, ↓fStr_ap, ↓fMax_ap, ↓fMin_ap, ↓fList_ap, ↓fTup_ap, ↓fLenZ.eq_1, ↓fListZ.eq_1, ↓fSum_ap, ↓fAny_ap, ↓fAll_ap, ↓dpVar.eq_1, ↓dpFld.eq_1, ↓dpaNil.eq_1, ↓dpaP.eq_1, ↓dpaD.eq_1, ↓dPPA.eq_1, ↓dxaNil.eq_1, ↓dxaV.eq_1, ↓dxaD.eq_1, ↓dxaN.eq_1, ↓dgName.eq_1, ↓dgNil.eq_1, ↓dgCons_ap, ↓dgTup_ap, ↓dItems.eq_1, ↓dXItems.eq_1, ↓itemsD.eq_1, Z.own, Z.data, S.data, Z.dicv, S.dicv, Z.items, S.items, Z.mems, S.mems, Z.ownL, Z.dk, S.dk, Z.keep, Z.fin, kindT, keyD, keyT, keysD, keyA, atP, S.at, S.kids, S.wth, SF.pos, SF.get, SF.set, SF.len, SF.labs, SF.app, S.put, putP, repl, kill, killS, backM, ghM, argT, args, lendR, backR, apartAll, npre, apart, S.noT, S.tru, S.live, wipeS, List.getElem?_cons_zero, List.getElem?_cons_succ, List.getElem?_nil, List.set_cons_zero, List.set_cons_succ, List.cons_append, List.nil_append, List.replicate, List.length_cons, List.length_nil, List.map_cons, List.map_nil, List.drop_succ_cons, List.drop_zero, List.all_cons, List.all_nil, List.tail_cons, List.getD, Option.map_some, Option.map_none, Option.isSome_some, Option.isSome_none, Option.some.injEq, Bool.and_true, Bool.true_and, Bool.not_true, Bool.not_false, Bool.false_eq_true, Bool.and_self, Bool.or_false, Bool.false_or, if_true, if_false, ite_true, ite_false, and_true, true_and, true_or, or_true, decide_eq_true_eq, decide_true, decide_false, Bool.not_eq_true', Bool.not_eq_eq_eq_not, decide_not, not_false_eq_true, not_true_eq_false, ↓reduceIte, natlit, atI_lit, ↓dPre.eq_1, ↓fT_nx, ↓fT_rt, ↓fT_ex, Nat.reduceAdd, Int.reduceNeg, ↓eqD_int, ↓eqD_str, ↓eqD_bool, ↓dRng1.eq_1, ↓dRng2.eq_1, inV_ints, inV_strs, inV_int1, inV_str1, inV_nil, flat_ints, flat_strs, flatD, vOf, lookS, lookI, lookP, dropS, dropI, dropP, Nat.sub_self, List.replicate_zero, Option.getD_some, Option.getD_none, reduceCtorEq, List.append_nil, str_lit, sz_0, sz_1, sz_2, sz_3, sz_4, sz_5, sz_6, sz_7, sz_8, sz_9, sz_10, sz_11, sz_12, sz_13, sz_14, sz_15, sz_16, sz_17, sz_18, sz_19, sz_20, sz_21, sz_22, sz_23, sz_24, Nat.reduceSub, Nat.reduceMul, Nat.reduceDiv, Nat.reduceMod, Nat.reduceLT, Nat.reduceLeDiff, Nat.reduceEqDiff, Nat.reduceGT, Nat.reduceBEq, Int.reduceAdd, Int.reduceSub, Int.reduceMul, Int.reduceDiv, Int.reduceMod, Int.reduceLT, Int.reduceLE, Int.reduceEq, Int.reduceNe, Int.reduceGT, Int.reduceGE, Int.reduceToNat, String.reduceEq, String.reduceNe, and_false, false_and, ↓dCallF_eq, ↓dCallK_eq, ↓dxMake_eq, Option.isSome_map, ↓callA_eq, ↓dForS_eq, ↓dWhileS_eq, ↓dLc_eq, ↓dSeq_ap, ↓dTidy_ap, ↓dTidyN_ap, seqE_nx, seqE_rt, seqE_bk, seqE_ct, seqE_ex, tidyE_nx, tidyE_rt, tidyE_bk, tidyE_ct, tidyE_ex, tidyNE_nx, tidyNE_rt, tidyNE_bk, tidyNE_ct, tidyNE_ex, loopE_nx, loopE_rt, loopE_bk, loopE_ct, loopE_ex, ↓fE_nx, ↓fE_rt, ↓exSome, ↓rdS_ap, ↓fSort_ap, goE_nx, goE_rt, goE_bk, goE_ct, goE_ex, decide_eq_false_iff_not, ite_not, c4]; simpa [wantU, c4] using hN
    simp -dsimp -implicitDefEqProofs only [↓dNext.eq_1, ↓dBreak.eq_1, ↓dCont.eq_1, ↓dNever.eq_1, ↓dDrop.eq_1, ↓dRet.eq_1, ↓dRetN.eq_1, ↓dIf.eq_1, ↓dSet.eq_1, ↓dFrz.eq_1, ↓dUnp.eq_1, ↓dRetV.eq_1, ↓dAug.eq_1, ↓dSetI.eq_1, ↓dDelI.eq_1, ↓dFldS.eq_1, ↓dFldA.eq_1, ↓setAt.eq_1, ↓delAt.eq_1, ↓fldAt.eq_1, ↓dP.eq_1, ↓dPT.eq_1, ↓dPC.eq_1, ↓dPI.eq_1, ↓dXnil.eq_1, ↓dXcons.eq_1, ↓dxOp.eq_1, ↓dxOpL.eq_1, ↓dxUn.eq_1, ↓dxTst.eq_1, ↓truD.eq_1, ↓dxTru.eq_1, ↓dxAndT.eq_1, ↓dxOrT.eq_1, ↓dxNotT.eq_1, ↓dxAndE.eq_1, ↓dxOrE.eq_1, ↓dxNotE.eq_1, ↓dxIfE.eq_1, ↓dxTup.eq_1, ↓dxLst.eq_1, ↓dxCB.eq_1, ↓dxCall.eq_1, ↓dxMethP.eq_1, ↓dxMethV.eq_1, ↓dxMethN.eq_1, ↓dxAppP.eq_1, ↓dxAppV.eq_1, dxAppP.isL, ↓appAt.eq_1, ↓nmPl.eq_1, nmAt, ↓nmArg.eq_1, isOb, ↓dVar.eq_1, ↓dK.eq_1, ↓dOp.eq_1, ↓dUn.eq_1, ↓dNil.eq_1, ↓dCons.eq_1, ↓dCnil.eq_1, ↓dCcons.eq_1, ↓dCall.eq_1, ↓dTupD.eq_1, ↓dLstD.eq_1, ↓dTst.eq_1, ↓dTru.eq_1, ↓dAndT.eq_1, ↓dOrT.eq_1, ↓dNotT.eq_1, ↓dAndE.eq_1, ↓dOrE.eq_1, ↓dNotE.eq_1, ↓dIfE.eq_1, ↓dNewK.eq_1, ↓dFld.eq_1, ↓dYes.eq_1, ↓dIsi.eq_1, dTy, isiB, ↓dI.eq_1, ↓dIC.eq_1, ↓dAdd.eq_1, ↓dEq.eq_1, ↓dNe.eq_1, dIs, ↓dLtI.eq_1, ↓dLt.eq_1, ↓dLtB.eq_1, ↓dSub.eq_1, ↓dMul.eq_1, ↓dFdiv.eq_1, ↓dMod.eq_1, ↓dPow.eq_1, ↓dLe.eq_1, ↓dGt.eq_1, ↓dGe.eq_1, ↓dAddI.eq_1, ↓dNeg.eq_1, ↓dMulA.eq_1, ↓dInA.eq_1, ↓dInD.eq_1, ↓dIn.eq_1, keyIn, ↓dIxA.eq_1, ↓dGetD.eq_1, ↓dIx.eq_1, ↓dSl.eq_1, ↓dOnone.eq_1, ↓dOsome.eq_1, ↓dL1_ap, ↓dL2_ap, ↓dL1Z_ap, ↓fLen_ap, ↓fAbs_ap, ↓fInt_ap, ↓fStr_ap, ↓fMax_ap, ↓fMin_ap, ↓fList_ap, ↓fTup_ap, ↓fLenZ.eq_1, ↓fListZ.eq_1, ↓fSum_ap, ↓fAny_ap, ↓fAll_ap, ↓dpVar.eq_1, ↓dpFld.eq_1, ↓dpaNil.eq_1, ↓dpaP.eq_1, ↓dpaD.eq_1, ↓dPPA.eq_1, ↓dxaNil.eq_1, ↓dxaV.eq_1, ↓dxaD.eq_1, ↓dxaN.eq_1, ↓dgName.eq_1, ↓dgNil.eq_1, ↓dgCons_ap, ↓dgTup_ap, ↓dItems.eq_1, ↓dXItems.eq_1, ↓itemsD.eq_1, Z.own, Z.data, S.data, Z.dicv, S.dicv, Z.items, S.items, Z.mems, S.mems, Z.ownL, Z.dk, S.dk, Z.keep, Z.fin, kindT, keyD, keyT, keysD, keyA, atP, S.at, S.kids, S.wth, SF.pos, SF.get, SF.set, SF.len, SF.labs, SF.app, S.put, putP, repl, kill, killS, backM, ghM, argT, args, lendR, backR, apartAll, npre, apart, S.noT, S.tru, S.live, wipeS, List.getElem?_cons_zero, List.getElem?_cons_succ, List.getElem?_nil, List.set_cons_zero, List.set_cons_succ, List.cons_append, List.nil_append, List.replicate, List.length_cons, List.length_nil, List.map_cons, List.map_nil, List.drop_succ_cons, List.drop_zero, List.all_cons, List.all_nil, List.tail_cons, List.getD, Option.map_some, Option.map_none, Option.isSome_some, Option.isSome_none, Option.some.injEq, Bool.and_true, Bool.true_and, Bool.not_true, Bool.not_false, Bool.false_eq_true, Bool.and_self, Bool.or_false, Bool.false_or, if_true, if_false, ite_true, ite_false, and_true, true_and, true_or, or_true, decide_eq_true_eq, decide_true, decide_false, Bool.not_eq_true', Bool.not_eq_eq_eq_not, decide_not, not_false_eq_true, not_true_eq_false, ↓reduceIte, natlit, atI_lit, ↓dPre.eq_1, ↓fT_nx, ↓fT_rt, ↓fT_ex, Nat.reduceAdd, Int.reduceNeg, ↓eqD_int, ↓eqD_str, ↓eqD_bool, ↓dRng1.eq_1, ↓dRng2.eq_1, inV_ints, inV_strs, inV_int1, inV_str1, inV_nil, flat_ints, flat_strs, flatD, vOf, lookS, lookI, lookP, dropS, dropI, dropP, Nat.sub_self, List.replicate_zero, Option.getD_some, Option.getD_none, reduceCtorEq, List.append_nil, str_lit, sz_0, sz_1, sz_2, sz_3, sz_4, sz_5, sz_6, sz_7, sz_8, sz_9, sz_10, sz_11, sz_12, sz_13, sz_14, sz_15, sz_16, sz_17, sz_18, sz_19, sz_20, sz_21, sz_22, sz_23, sz_24, Nat.reduceSub, Nat.reduceMul, Nat.reduceDiv, Nat.reduceMod, Nat.reduceLT, Nat.reduceLeDiff, Nat.reduceEqDiff, Nat.reduceGT, Nat.reduceBEq, Int.reduceAdd, Int.reduceSub, Int.reduceMul, Int.reduceDiv, Int.reduceMod, Int.reduceLT, Int.reduceLE, Int.reduceEq, Int.reduceNe, Int.reduceGT, Int.reduceGE, Int.reduceToNat, String.reduceEq, String.reduceNe, and_false, false_and, ↓dCallF_eq, ↓dCallK_eq, ↓dxMake_eq, Option.isSome_map, ↓callA_eq, ↓dForS_eq, ↓dWhileS_eq, ↓dLc_eq, ↓dSeq_ap, ↓dTidy_ap, ↓dTidyN_ap, seqE_nx, seqE_rt, seqE_bk, seqE_ct, seqE_ex, tidyE_nx, tidyE_rt, tidyE_bk, tidyE_ct, tidyE_ex, tidyNE_nx, tidyNE_rt, tidyNE_bk, tidyNE_ct, tidyNE_ex, loopE_nx, loopE_rt, loopE_bk, loopE_ct, loopE_ex, ↓fE_nx, ↓fE_rt, ↓exSome, ↓rdS_ap, ↓fSort_ap, goE_nx, goE_rt, goE_bk, goE_ct, goE_ex, decide_eq_false_iff_not, ite_not, c4]
    exact ⟨szm (by omega), by simpa [wantU, c1, c2, c3, c4] using hN⟩
  · simp -dsimp -implicitDefEqProofs only [↓dNext.eq_1, ↓dBreak.eq_1, ↓dCont.eq_1, ↓dNever.eq_1, ↓dDrop.eq_1, ↓dRet.eq_1, ↓dRetN.eq_1, ↓dIf.eq_1, ↓dSet.eq_1, ↓dFrz.eq_1, ↓dUnp.eq_1, ↓dRetV.eq_1, ↓dAug.eq_1, ↓dSetI.eq_1, ↓dDelI.eq_1, ↓dFldS.eq_1, ↓dFldA.eq_1, ↓setAt.eq_1, ↓delAt.eq_1, ↓fldAt.eq_1, ↓dP.eq_1, ↓dPT.eq_1, ↓dPC.eq_1, ↓dPI.eq_1, ↓dXnil.eq_1, ↓dXcons.eq_1, ↓dxOp.eq_1, ↓dxOpL.eq_1, ↓dxUn.eq_1, ↓dxTst.eq_1, ↓truD.eq_1, ↓dxTru.eq_1, ↓dxAndT.eq_1, ↓dxOrT.eq_1, ↓dxNotT.eq_1, ↓dxAndE.eq_1, ↓dxOrE.eq_1, ↓dxNotE.eq_1, ↓dxIfE.eq_1, ↓dxTup.eq_1, ↓dxLst.eq_1, ↓dxCB.eq_1, ↓dxCall.eq_1, ↓dxMethP.eq_1, ↓dxMethV.eq_1, ↓dxMethN.eq_1, ↓dxAppP.eq_1, ↓dxAppV.eq_1, dxAppP.isL, ↓appAt.eq_1, ↓nmPl.eq_1, nmAt, ↓nmArg.eq_1, isOb, ↓dVar.eq_1, ↓dK.eq_1, ↓dOp.eq_1, ↓dUn.eq_1, ↓dNil.eq_1, ↓dCons.eq_1, ↓dCnil.eq_1, ↓dCcons.eq_1, ↓dCall.eq_1, ↓dTupD.eq_1, ↓dLstD.eq_1, ↓dTst.eq_1, ↓dTru.eq_1, ↓dAndT.eq_1, ↓dOrT.eq_1, ↓dNotT.eq_1, ↓dAndE.eq_1, ↓dOrE.eq_1, ↓dNotE.eq_1, ↓dIfE.eq_1, ↓dNewK.eq_1, ↓dFld.eq_1, ↓dYes.eq_1, ↓dIsi.eq_1, dTy, isiB, ↓dI.eq_1, ↓dIC.eq_1, ↓dAdd.eq_1, ↓dEq.eq_1, ↓dNe.eq_1, dIs, ↓dLtI.eq_1, ↓dLt.eq_1, ↓dLtB.eq_1, ↓dSub.eq_1, ↓dMul.eq_1, ↓dFdiv.eq_1, ↓dMod.eq_1, ↓dPow.eq_1, ↓dLe.eq_1, ↓dGt.eq_1, ↓dGe.eq_1, ↓dAddI.eq_1, ↓dNeg.eq_1, ↓dMulA.eq_1, ↓dInA.eq_1, ↓dInD.eq_1, ↓dIn.eq_1, keyIn, ↓dIxA.eq_1, ↓dGetD.eq_1, ↓dIx.eq_1, ↓dSl.eq_1, ↓dOnone.eq_1, ↓dOsome.eq_1, ↓dL1_ap, ↓dL2_ap, ↓dL1Z_ap, ↓fLen_ap, ↓fAbs_ap, ↓fInt_ap, ↓fStr_ap, ↓fMax_ap, ↓fMin_ap, ↓fList_ap, ↓fTup_ap, ↓fLenZ.eq_1, ↓fListZ.eq_1, ↓fSum_ap, ↓fAny_ap, ↓fAll_ap, ↓dpVar.eq_1, ↓dpFld.eq_1, ↓dpaNil.eq_1, ↓dpaP.eq_1, ↓dpaD.eq_1, ↓dPPA.eq_1, ↓dxaNil.eq_1, ↓dxaV.eq_1, ↓dxaD.eq_1, ↓dxaN.eq_1, ↓dgName.eq_1, ↓dgNil.eq_1, ↓dgCons_ap, ↓dgTup_ap, ↓dItems.eq_1, ↓dXItems.eq_1, ↓itemsD.eq_1, Z.own, Z.data, S.data, Z.dicv, S.dicv, Z.items, S.items, Z.mems, S.mems, Z.ownL, Z.dk, S.dk, Z.keep, Z.fin, kindT, keyD, keyT, keysD, keyA, atP, S.at, S.kids, S.wth, SF.pos, SF.get, SF.set, SF.len, SF.labs, SF.app, S.put, putP, repl, kill, killS, backM, ghM, argT, args, lendR, backR, apartAll, npre, apart, S.noT, S.tru, S.live, wipeS, List.getElem?_cons_zero, List.getElem?_cons_succ, List.getElem?_nil, List.set_cons_zero, List.set_cons_succ, List.cons_append, List.nil_append, List.replicate, List.length_cons, List.length_nil, List.map_cons, List.map_nil, List.drop_succ_cons, List.drop_zero, List.all_cons, List.all_nil, List.tail_cons, List.getD, Option.map_some, Option.map_none, Option.isSome_some, Option.isSome_none, Option.some.injEq, Bool.and_true, Bool.true_and, Bool.not_true, Bool.not_false, Bool.false_eq_true, Bool.and_self, Bool.or_false, Bool.false_or, if_true, if_false, ite_true, ite_false, and_true, true_and, true_or, or_true, decide_eq_true_eq, decide_true, decide_false, Bool.not_eq_true', Bool.not_eq_eq_eq_not, decide_not, not_false_eq_true, not_true_eq_false, ↓reduceIte, natlit, atI_lit, ↓dPre.eq_1, ↓fT_nx, ↓fT_rt, ↓fT_ex, Nat.reduceAdd, Int.reduceNeg, ↓eqD_int, ↓eqD_str, ↓eqD_bool, ↓dRng1.eq_1, ↓dRng2.eq_1, inV_ints, inV_strs, inV_int1, inV_str1, inV_nil, flat_ints, flat_strs, flatD, vOf, lookS, lookI, lookP, dropS, dropI, dropP, Nat.sub_self, List.replicate_zero, Option.getD_some, Option.getD_none, reduceCtorEq, List.append_nil, str_lit, sz_0, sz_1, sz_2, sz_3, sz_4, sz_5, sz_6, sz_7, sz_8, sz_9, sz_10, sz_11, sz_12, sz_13, sz_14, sz_15, sz_16, sz_17, sz_18, sz_19, sz_20, sz_21, sz_22, sz_23, sz_24, Nat.reduceSub, Nat.reduceMul, Nat.reduceDiv, Nat.reduceMod, Nat.reduceLT, Nat.reduceLeDiff, Nat.reduceEqDiff, Nat.reduceGT, Nat.reduceBEq, Int.reduceAdd, Int.reduceSub, Int.reduceMul, Int.reduceDiv, Int.reduceMod, Int.reduceLT, Int.reduceLE, Int.reduceEq, Int.reduceNe, Int.reduceGT, Int.reduceGE, Int.reduceToNat, String.reduceEq, String.reduceNe, and_false, false_and, ↓dCallF_eq, ↓dCallK_eq, ↓dxMake_eq, Option.isSome_map, ↓callA_eq, ↓dForS_eq, ↓dWhileS_eq, ↓dLc_eq, ↓dSeq_ap, ↓dTidy_ap, ↓dTidyN_ap, seqE_nx, seqE_rt, seqE_bk, seqE_ct, seqE_ex, tidyE_nx, tidyE_rt, tidyE_bk, tidyE_ct, tidyE_ex, tidyNE_nx, tidyNE_rt, tidyNE_bk, tidyNE_ct, tidyNE_ex, loopE_nx, loopE_rt, loopE_bk, loopE_ct, loopE_ex, ↓fE_nx, ↓fE_rt, ↓exSome, ↓rdS_ap, ↓fSort_ap, goE_nx, goE_rt, goE_bk, goE_ct, goE_ex, decide_eq_false_iff_not, ite_not, b_to_run_L38]
    exact h
def startU (hs : List Str) (t : T) : Bool := decide (t.st = "bound") && (decide (t.stop = 0) && !decide (t.name ∈ hs))
def endU (hs : List Str) (t : T) : Bool := (decide (t.st = "bound") || decide (t.st = "running")) && (decide (t.stop = 1) && !decide (t.name ∈ hs))
abbrev optT (o : Option T) : D := match o with
  | some t => encT t
  | none => .none
def F_next_start : FD := det 2 fun as z => ∃ (ts : List T) (hs : List Str), as = [.list (ts.map encT), .list (hs.map .str)] ∧ z = .v (optT (ts.find? (startU hs)))
theorem cl_next_start {ts : List T} {hs : List Str}  {Q : Z → Prop} (h : Q (.v (optT (ts.find? (startU hs))))) : F_next_start [.list (ts.map encT), .list (hs.map .str)] Q := ⟨rfl, _, ⟨ts, hs, rfl, rfl⟩, h⟩
def F_next_end : FD := det 2 fun as z => ∃ (ts : List T) (hs : List Str), as = [.list (ts.map encT), .list (hs.map .str)] ∧ z = .v (optT (ts.find? (endU hs)))
theorem cl_next_end {ts : List T} {hs : List Str}  {Q : Z → Prop} (h : Q (.v (optT (ts.find? (endU hs))))) : F_next_end [.list (ts.map encT), .list (hs.map .str)] Q := ⟨rfl, _, ⟨ts, hs, rfl, rfl⟩, h⟩
def b_next_start_B40 : dS := dTidy [2] ((dIf (dPT (dAndT (dTst (dOp dEq (dOp dIxA (dOp dIxA (dVar 2) (dK (.int 3))) (dK (.int 3))) (dK (.str "bound")))) (dAndT (dTst (dOp dEq (dOp dIxA (dOp dIxA (dVar 2) (dK (.int 3))) (dK (.int 4))) (dK (.int 0)))) (dTst (dOp (dInA true) (dOp dIxA (dVar 2) (dK (.int 0))) (dVar 1)))))) (dRetV 2) dNext))
def b_next_start_L43 : dS := (dRet (dP (dK .none)))
def b_next_start : dS := (dSeq (dPre [2] (dFor (dPI (dItems (dVar 0))) (dgName 2) b_next_start_B40)) b_next_start_L43)

def b_next_end_B45 : dS := dTidy [2] ((dIf (dPT (dAndT (dTst (dOp (dInA false) (dOp dIxA (dOp dIxA (dVar 2) (dK (.int 3))) (dK (.int 3))) (dTupD (dCcons (dK (.str "bound")) (dCcons (dK (.str "running")) dCnil))))) (dAndT (dTst (dOp dEq (dOp dIxA (dOp dIxA (dVar 2) (dK (.int 3))) (dK (.int 4))) (dK (.int 1)))) (dTst (dOp (dInA true) (dOp dIxA (dVar 2) (dK (.int 0))) (dVar 1)))))) (dRetV 2) dNext))
def b_next_end_L48 : dS := (dRet (dP (dK .none)))
def b_next_end : dS := (dSeq (dPre [2] (dFor (dPI (dItems (dVar 0))) (dgName 2) b_next_end_B45)) b_next_end_L48)

theorem find_app {α : Type} {p : α → Bool} {pre post : List α} {x : α} (h : pre.find? p = none) : (pre ++ x :: post).find? p = if p x = true then some x else post.find? p := by
  rw [List.find?_append, h, List.find?_cons]
  cases p x <;> rfl
theorem sem_next_start : ∀ as Q, F_next_start as Q → b_next_start (fE Q) (args n_next_start.length as) := by
  rintro as Q ⟨_, _, ⟨ts, hs, rfl, rfl⟩, h⟩
  simp -dsimp -implicitDefEqProofs only [↓dNext.eq_1, ↓dBreak.eq_1, ↓dCont.eq_1, ↓dNever.eq_1, ↓dDrop.eq_1, ↓dRet.eq_1, ↓dRetN.eq_1, ↓dIf.eq_1, ↓dSet.eq_1, ↓dFrz.eq_1, ↓dUnp.eq_1, ↓dRetV.eq_1, ↓dAug.eq_1, ↓dSetI.eq_1, ↓dDelI.eq_1, ↓dFldS.eq_1, ↓dFldA.eq_1, ↓setAt.eq_1, ↓delAt.eq_1, ↓fldAt.eq_1, ↓dP.eq_1, ↓dPT.eq_1, ↓dPC.eq_1, ↓dPI.eq_1, ↓dXnil.eq_1, ↓dXcons.eq_1, ↓dxOp.eq_1, ↓dxOpL.eq_1, ↓dxUn.eq_1, ↓dxTst.eq_1, ↓truD.eq_1, ↓dxTru.eq_1, ↓dxAndT.eq_1, ↓dxOrT.eq_1, ↓dxNotT.eq_1, ↓dxAndE.eq_1, ↓dxOrE.eq_1, ↓dxNotE.eq_1, ↓dxIfE.eq_1, ↓dxTup.eq_1, ↓dxLst.eq_1, ↓dxCB.eq_1, ↓dxCall.eq_1, ↓dxMethP.eq_1, ↓dxMethV.eq_1, ↓dxMethN.eq_1, ↓dxAppP.eq_1, ↓dxAppV.eq_1, dxAppP.isL, ↓appAt.eq_1, ↓nmPl.eq_1, nmAt, ↓nmArg.eq_1, isOb, ↓dVar.eq_1, ↓dK.eq_1, ↓dOp.eq_1, ↓dUn.eq_1, ↓dNil.eq_1, ↓dCons.eq_1, ↓dCnil.eq_1, ↓dCcons.eq_1, ↓dCall.eq_1, ↓dTupD.eq_1, ↓dLstD.eq_1, ↓dTst.eq_1, ↓dTru.eq_1, ↓dAndT.eq_1, ↓dOrT.eq_1, ↓dNotT.eq_1, ↓dAndE.eq_1, ↓dOrE.eq_1, ↓dNotE.eq_1, ↓dIfE.eq_1, ↓dNewK.eq_1, ↓dFld.eq_1, ↓dYes.eq_1, ↓dIsi.eq_1, dTy, isiB, ↓dI.eq_1, ↓dIC.eq_1, ↓dAdd.eq_1, ↓dEq.eq_1, ↓dNe.eq_1, dIs, ↓dLtI.eq_1, ↓dLt.eq_1, ↓dLtB.eq_1, ↓dSub.eq_1, ↓dMul.eq_1, ↓dFdiv.eq_1, ↓dMod.eq_1, ↓dPow.eq_1, ↓dLe.eq_1, ↓dGt.eq_1, ↓dGe.eq_1, ↓dAddI.eq_1, ↓dNeg.eq_1, ↓dMulA.eq_1, ↓dInA.eq_1, ↓dInD.eq_1, ↓dIn.eq_1, keyIn, ↓dIxA.eq_1, ↓dGetD.eq_1, ↓dIx.eq_1, ↓dSl.eq_1, ↓dOnone.eq_1, ↓dOsome.eq_1, ↓dL1_ap, ↓dL2_ap, ↓dL1Z_ap, ↓fLen_ap, ↓fAbs_ap, ↓fInt_ap, ↓fStr_ap, ↓fMax_ap, ↓fMin_ap, ↓fList_ap, ↓fTup_ap, ↓fLenZ.eq_1, ↓fListZ.eq_1, ↓fSum_ap, ↓fAny_ap, ↓fAll_ap, ↓dpVar.eq_1, ↓dpFld.eq_1, ↓dpaNil.eq_1, ↓dpaP.eq_1, ↓dpaD.eq_1, ↓dPPA.eq_1, ↓dxaNil.eq_1, ↓dxaV.eq_1, ↓dxaD.eq_1, ↓dxaN.eq_1, ↓dgName.eq_1, ↓dgNil.eq_1, ↓dgCons_ap, ↓dgTup_ap, ↓dItems.eq_1, ↓dXItems.eq_1, ↓itemsD.eq_1, Z.own, Z.data, S.data, Z.dicv, S.dicv, Z.items, S.items, Z.mems, S.mems, Z.ownL, Z.dk, S.dk, Z.keep, Z.fin, kindT, keyD, keyT, keysD, keyA, atP, S.at, S.kids, S.wth, SF.pos, SF.get, SF.set, SF.len, SF.labs, SF.app, S.put, putP, repl, kill, killS, backM, ghM, argT, args, lendR, backR, apartAll, npre, apart, S.noT, S.tru, S.live, wipeS, List.getElem?_cons_zero, List.getElem?_cons_succ, List.getElem?_nil, List.set_cons_zero, List.set_cons_succ, List.cons_append, List.nil_append, List.replicate, List.length_cons, List.length_nil, List.map_cons, List.map_nil, List.drop_succ_cons, List.drop_zero, List.all_cons, List.all_nil, List.tail_cons, List.getD, Option.map_some, Option.map_none, Option.isSome_some, Option.isSome_none, Option.some.injEq, Bool.and_true, Bool.true_and, Bool.not_true, Bool.not_false, Bool.false_eq_true, Bool.and_self, Bool.or_false, Bool.false_or, if_true, if_false, ite_true, ite_false, and_true, true_and, true_or, or_true, decide_eq_true_eq, decide_true, decide_false, Bool.not_eq_true', Bool.not_eq_eq_eq_not, decide_not, not_false_eq_true, not_true_eq_false, ↓reduceIte, natlit, atI_lit, ↓dPre.eq_1, ↓fT_nx, ↓fT_rt, ↓fT_ex, Nat.reduceAdd, Int.reduceNeg, ↓eqD_int, ↓eqD_str, ↓eqD_bool, ↓dRng1.eq_1, ↓dRng2.eq_1, inV_ints, inV_strs, inV_int1, inV_str1, inV_nil, flat_ints, flat_strs, flatD, vOf, lookS, lookI, lookP, dropS, dropI, dropP, Nat.sub_self, List.replicate_zero, Option.getD_some, Option.getD_none, reduceCtorEq, List.append_nil, str_lit, sz_0, sz_1, sz_2, sz_3, sz_4, sz_5, sz_6, sz_7, sz_8, sz_9, sz_10, sz_11, sz_12, sz_13, sz_14, sz_15, sz_16, sz_17, sz_18, sz_19, sz_20, sz_21, sz_22, sz_23, sz_24, Nat.reduceSub, Nat.reduceMul, Nat.reduceDiv, Nat.reduceMod, Nat.reduceLT, Nat.reduceLeDiff, Nat.reduceEqDiff, Nat.reduceGT, Nat.reduceBEq, Int.reduceAdd, Int.reduceSub, Int.reduceMul, Int.reduceDiv, Int.reduceMod, Int.reduceLT, Int.reduceLE, Int.reduceEq, Int.reduceNe, Int.reduceGT, Int.reduceGE, Int.reduceToNat, String.reduceEq, String.reduceNe, and_false, false_and, ↓dCallF_eq, ↓dCallK_eq, ↓dxMake_eq, Option.isSome_map, ↓callA_eq, ↓dForS_eq, ↓dWhileS_eq, ↓dLc_eq, ↓dSeq_ap, ↓dTidy_ap, ↓dTidyN_ap, seqE_nx, seqE_rt, seqE_bk, seqE_ct, seqE_ex, tidyE_nx, tidyE_rt, tidyE_bk, tidyE_ct, tidyE_ex, tidyNE_nx, tidyNE_rt, tidyNE_bk, tidyNE_ct, tidyNE_ex, loopE_nx, loopE_rt, loopE_bk, loopE_ct, loopE_ex, ↓fE_nx, ↓fE_rt, ↓exSome, ↓rdS_ap, ↓fSort_ap, goE_nx, goE_rt, goE_bk, goE_ct, goE_ex, decide_eq_false_iff_not, ite_not, b_next_start]
  refine for_preP (fun _ => [.v (.list (ts.map encT)), .v (.list (hs.map .str)), .no]) (fun pre => pre.find? (startU hs) = none) rfl rfl ?_ ?_
  · intro pre t post e p N hN
    rw [find_app p] at hN
    rw [e, find_app p] at h
    simp -dsimp -implicitDefEqProofs only [↓dNext.eq_1, ↓dBreak.eq_1, ↓dCont.eq_1, ↓dNever.eq_1, ↓dDrop.eq_1, ↓dRet.eq_1, ↓dRetN.eq_1, ↓dIf.eq_1, ↓dSet.eq_1, ↓dFrz.eq_1, ↓dUnp.eq_1, ↓dRetV.eq_1, ↓dAug.eq_1, ↓dSetI.eq_1, ↓dDelI.eq_1, ↓dFldS.eq_1, ↓dFldA.eq_1, ↓setAt.eq_1, ↓delAt.eq_1, ↓fldAt.eq_1, ↓dP.eq_1, ↓dPT.eq_1, ↓dPC.eq_1, ↓dPI.eq_1, ↓dXnil.eq_1, ↓dXcons.eq_1, ↓dxOp.eq_1, ↓dxOpL.eq_1, ↓dxUn.eq_1, ↓dxTst.eq_1, ↓truD.eq_1, ↓dxTru.eq_1, ↓dxAndT.eq_1, ↓dxOrT.eq_1, ↓dxNotT.eq_1, ↓dxAndE.eq_1, ↓dxOrE.eq_1, ↓dxNotE.eq_1, ↓dxIfE.eq_1, ↓dxTup.eq_1, ↓dxLst.eq_1, ↓dxCB.eq_1, ↓dxCall.eq_1, ↓dxMethP.eq_1, ↓dxMethV.eq_1, ↓dxMethN.eq_1, ↓dxAppP.eq_1, ↓dxAppV.eq_1, dxAppP.isL, ↓appAt.eq_1, ↓nmPl.eq_1, nmAt, ↓nmArg.eq_1, isOb, ↓dVar.eq_1, ↓dK.eq_1, ↓dOp.eq_1, ↓dUn.eq_1, ↓dNil.eq_1, ↓dCons.eq_1, ↓dCnil.eq_1, ↓dCcons.eq_1, ↓dCall.eq_1, ↓dTupD.eq_1, ↓dLstD.eq_1, ↓dTst.eq_1, ↓dTru.eq_1, ↓dAndT.eq_1, ↓dOrT.eq_1, ↓dNotT.eq_1, ↓dAndE.eq_1, ↓dOrE.eq_1, ↓dNotE.eq_1, ↓dIfE.eq_1, ↓dNewK.eq_1, ↓dFld.eq_1, ↓dYes.eq_1, ↓dIsi.eq_1, dTy, isiB, ↓dI.eq_1, ↓dIC.eq_1, ↓dAdd.eq_1, ↓dEq.eq_1, ↓dNe.eq_1, dIs, ↓dLtI.eq_1, ↓dLt.eq_1, ↓dLtB.eq_1, ↓dSub.eq_1, ↓dMul.eq_1, ↓dFdiv.eq_1, ↓dMod.eq_1, ↓dPow.eq_1, ↓dLe.eq_1, ↓dGt.eq_1, ↓dGe.eq_1, ↓dAddI.eq_1, ↓dNeg.eq_1, ↓dMulA.eq_1, ↓dInA.eq_1, ↓dInD.eq_1, ↓dIn.eq_1, keyIn, ↓dIxA.eq_1, ↓dGetD.eq_1, ↓dIx.eq_1, ↓dSl.eq_1, ↓dOnone.eq_1, ↓dOsome.eq_1, ↓dL1_ap, ↓dL2_ap, ↓dL1Z_ap, ↓fLen_ap, ↓fAbs_ap, ↓fInt_ap, ↓fStr_ap, ↓fMax_ap, ↓fMin_ap, ↓fList_ap, ↓fTup_ap, ↓fLenZ.eq_1, ↓fListZ.eq_1, ↓fSum_ap, ↓fAny_ap, ↓fAll_ap, ↓dpVar.eq_1, ↓dpFld.eq_1, ↓dpaNil.eq_1, ↓dpaP.eq_1, ↓dpaD.eq_1, ↓dPPA.eq_1, ↓dxaNil.eq_1, ↓dxaV.eq_1, ↓dxaD.eq_1, ↓dxaN.eq_1, ↓dgName.eq_1, ↓dgNil.eq_1, ↓dgCons_ap, ↓dgTup_ap, ↓dItems.eq_1, ↓dXItems.eq_1, ↓itemsD.eq_1, Z.own, Z.data, S.data, Z.dicv, S.dicv, Z.items, S.items, Z.mems, S.mems, Z.ownL, Z.dk, S.dk, Z.keep, Z.fin, kindT, keyD, keyT, keysD, keyA, atP, S.at, S.kids, S.wth, SF.pos, SF.get, SF.set, SF.len, SF.labs, SF.app, S.put, putP, repl, kill, killS, backM, ghM, argT, args, lendR, backR, apartAll, npre, apart, S.noT, S.tru, S.live, wipeS, List.getElem?_cons_zero, List.getElem?_cons_succ, List.getElem?_nil, List.set_cons_zero, List.set_cons_succ, List.cons_append, List.nil_append, List.replicate, List.length_cons, List.length_nil, List.map_cons, List.map_nil, List.drop_succ_cons, List.drop_zero, List.all_cons, List.all_nil, List.tail_cons, List.getD, Option.map_some, Option.map_none, Option.isSome_some, Option.isSome_none, Option.some.injEq, Bool.and_true, Bool.true_and, Bool.not_true, Bool.not_false, Bool.false_eq_true, Bool.and_self, Bool.or_false, Bool.false_or, if_true, if_false, ite_true, ite_false, and_true, true_and, true_or, or_true, decide_eq_true_eq, decide_true, decide_false, Bool.not_eq_true', Bool.not_eq_eq_eq_not, decide_not, not_false_eq_true, not_true_eq_false, ↓reduceIte, natlit, atI_lit, ↓dPre.eq_1, ↓fT_nx, ↓fT_rt, ↓fT_ex, Nat.reduceAdd, Int.reduceNeg, ↓eqD_int, ↓eqD_str, ↓eqD_bool, ↓dRng1.eq_1, ↓dRng2.eq_1, inV_ints, inV_strs, inV_int1, inV_str1, inV_nil, flat_ints, flat_strs, flatD, vOf, lookS, lookI, lookP, dropS, dropI, dropP, Nat.sub_self, List.replicate_zero, Option.getD_some, Option.getD_none, reduceCtorEq, List.append_nil, str_lit, sz_0, sz_1, sz_2, sz_3, sz_4, sz_5, sz_6, sz_7, sz_8, sz_9, sz_10, sz_11, sz_12, sz_13, sz_14, sz_15, sz_16, sz_17, sz_18, sz_19, sz_20, sz_21, sz_22, sz_23, sz_24, Nat.reduceSub, Nat.reduceMul, Nat.reduceDiv, Nat.reduceMod, Nat.reduceLT, Nat.reduceLeDiff, Nat.reduceEqDiff, Nat.reduceGT, Nat.reduceBEq, Int.reduceAdd, Int.reduceSub, Int.reduceMul, Int.reduceDiv, Int.reduceMod, Int.reduceLT, Int.reduceLE, Int.reduceEq, Int.reduceNe, Int.reduceGT, Int.reduceGE, Int.reduceToNat, String.reduceEq, String.reduceNe, and_false, false_and, ↓dCallF_eq, ↓dCallK_eq, ↓dxMake_eq, Option.isSome_map, ↓callA_eq, ↓dForS_eq, ↓dWhileS_eq, ↓dLc_eq, ↓dSeq_ap, ↓dTidy_ap, ↓dTidyN_ap, seqE_nx, seqE_rt, seqE_bk, seqE_ct, seqE_ex, tidyE_nx, tidyE_rt, tidyE_bk, tidyE_ct, tidyE_ex, tidyNE_nx, tidyNE_rt, tidyNE_bk, tidyNE_ct, tidyNE_ex, loopE_nx, loopE_rt, loopE_bk, loopE_ct, loopE_ex, ↓fE_nx, ↓fE_rt, ↓exSome, ↓rdS_ap, ↓fSort_ap, goE_nx, goE_rt, goE_bk, goE_ct, goE_ex, decide_eq_false_iff_not, ite_not, b_next_start_B40]
    by_cases c1 : t.st = "bound" <;> by_cases c2 : t.stop = 0 <;> by_cases c3 : t.name ∈ hs <;> simp [startU, c1, c2, c3] at hN h ⊢ <;> first | exact hN | exact h
  · intro p
    rw [p] at h
    simp -dsimp -implicitDefEqProofs only [↓dNext.eq_1, ↓dBreak.eq_1, ↓dCont.eq_1, ↓dNever.eq_1, ↓dDrop.eq_1, ↓dRet.eq_1, ↓dRetN.eq_1, ↓dIf.eq_1, ↓dSet.eq_1, ↓dFrz.eq_1, ↓dUnp.eq_1, ↓dRetV.eq_1, ↓dAug.eq_1, ↓dSetI.eq_1, ↓dDelI.eq_1, ↓dFldS.eq_1, ↓dFldA.eq_1, ↓setAt.eq_1, ↓delAt.eq_1, ↓fldAt.eq_1, ↓dP.eq_1, ↓dPT.eq_1, ↓dPC.eq_1, ↓dPI.eq_1, ↓dXnil.eq_1, ↓dXcons.eq_1, ↓dxOp.eq_1, ↓dxOpL.eq_1, ↓dxUn.eq_1, ↓dxTst.eq_1, ↓truD.eq_1, ↓dxTru.eq_1, ↓dxAndT.eq_1, ↓dxOrT.eq_1, ↓dxNotT.eq_1, ↓dxAndE.eq_1, ↓dxOrE.eq_1, ↓dxNotE.eq_1, ↓dxIfE.eq_1, ↓dxTup.eq_1, ↓dxLst.eq_1, ↓dxCB.eq_1, ↓dxCall.eq_1, ↓dxMethP.eq_1, ↓dxMethV.eq_1, ↓dxMethN.eq_1, ↓dxAppP.eq_1, ↓dxAppV.eq_1, dxAppP.isL, ↓appAt.eq_1, ↓nmPl.eq_1, nmAt, ↓nmArg.eq_1, isOb, ↓dVar.eq_1, ↓dK.eq_1, ↓dOp.eq_1, ↓dUn.eq_1, ↓dNil.eq_1, ↓dCons.eq_1, ↓dCnil.eq_1, ↓dCcons.eq_1, ↓dCall.eq_1, ↓dTupD.eq_1, ↓dLstD.eq_1, ↓dTst.eq_1, ↓dTru.eq_1, ↓dAndT.eq_1, ↓dOrT.eq_1, ↓dNotT.eq_1, ↓dAndE.eq_1, ↓dOrE.eq_1, ↓dNotE.eq_1, ↓dIfE.eq_1, ↓dNewK.eq_1, ↓dFld.eq_1, ↓dYes.eq_1, ↓dIsi.eq_1, dTy, isiB, ↓dI.eq_1, ↓dIC.eq_1, ↓dAdd.eq_1, ↓dEq.eq_1, ↓dNe.eq_1, dIs, ↓dLtI.eq_1, ↓dLt.eq_1, ↓dLtB.eq_1, ↓dSub.eq_1, ↓dMul.eq_1, ↓dFdiv.eq_1, ↓dMod.eq_1, ↓dPow.eq_1, ↓dLe.eq_1, ↓dGt.eq_1, ↓dGe.eq_1, ↓dAddI.eq_1, ↓dNeg.eq_1, ↓dMulA.eq_1, ↓dInA.eq_1, ↓dInD.eq_1, ↓dIn.eq_1, keyIn, ↓dIxA.eq_1, ↓dGetD.eq_1, ↓dIx.eq_1, ↓dSl.eq_1, ↓dOnone.eq_1, ↓dOsome.eq_1, ↓dL1_ap, ↓dL2_ap, ↓dL1Z_ap, ↓fLen_ap, ↓fAbs_ap, ↓fInt_ap, ↓fStr_ap, ↓fMax_ap, ↓fMin_ap, ↓fList_ap, ↓fTup_ap, ↓fLenZ.eq_1, ↓fListZ.eq_1, ↓fSum_ap, ↓fAny_ap, ↓fAll_ap, ↓dpVar.eq_1, ↓dpFld.eq_1, ↓dpaNil.eq_1, ↓dpaP.eq_1, ↓dpaD.eq_1, ↓dPPA.eq_1, ↓dxaNil.eq_1, ↓dxaV.eq_1, ↓dxaD.eq_1, ↓dxaN.eq_1, ↓dgName.eq_1, ↓dgNil.eq_1, ↓dgCons_ap, ↓dgTup_ap, ↓dItems.eq_1, ↓dXItems.eq_1, ↓itemsD.eq_1, Z.own, Z.data, S.data, Z.dicv, S.dicv, Z.items, S.items, Z.mems, S.mems, Z.ownL, Z.dk, S.dk, Z.keep, Z.fin, kindT, keyD, keyT, keysD, keyA, atP, S.at, S.kids, S.wth, SF.pos, SF.get, SF.set, SF.len, SF.labs, SF.app, S.put, putP, repl, kill, killS, backM, ghM, argT, args, lendR, backR, apartAll, npre, apart, S.noT, S.tru, S.live, wipeS, List.getElem?_cons_zero, List.getElem?_cons_succ, List.getElem?_nil, List.set_cons_zero, List.set_cons_succ, List.cons_append, List.nil_append, List.replicate, List.length_cons, List.length_nil, List.map_cons, List.map_nil, List.drop_succ_cons, List.drop_zero, List.all_cons, List.all_nil, List.tail_cons, List.getD, Option.map_some, Option.map_none, Option.isSome_some, Option.isSome_none, Option.some.injEq, Bool.and_true, Bool.true_and, Bool.not_true, Bool.not_false, Bool.false_eq_true, Bool.and_self, Bool.or_false, Bool.false_or, if_true, if_false, ite_true, ite_false, and_true, true_and, true_or, or_true, decide_eq_true_eq, decide_true, decide_false, Bool.not_eq_true', Bool.not_eq_eq_eq_not, decide_not, not_false_eq_true, not_true_eq_false, ↓reduceIte, natlit, atI_lit, ↓dPre.eq_1, ↓fT_nx, ↓fT_rt, ↓fT_ex, Nat.reduceAdd, Int.reduceNeg, ↓eqD_int, ↓eqD_str, ↓eqD_bool, ↓dRng1.eq_1, ↓dRng2.eq_1, inV_ints, inV_strs, inV_int1, inV_str1, inV_nil, flat_ints, flat_strs, flatD, vOf, lookS, lookI, lookP, dropS, dropI, dropP, Nat.sub_self, List.replicate_zero, Option.getD_some, Option.getD_none, reduceCtorEq, List.append_nil, str_lit, sz_0, sz_1, sz_2, sz_3, sz_4, sz_5, sz_6, sz_7, sz_8, sz_9, sz_10, sz_11, sz_12, sz_13, sz_14, sz_15, sz_16, sz_17, sz_18, sz_19, sz_20, sz_21, sz_22, sz_23, sz_24, Nat.reduceSub, Nat.reduceMul, Nat.reduceDiv, Nat.reduceMod, Nat.reduceLT, Nat.reduceLeDiff, Nat.reduceEqDiff, Nat.reduceGT, Nat.reduceBEq, Int.reduceAdd, Int.reduceSub, Int.reduceMul, Int.reduceDiv, Int.reduceMod, Int.reduceLT, Int.reduceLE, Int.reduceEq, Int.reduceNe, Int.reduceGT, Int.reduceGE, Int.reduceToNat, String.reduceEq, String.reduceNe, and_false, false_and, ↓dCallF_eq, ↓dCallK_eq, ↓dxMake_eq, Option.isSome_map, ↓callA_eq, ↓dForS_eq, ↓dWhileS_eq, ↓dLc_eq, ↓dSeq_ap, ↓dTidy_ap, ↓dTidyN_ap, seqE_nx, seqE_rt, seqE_bk, seqE_ct, seqE_ex, tidyE_nx, tidyE_rt, tidyE_bk, tidyE_ct, tidyE_ex, tidyNE_nx, tidyNE_rt, tidyNE_bk, tidyNE_ct, tidyNE_ex, loopE_nx, loopE_rt, loopE_bk, loopE_ct, loopE_ex, ↓fE_nx, ↓fE_rt, ↓exSome, ↓rdS_ap, ↓fSort_ap, goE_nx, goE_rt, goE_bk, goE_ct, goE_ex, decide_eq_false_iff_not, ite_not, b_next_start_L43]
    exact h
theorem sem_next_end : ∀ as Q, F_next_end as Q → b_next_end (fE Q) (args n_next_end.length as) := by
  rintro as Q ⟨_, _, ⟨ts, hs, rfl, rfl⟩, h⟩
  simp -dsimp -implicitDefEqProofs only [↓dNext.eq_1, ↓dBreak.eq_1, ↓dCont.eq_1, ↓dNever.eq_1, ↓dDrop.eq_1, ↓dRet.eq_1, ↓dRetN.eq_1, ↓dIf.eq_1, ↓dSet.eq_1, ↓dFrz.eq_1, ↓dUnp.eq_1, ↓dRetV.eq_1, ↓dAug.eq_1, ↓dSetI.eq_1, ↓dDelI.eq_1, ↓dFldS.eq_1, ↓dFldA.eq_1, ↓setAt.eq_1, ↓delAt.eq_1, ↓fldAt.eq_1, ↓dP.eq_1, ↓dPT.eq_1, ↓dPC.eq_1, ↓dPI.eq_1, ↓dXnil.eq_1, ↓dXcons.eq_1, ↓dxOp.eq_1, ↓dxOpL.eq_1, ↓dxUn.eq_1, ↓dxTst.eq_1, ↓truD.eq_1, ↓dxTru.eq_1, ↓dxAndT.eq_1, ↓dxOrT.eq_1, ↓dxNotT.eq_1, ↓dxAndE.eq_1, ↓dxOrE.eq_1, ↓dxNotE.eq_1, ↓dxIfE.eq_1, ↓dxTup.eq_1, ↓dxLst.eq_1, ↓dxCB.eq_1, ↓dxCall.eq_1, ↓dxMethP.eq_1, ↓dxMethV.eq_1, ↓dxMethN.eq_1, ↓dxAppP.eq_1, ↓dxAppV.eq_1, dxAppP.isL, ↓appAt.eq_1, ↓nmPl.eq_1, nmAt, ↓nmArg.eq_1, isOb, ↓dVar.eq_1, ↓dK.eq_1, ↓dOp.eq_1, ↓dUn.eq_1, ↓dNil.eq_1, ↓dCons.eq_1, ↓dCnil.eq_1, ↓dCcons.eq_1, ↓dCall.eq_1, ↓dTupD.eq_1, ↓dLstD.eq_1, ↓dTst.eq_1, ↓dTru.eq_1, ↓dAndT.eq_1, ↓dOrT.eq_1, ↓dNotT.eq_1, ↓dAndE.eq_1, ↓dOrE.eq_1, ↓dNotE.eq_1, ↓dIfE.eq_1, ↓dNewK.eq_1, ↓dFld.eq_1, ↓dYes.eq_1, ↓dIsi.eq_1, dTy, isiB, ↓dI.eq_1, ↓dIC.eq_1, ↓dAdd.eq_1, ↓dEq.eq_1, ↓dNe.eq_1, dIs, ↓dLtI.eq_1, ↓dLt.eq_1, ↓dLtB.eq_1, ↓dSub.eq_1, ↓dMul.eq_1, ↓dFdiv.eq_1, ↓dMod.eq_1, ↓dPow.eq_1, ↓dLe.eq_1, ↓dGt.eq_1, ↓dGe.eq_1, ↓dAddI.eq_1, ↓dNeg.eq_1, ↓dMulA.eq_1, ↓dInA.eq_1, ↓dInD.eq_1, ↓dIn.eq_1, keyIn, ↓dIxA.eq_1, ↓dGetD.eq_1, ↓dIx.eq_1, ↓dSl.eq_1, ↓dOnone.eq_1, ↓dOsome.eq_1, ↓dL1_ap, ↓dL2_ap, ↓dL1Z_ap, ↓fLen_ap, ↓fAbs_ap, ↓fInt_ap, ↓fStr_ap, ↓fMax_ap, ↓fMin_ap, ↓fList_ap, ↓fTup_ap, ↓fLenZ.eq_1, ↓fListZ.eq_1, ↓fSum_ap, ↓fAny_ap, ↓fAll_ap, ↓dpVar.eq_1, ↓dpFld.eq_1, ↓dpaNil.eq_1, ↓dpaP.eq_1, ↓dpaD.eq_1, ↓dPPA.eq_1, ↓dxaNil.eq_1, ↓dxaV.eq_1, ↓dxaD.eq_1, ↓dxaN.eq_1, ↓dgName.eq_1, ↓dgNil.eq_1, ↓dgCons_ap, ↓dgTup_ap, ↓dItems.eq_1, ↓dXItems.eq_1, ↓itemsD.eq_1, Z.own, Z.data, S.data, Z.dicv, S.dicv, Z.items, S.items, Z.mems, S.mems, Z.ownL, Z.dk, S.dk, Z.keep, Z.fin, kindT, keyD, keyT, keysD, keyA, atP, S.at, S.kids, S.wth, SF.pos, SF.get, SF.set, SF.len, SF.labs, SF.app, S.put, putP, repl, kill, killS, backM, ghM, argT, args, lendR, backR, apartAll, npre, apart, S.noT, S.tru, S.live, wipeS, List.getElem?_cons_zero, List.getElem?_cons_succ, List.getElem?_nil, List.set_cons_zero, List.set_cons_succ, List.cons_append, List.nil_append, List.replicate, List.length_cons, List.length_nil, List.map_cons, List.map_nil, List.drop_succ_cons, List.drop_zero, List.all_cons, List.all_nil, List.tail_cons, List.getD, Option.map_some, Option.map_none, Option.isSome_some, Option.isSome_none, Option.some.injEq, Bool.and_true, Bool.true_and, Bool.not_true, Bool.not_false, Bool.false_eq_true, Bool.and_self, Bool.or_false, Bool.false_or, if_true, if_false, ite_true, ite_false, and_true, true_and, true_or, or_true, decide_eq_true_eq, decide_true, decide_false, Bool.not_eq_true', Bool.not_eq_eq_eq_not, decide_not, not_false_eq_true, not_true_eq_false, ↓reduceIte, natlit, atI_lit, ↓dPre.eq_1, ↓fT_nx, ↓fT_rt, ↓fT_ex, Nat.reduceAdd, Int.reduceNeg, ↓eqD_int, ↓eqD_str, ↓eqD_bool, ↓dRng1.eq_1, ↓dRng2.eq_1, inV_ints, inV_strs, inV_int1, inV_str1, inV_nil, flat_ints, flat_strs, flatD, vOf, lookS, lookI, lookP, dropS, dropI, dropP, Nat.sub_self, List.replicate_zero, Option.getD_some, Option.getD_none, reduceCtorEq, List.append_nil, str_lit, sz_0, sz_1, sz_2, sz_3, sz_4, sz_5, sz_6, sz_7, sz_8, sz_9, sz_10, sz_11, sz_12, sz_13, sz_14, sz_15, sz_16, sz_17, sz_18, sz_19, sz_20, sz_21, sz_22, sz_23, sz_24, Nat.reduceSub, Nat.reduceMul, Nat.reduceDiv, Nat.reduceMod, Nat.reduceLT, Nat.reduceLeDiff, Nat.reduceEqDiff, Nat.reduceGT, Nat.reduceBEq, Int.reduceAdd, Int.reduceSub, Int.reduceMul, Int.reduceDiv, Int.reduceMod, Int.reduceLT, Int.reduceLE, Int.reduceEq, Int.reduceNe, Int.reduceGT, Int.reduceGE, Int.reduceToNat, String.reduceEq, String.reduceNe, and_false, false_and, ↓dCallF_eq, ↓dCallK_eq, ↓dxMake_eq, Option.isSome_map, ↓callA_eq, ↓dForS_eq, ↓dWhileS_eq, ↓dLc_eq, ↓dSeq_ap, ↓dTidy_ap, ↓dTidyN_ap, seqE_nx, seqE_rt, seqE_bk, seqE_ct, seqE_ex, tidyE_nx, tidyE_rt, tidyE_bk, tidyE_ct, tidyE_ex, tidyNE_nx, tidyNE_rt, tidyNE_bk, tidyNE_ct, tidyNE_ex, loopE_nx, loopE_rt, loopE_bk, loopE_ct, loopE_ex, ↓fE_nx, ↓fE_rt, ↓exSome, ↓rdS_ap, ↓fSort_ap, goE_nx, goE_rt, goE_bk, goE_ct, goE_ex, decide_eq_false_iff_not, ite_not, b_next_end]
  refine for_preP (fun _ => [.v (.list (ts.map encT)), .v (.list (hs.map .str)), .no]) (fun pre => pre.find? (endU hs) = none) rfl rfl ?_ ?_
  · intro pre t post e p N hN
    rw [find_app p] at hN
    rw [e, find_app p] at h
    simp -dsimp -implicitDefEqProofs only [↓dNext.eq_1, ↓dBreak.eq_1, ↓dCont.eq_1, ↓dNever.eq_1, ↓dDrop.eq_1, ↓dRet.eq_1, ↓dRetN.eq_1, ↓dIf.eq_1, ↓dSet.eq_1, ↓dFrz.eq_1, ↓dUnp.eq_1, ↓dRetV.eq_1, ↓dAug.eq_1, ↓dSetI.eq_1, ↓dDelI.eq_1, ↓dFldS.eq_1, ↓dFldA.eq_1, ↓setAt.eq_1, ↓delAt.eq_1, ↓fldAt.eq_1, ↓dP.eq_1, ↓dPT.eq_1, ↓dPC.eq_1, ↓dPI.eq_1, ↓dXnil.eq_1, ↓dXcons.eq_1, ↓dxOp.eq_1, ↓dxOpL.eq_1, ↓dxUn.eq_1, ↓dxTst.eq_1, ↓truD.eq_1, ↓dxTru.eq_1, ↓dxAndT.eq_1, ↓dxOrT.eq_1, ↓dxNotT.eq_1, ↓dxAndE.eq_1, ↓dxOrE.eq_1, ↓dxNotE.eq_1, ↓dxIfE.eq_1, ↓dxTup.eq_1, ↓dxLst.eq_1, ↓dxCB.eq_1, ↓dxCall.eq_1, ↓dxMethP.eq_1, ↓dxMethV.eq_1, ↓dxMethN.eq_1, ↓dxAppP.eq_1, ↓dxAppV.eq_1, dxAppP.isL, ↓appAt.eq_1, ↓nmPl.eq_1, nmAt, ↓nmArg.eq_1, isOb, ↓dVar.eq_1, ↓dK.eq_1, ↓dOp.eq_1, ↓dUn.eq_1, ↓dNil.eq_1, ↓dCons.eq_1, ↓dCnil.eq_1, ↓dCcons.eq_1, ↓dCall.eq_1, ↓dTupD.eq_1, ↓dLstD.eq_1, ↓dTst.eq_1, ↓dTru.eq_1, ↓dAndT.eq_1, ↓dOrT.eq_1, ↓dNotT.eq_1, ↓dAndE.eq_1, ↓dOrE.eq_1, ↓dNotE.eq_1, ↓dIfE.eq_1, ↓dNewK.eq_1, ↓dFld.eq_1, ↓dYes.eq_1, ↓dIsi.eq_1, dTy, isiB, ↓dI.eq_1, ↓dIC.eq_1, ↓dAdd.eq_1, ↓dEq.eq_1, ↓dNe.eq_1, dIs, ↓dLtI.eq_1, ↓dLt.eq_1, ↓dLtB.eq_1, ↓dSub.eq_1, ↓dMul.eq_1, ↓dFdiv.eq_1, ↓dMod.eq_1, ↓dPow.eq_1, ↓dLe.eq_1, ↓dGt.eq_1, ↓dGe.eq_1, ↓dAddI.eq_1, ↓dNeg.eq_1, ↓dMulA.eq_1, ↓dInA.eq_1, ↓dInD.eq_1, ↓dIn.eq_1, keyIn, ↓dIxA.eq_1, ↓dGetD.eq_1, ↓dIx.eq_1, ↓dSl.eq_1, ↓dOnone.eq_1, ↓dOsome.eq_1, ↓dL1_ap, ↓dL2_ap, ↓dL1Z_ap, ↓fLen_ap, ↓fAbs_ap, ↓fInt_ap, ↓fStr_ap, ↓fMax_ap, ↓fMin_ap, ↓fList_ap, ↓fTup_ap, ↓fLenZ.eq_1, ↓fListZ.eq_1, ↓fSum_ap, ↓fAny_ap, ↓fAll_ap, ↓dpVar.eq_1, ↓dpFld.eq_1, ↓dpaNil.eq_1, ↓dpaP.eq_1, ↓dpaD.eq_1, ↓dPPA.eq_1, ↓dxaNil.eq_1, ↓dxaV.eq_1, ↓dxaD.eq_1, ↓dxaN.eq_1, ↓dgName.eq_1, ↓dgNil.eq_1, ↓dgCons_ap, ↓dgTup_ap, ↓dItems.eq_1, ↓dXItems.eq_1, ↓itemsD.eq_1, Z.own, Z.data, S.data, Z.dicv, S.dicv, Z.items, S.items, Z.mems, S.mems, Z.ownL, Z.dk, S.dk, Z.keep, Z.fin, kindT, keyD, keyT, keysD, keyA, atP, S.at, S.kids, S.wth, SF.pos, SF.get, SF.set, SF.len, SF.labs, SF.app, S.put, putP, repl, kill, killS, backM, ghM, argT, args, lendR, backR, apartAll, npre, apart, S.noT, S.tru, S.live, wipeS, List.getElem?_cons_zero, List.getElem?_cons_succ, List.getElem?_nil, List.set_cons_zero, List.set_cons_succ, List.cons_append, List.nil_append, List.replicate, List.length_cons, List.length_nil, List.map_cons, List.map_nil, List.drop_succ_cons, List.drop_zero, List.all_cons, List.all_nil, List.tail_cons, List.getD, Option.map_some, Option.map_none, Option.isSome_some, Option.isSome_none, Option.some.injEq, Bool.and_true, Bool.true_and, Bool.not_true, Bool.not_false, Bool.false_eq_true, Bool.and_self, Bool.or_false, Bool.false_or, if_true, if_false, ite_true, ite_false, and_true, true_and, true_or, or_true, decide_eq_true_eq, decide_true, decide_false, Bool.not_eq_true', Bool.not_eq_eq_eq_not, decide_not, not_false_eq_true, not_true_eq_false, ↓reduceIte, natlit, atI_lit, ↓dPre.eq_1, ↓fT_nx, ↓fT_rt, ↓fT_ex, Nat.reduceAdd, Int.reduceNeg, ↓eqD_int, ↓eqD_str, ↓eqD_bool, ↓dRng1.eq_1, ↓dRng2.eq_1, inV_ints, inV_strs, inV_int1, inV_str1, inV_nil, flat_ints, flat_strs, flatD, vOf, lookS, lookI, lookP, dropS, dropI, dropP, Nat.sub_self, List.replicate_zero, Option.getD_some, Option.getD_none, reduceCtorEq, List.append_nil, str_lit, sz_0, sz_1, sz_2, sz_3, sz_4, sz_5, sz_6, sz_7, sz_8, sz_9, sz_10, sz_11, sz_12, sz_13, sz_14, sz_15, sz_16, sz_17, sz_18, sz_19, sz_20, sz_21, sz_22, sz_23, sz_24, Nat.reduceSub, Nat.reduceMul, Nat.reduceDiv, Nat.reduceMod, Nat.reduceLT, Nat.reduceLeDiff, Nat.reduceEqDiff, Nat.reduceGT, Nat.reduceBEq, Int.reduceAdd, Int.reduceSub, Int.reduceMul, Int.reduceDiv, Int.reduceMod, Int.reduceLT, Int.reduceLE, Int.reduceEq, Int.reduceNe, Int.reduceGT, Int.reduceGE, Int.reduceToNat, String.reduceEq, String.reduceNe, and_false, false_and, ↓dCallF_eq, ↓dCallK_eq, ↓dxMake_eq, Option.isSome_map, ↓callA_eq, ↓dForS_eq, ↓dWhileS_eq, ↓dLc_eq, ↓dSeq_ap, ↓dTidy_ap, ↓dTidyN_ap, seqE_nx, seqE_rt, seqE_bk, seqE_ct, seqE_ex, tidyE_nx, tidyE_rt, tidyE_bk, tidyE_ct, tidyE_ex, tidyNE_nx, tidyNE_rt, tidyNE_bk, tidyNE_ct, tidyNE_ex, loopE_nx, loopE_rt, loopE_bk, loopE_ct, loopE_ex, ↓fE_nx, ↓fE_rt, ↓exSome, ↓rdS_ap, ↓fSort_ap, goE_nx, goE_rt, goE_bk, goE_ct, goE_ex, decide_eq_false_iff_not, ite_not, b_next_end_B45, inV_str1]
    by_cases c0 : t.st = "bound" <;> by_cases c1 : t.st = "running" <;> by_cases c2 : t.stop = 1 <;> by_cases c3 : t.name ∈ hs <;> simp [endU, c0, c1, c2, c3] at hN h ⊢ <;> first | exact hN | exact h
  · intro p
    rw [p] at h
    simp -dsimp -implicitDefEqProofs only [↓dNext.eq_1, ↓dBreak.eq_1, ↓dCont.eq_1, ↓dNever.eq_1, ↓dDrop.eq_1, ↓dRet.eq_1, ↓dRetN.eq_1, ↓dIf.eq_1, ↓dSet.eq_1, ↓dFrz.eq_1, ↓dUnp.eq_1, ↓dRetV.eq_1, ↓dAug.eq_1, ↓dSetI.eq_1, ↓dDelI.eq_1, ↓dFldS.eq_1, ↓dFldA.eq_1, ↓setAt.eq_1, ↓delAt.eq_1, ↓fldAt.eq_1, ↓dP.eq_1, ↓dPT.eq_1, ↓dPC.eq_1, ↓dPI.eq_1, ↓dXnil.eq_1, ↓dXcons.eq_1, ↓dxOp.eq_1, ↓dxOpL.eq_1, ↓dxUn.eq_1, ↓dxTst.eq_1, ↓truD.eq_1, ↓dxTru.eq_1, ↓dxAndT.eq_1, ↓dxOrT.eq_1, ↓dxNotT.eq_1, ↓dxAndE.eq_1, ↓dxOrE.eq_1, ↓dxNotE.eq_1, ↓dxIfE.eq_1, ↓dxTup.eq_1, ↓dxLst.eq_1, ↓dxCB.eq_1, ↓dxCall.eq_1, ↓dxMethP.eq_1, ↓dxMethV.eq_1, ↓dxMethN.eq_1, ↓dxAppP.eq_1, ↓dxAppV.eq_1, dxAppP.isL, ↓appAt.eq_1, ↓nmPl.eq_1, nmAt, ↓nmArg.eq_1, isOb, ↓dVar.eq_1, ↓dK.eq_1, ↓dOp.eq_1, ↓dUn.eq_1, ↓dNil.eq_1, ↓dCons.eq_1, ↓dCnil.eq_1, ↓dCcons.eq_1, ↓dCall.eq_1, ↓dTupD.eq_1, ↓dLstD.eq_1, ↓dTst.eq_1, ↓dTru.eq_1, ↓dAndT.eq_1, ↓dOrT.eq_1, ↓dNotT.eq_1, ↓dAndE.eq_1, ↓dOrE.eq_1, ↓dNotE.eq_1, ↓dIfE.eq_1, ↓dNewK.eq_1, ↓dFld.eq_1, ↓dYes.eq_1, ↓dIsi.eq_1, dTy, isiB, ↓dI.eq_1, ↓dIC.eq_1, ↓dAdd.eq_1, ↓dEq.eq_1, ↓dNe.eq_1, dIs, ↓dLtI.eq_1, ↓dLt.eq_1, ↓dLtB.eq_1, ↓dSub.eq_1, ↓dMul.eq_1, ↓dFdiv.eq_1, ↓dMod.eq_1, ↓dPow.eq_1, ↓dLe.eq_1, ↓dGt.eq_1, ↓dGe.eq_1, ↓dAddI.eq_1, ↓dNeg.eq_1, ↓dMulA.eq_1, ↓dInA.eq_1, ↓dInD.eq_1, ↓dIn.eq_1, keyIn, ↓dIxA.eq_1, ↓dGetD.eq_1, ↓dIx.eq_1, ↓dSl.eq_1, ↓dOnone.eq_1, ↓dOsome.eq_1, ↓dL1_ap, ↓dL2_ap, ↓dL1Z_ap, ↓fLen_ap, ↓fAbs_ap, ↓fInt_ap, ↓fStr_ap, ↓fMax_ap, ↓fMin_ap, ↓fList_ap, ↓fTup_ap, ↓fLenZ.eq_1, ↓fListZ.eq_1, ↓fSum_ap, ↓fAny_ap, ↓fAll_ap, ↓dpVar.eq_1, ↓dpFld.eq_1, ↓dpaNil.eq_1, ↓dpaP.eq_1, ↓dpaD.eq_1, ↓dPPA.eq_1, ↓dxaNil.eq_1, ↓dxaV.eq_1, ↓dxaD.eq_1, ↓dxaN.eq_1, ↓dgName.eq_1, ↓dgNil.eq_1, ↓dgCons_ap, ↓dgTup_ap, ↓dItems.eq_1, ↓dXItems.eq_1, ↓itemsD.eq_1, Z.own, Z.data, S.data, Z.dicv, S.dicv, Z.items, S.items, Z.mems, S.mems, Z.ownL, Z.dk, S.dk, Z.keep, Z.fin, kindT, keyD, keyT, keysD, keyA, atP, S.at, S.kids, S.wth, SF.pos, SF.get, SF.set, SF.len, SF.labs, SF.app, S.put, putP, repl, kill, killS, backM, ghM, argT, args, lendR, backR, apartAll, npre, apart, S.noT, S.tru, S.live, wipeS, List.getElem?_cons_zero, List.getElem?_cons_succ, List.getElem?_nil, List.set_cons_zero, List.set_cons_succ, List.cons_append, List.nil_append, List.replicate, List.length_cons, List.length_nil, List.map_cons, List.map_nil, List.drop_succ_cons, List.drop_zero, List.all_cons, List.all_nil, List.tail_cons, List.getD, Option.map_some, Option.map_none, Option.isSome_some, Option.isSome_none, Option.some.injEq, Bool.and_true, Bool.true_and, Bool.not_true, Bool.not_false, Bool.false_eq_true, Bool.and_self, Bool.or_false, Bool.false_or, if_true, if_false, ite_true, ite_false, and_true, true_and, true_or, or_true, decide_eq_true_eq, decide_true, decide_false, Bool.not_eq_true', Bool.not_eq_eq_eq_not, decide_not, not_false_eq_true, not_true_eq_false, ↓reduceIte, natlit, atI_lit, ↓dPre.eq_1, ↓fT_nx, ↓fT_rt, ↓fT_ex, Nat.reduceAdd, Int.reduceNeg, ↓eqD_int, ↓eqD_str, ↓eqD_bool, ↓dRng1.eq_1, ↓dRng2.eq_1, inV_ints, inV_strs, inV_int1, inV_str1, inV_nil, flat_ints, flat_strs, flatD, vOf, lookS, lookI, lookP, dropS, dropI, dropP, Nat.sub_self, List.replicate_zero, Option.getD_some, Option.getD_none, reduceCtorEq, List.append_nil, str_lit, sz_0, sz_1, sz_2, sz_3, sz_4, sz_5, sz_6, sz_7, sz_8, sz_9, sz_10, sz_11, sz_12, sz_13, sz_14, sz_15, sz_16, sz_17, sz_18, sz_19, sz_20, sz_21, sz_22, sz_23, sz_24, Nat.reduceSub, Nat.reduceMul, Nat.reduceDiv, Nat.reduceMod, Nat.reduceLT, Nat.reduceLeDiff, Nat.reduceEqDiff, Nat.reduceGT, Nat.reduceBEq, Int.reduceAdd, Int.reduceSub, Int.reduceMul, Int.reduceDiv, Int.reduceMod, Int.reduceLT, Int.reduceLE, Int.reduceEq, Int.reduceNe, Int.reduceGT, Int.reduceGE, Int.reduceToNat, String.reduceEq, String.reduceNe, and_false, false_and, ↓dCallF_eq, ↓dCallK_eq, ↓dxMake_eq, Option.isSome_map, ↓callA_eq, ↓dForS_eq, ↓dWhileS_eq, ↓dLc_eq, ↓dSeq_ap, ↓dTidy_ap, ↓dTidyN_ap, seqE_nx, seqE_rt, seqE_bk, seqE_ct, seqE_ex, tidyE_nx, tidyE_rt, tidyE_bk, tidyE_ct, tidyE_ex, tidyNE_nx, tidyNE_rt, tidyNE_bk, tidyNE_ct, tidyNE_ex, loopE_nx, loopE_rt, loopE_bk, loopE_ct, loopE_ex, ↓fE_nx, ↓fE_rt, ↓exSome, ↓rdS_ap, ↓fSort_ap, goE_nx, goE_rt, goE_bk, goE_ct, goE_ex, decide_eq_false_iff_not, ite_not, b_next_end_L48]
    exact h
def F__law_first : FD := det 4 fun as z => ∃ (ts : List T) (ss : List Str) (stop : Int) (hs : List Str), as = [.list (ts.map encT), .list (ss.map .str), .int stop, .list (hs.map .str)] ∧ z = .v (optT (ts.find? fun t => decide (t.st ∈ ss) && (decide (t.stop = stop) && !decide (t.name ∈ hs))))
theorem cl__law_first {ts : List T} {ss : List Str} {stop : Int} {hs : List Str}  {Q : Z → Prop} (h : Q (.v (optT (ts.find? fun t => decide (t.st ∈ ss) && (decide (t.stop = stop) && !decide (t.name ∈ hs)))))) : F__law_first [.list (ts.map encT), .list (ss.map .str), .int stop, .list (hs.map .str)] Q := ⟨rfl, _, ⟨ts, ss, stop, hs, rfl, rfl⟩, h⟩
def b__law_first_B74 : dS := dTidy [4] ((dIf (dPT (dAndT (dTst (dOp (dInA false) (dOp dIxA (dOp dIxA (dVar 4) (dK (.int 3))) (dK (.int 3))) (dVar 1))) (dAndT (dTst (dOp dEq (dOp dIxA (dOp dIxA (dVar 4) (dK (.int 3))) (dK (.int 4))) (dVar 2))) (dTst (dOp (dInA true) (dOp dIxA (dVar 4) (dK (.int 0))) (dVar 3)))))) (dRetV 4) dNext))
def b__law_first_L77 : dS := (dRet (dP (dK .none)))
def b__law_first : dS := (dSeq (dPre [4] (dFor (dPI (dItems (dVar 0))) (dgName 4) b__law_first_B74)) b__law_first_L77)

theorem sem__law_first : ∀ as Q, F__law_first as Q → b__law_first (fE Q) (args n__law_first.length as) := by
  rintro as Q ⟨_, _, ⟨ts, ss, stop, hs, rfl, rfl⟩, h⟩
  generalize hp : (fun t : T => decide (t.st ∈ ss) && (decide (t.stop = stop) && !decide (t.name ∈ hs))) = p at h
  have hpt : ∀ t : T, p t = (decide (t.st ∈ ss) && (decide (t.stop = stop) && !decide (t.name ∈ hs))) := fun t => by rw [← hp]
  simp -dsimp -implicitDefEqProofs only [↓dNext.eq_1, ↓dBreak.eq_1, ↓dCont.eq_1, ↓dNever.eq_1, ↓dDrop.eq_1, ↓dRet.eq_1, ↓dRetN.eq_1, ↓dIf.eq_1, ↓dSet.eq_1, ↓dFrz.eq_1, ↓dUnp.eq_1, ↓dRetV.eq_1, ↓dAug.eq_1, ↓dSetI.eq_1, ↓dDelI.eq_1, ↓dFldS.eq_1, ↓dFldA.eq_1, ↓setAt.eq_1, ↓delAt.eq_1, ↓fldAt.eq_1, ↓dP.eq_1, ↓dPT.eq_1, ↓dPC.eq_1, ↓dPI.eq_1, ↓dXnil.eq_1, ↓dXcons.eq_1, ↓dxOp.eq_1, ↓dxOpL.eq_1, ↓dxUn.eq_1, ↓dxTst.eq_1, ↓truD.eq_1, ↓dxTru.eq_1, ↓dxAndT.eq_1, ↓dxOrT.eq_1, ↓dxNotT.eq_1, ↓dxAndE.eq_1, ↓dxOrE.eq_1, ↓dxNotE.eq_1, ↓dxIfE.eq_1, ↓dxTup.eq_1, ↓dxLst.eq_1, ↓dxCB.eq_1, ↓dxCall.eq_1, ↓dxMethP.eq_1, ↓dxMethV.eq_1, ↓dxMethN.eq_1, ↓dxAppP.eq_1, ↓dxAppV.eq_1, dxAppP.isL, ↓appAt.eq_1, ↓nmPl.eq_1, nmAt, ↓nmArg.eq_1, isOb, ↓dVar.eq_1, ↓dK.eq_1, ↓dOp.eq_1, ↓dUn.eq_1, ↓dNil.eq_1, ↓dCons.eq_1, ↓dCnil.eq_1, ↓dCcons.eq_1, ↓dCall.eq_1, ↓dTupD.eq_1, ↓dLstD.eq_1, ↓dTst.eq_1, ↓dTru.eq_1, ↓dAndT.eq_1, ↓dOrT.eq_1, ↓dNotT.eq_1, ↓dAndE.eq_1, ↓dOrE.eq_1, ↓dNotE.eq_1, ↓dIfE.eq_1, ↓dNewK.eq_1, ↓dFld.eq_1, ↓dYes.eq_1, ↓dIsi.eq_1, dTy, isiB, ↓dI.eq_1, ↓dIC.eq_1, ↓dAdd.eq_1, ↓dEq.eq_1, ↓dNe.eq_1, dIs, ↓dLtI.eq_1, ↓dLt.eq_1, ↓dLtB.eq_1, ↓dSub.eq_1, ↓dMul.eq_1, ↓dFdiv.eq_1, ↓dMod.eq_1, ↓dPow.eq_1, ↓dLe.eq_1, ↓dGt.eq_1, ↓dGe.eq_1, ↓dAddI.eq_1, ↓dNeg.eq_1, ↓dMulA.eq_1, ↓dInA.eq_1, ↓dInD.eq_1, ↓dIn.eq_1, keyIn, ↓dIxA.eq_1, ↓dGetD.eq_1, ↓dIx.eq_1, ↓dSl.eq_1, ↓dOnone.eq_1, ↓dOsome.eq_1, ↓dL1_ap, ↓dL2_ap, ↓dL1Z_ap, ↓fLen_ap, ↓fAbs_ap, ↓fInt_ap, ↓fStr_ap, ↓fMax_ap, ↓fMin_ap, ↓fList_ap, ↓fTup_ap, ↓fLenZ.eq_1, ↓fListZ.eq_1, ↓fSum_ap, ↓fAny_ap, ↓fAll_ap, ↓dpVar.eq_1, ↓dpFld.eq_1, ↓dpaNil.eq_1, ↓dpaP.eq_1, ↓dpaD.eq_1, ↓dPPA.eq_1, ↓dxaNil.eq_1, ↓dxaV.eq_1, ↓dxaD.eq_1, ↓dxaN.eq_1, ↓dgName.eq_1, ↓dgNil.eq_1, ↓dgCons_ap, ↓dgTup_ap, ↓dItems.eq_1, ↓dXItems.eq_1, ↓itemsD.eq_1, Z.own, Z.data, S.data, Z.dicv, S.dicv, Z.items, S.items, Z.mems, S.mems, Z.ownL, Z.dk, S.dk, Z.keep, Z.fin, kindT, keyD, keyT, keysD, keyA, atP, S.at, S.kids, S.wth, SF.pos, SF.get, SF.set, SF.len, SF.labs, SF.app, S.put, putP, repl, kill, killS, backM, ghM, argT, args, lendR, backR, apartAll, npre, apart, S.noT, S.tru, S.live, wipeS, List.getElem?_cons_zero, List.getElem?_cons_succ, List.getElem?_nil, List.set_cons_zero, List.set_cons_succ, List.cons_append, List.nil_append, List.replicate, List.length_cons, List.length_nil, List.map_cons, List.map_nil, List.drop_succ_cons, List.drop_zero, List.all_cons, List.all_nil, List.tail_cons, List.getD, Option.map_some, Option.map_none, Option.isSome_some, Option.isSome_none, Option.some.injEq, Bool.and_true, Bool.true_and, Bool.not_true, Bool.not_false, Bool.false_eq_true, Bool.and_self, Bool.or_false, Bool.false_or, if_true, if_false, ite_true, ite_false, and_true, true_and, true_or, or_true, decide_eq_true_eq, decide_true, decide_false, Bool.not_eq_true', Bool.not_eq_eq_eq_not, decide_not, not_false_eq_true, not_true_eq_false, ↓reduceIte, natlit, atI_lit, ↓dPre.eq_1, ↓fT_nx, ↓fT_rt, ↓fT_ex, Nat.reduceAdd, Int.reduceNeg, ↓eqD_int, ↓eqD_str, ↓eqD_bool, ↓dRng1.eq_1, ↓dRng2.eq_1, inV_ints, inV_strs, inV_int1, inV_str1, inV_nil, flat_ints, flat_strs, flatD, vOf, lookS, lookI, lookP, dropS, dropI, dropP, Nat.sub_self, List.replicate_zero, Option.getD_some, Option.getD_none, reduceCtorEq, List.append_nil, str_lit, sz_0, sz_1, sz_2, sz_3, sz_4, sz_5, sz_6, sz_7, sz_8, sz_9, sz_10, sz_11, sz_12, sz_13, sz_14, sz_15, sz_16, sz_17, sz_18, sz_19, sz_20, sz_21, sz_22, sz_23, sz_24, Nat.reduceSub, Nat.reduceMul, Nat.reduceDiv, Nat.reduceMod, Nat.reduceLT, Nat.reduceLeDiff, Nat.reduceEqDiff, Nat.reduceGT, Nat.reduceBEq, Int.reduceAdd, Int.reduceSub, Int.reduceMul, Int.reduceDiv, Int.reduceMod, Int.reduceLT, Int.reduceLE, Int.reduceEq, Int.reduceNe, Int.reduceGT, Int.reduceGE, Int.reduceToNat, String.reduceEq, String.reduceNe, and_false, false_and, ↓dCallF_eq, ↓dCallK_eq, ↓dxMake_eq, Option.isSome_map, ↓callA_eq, ↓dForS_eq, ↓dWhileS_eq, ↓dLc_eq, ↓dSeq_ap, ↓dTidy_ap, ↓dTidyN_ap, seqE_nx, seqE_rt, seqE_bk, seqE_ct, seqE_ex, tidyE_nx, tidyE_rt, tidyE_bk, tidyE_ct, tidyE_ex, tidyNE_nx, tidyNE_rt, tidyNE_bk, tidyNE_ct, tidyNE_ex, loopE_nx, loopE_rt, loopE_bk, loopE_ct, loopE_ex, ↓fE_nx, ↓fE_rt, ↓exSome, ↓rdS_ap, ↓fSort_ap, goE_nx, goE_rt, goE_bk, goE_ct, goE_ex, decide_eq_false_iff_not, ite_not, b__law_first]
  refine for_preP (fun _ => [.v (.list (ts.map encT)), .v (.list (ss.map .str)), .v (.int stop), .v (.list (hs.map .str)), .no]) (fun pre => pre.find? p = none) rfl rfl ?_ ?_
  · intro pre t post e q N hN
    rw [find_app q] at hN
    rw [e, find_app q] at h
    simp -dsimp -implicitDefEqProofs only [↓dNext.eq_1, ↓dBreak.eq_1, ↓dCont.eq_1, ↓dNever.eq_1, ↓dDrop.eq_1, ↓dRet.eq_1, ↓dRetN.eq_1, ↓dIf.eq_1, ↓dSet.eq_1, ↓dFrz.eq_1, ↓dUnp.eq_1, ↓dRetV.eq_1, ↓dAug.eq_1, ↓dSetI.eq_1, ↓dDelI.eq_1, ↓dFldS.eq_1, ↓dFldA.eq_1, ↓setAt.eq_1, ↓delAt.eq_1, ↓fldAt.eq_1, ↓dP.eq_1, ↓dPT.eq_1, ↓dPC.eq_1, ↓dPI.eq_1, ↓dXnil.eq_1, ↓dXcons.eq_1, ↓dxOp.eq_1, ↓dxOpL.eq_1, ↓dxUn.eq_1, ↓dxTst.eq_1, ↓truD.eq_1, ↓dxTru.eq_1, ↓dxAndT.eq_1, ↓dxOrT.eq_1, ↓dxNotT.eq_1, ↓dxAndE.eq_1, ↓dxOrE.eq_1, ↓dxNotE.eq_1, ↓dxIfE.eq_1, ↓dxTup.eq_1, ↓dxLst.eq_1, ↓dxCB.eq_1, ↓dxCall.eq_1, ↓dxMethP.eq_1, ↓dxMethV.eq_1, ↓dxMethN.eq_1, ↓dxAppP.eq_1, ↓dxAppV.eq_1, dxAppP.isL, ↓appAt.eq_1, ↓nmPl.eq_1, nmAt, ↓nmArg.eq_1, isOb, ↓dVar.eq_1, ↓dK.eq_1, ↓dOp.eq_1, ↓dUn.eq_1, ↓dNil.eq_1, ↓dCons.eq_1, ↓dCnil.eq_1, ↓dCcons.eq_1, ↓dCall.eq_1, ↓dTupD.eq_1, ↓dLstD.eq_1, ↓dTst.eq_1, ↓dTru.eq_1, ↓dAndT.eq_1, ↓dOrT.eq_1, ↓dNotT.eq_1, ↓dAndE.eq_1, ↓dOrE.eq_1, ↓dNotE.eq_1, ↓dIfE.eq_1, ↓dNewK.eq_1, ↓dFld.eq_1, ↓dYes.eq_1, ↓dIsi.eq_1, dTy, isiB, ↓dI.eq_1, ↓dIC.eq_1, ↓dAdd.eq_1, ↓dEq.eq_1, ↓dNe.eq_1, dIs, ↓dLtI.eq_1, ↓dLt.eq_1, ↓dLtB.eq_1, ↓dSub.eq_1, ↓dMul.eq_1, ↓dFdiv.eq_1, ↓dMod.eq_1, ↓dPow.eq_1, ↓dLe.eq_1, ↓dGt.eq_1, ↓dGe.eq_1, ↓dAddI.eq_1, ↓dNeg.eq_1, ↓dMulA.eq_1, ↓dInA.eq_1, ↓dInD.eq_1, ↓dIn.eq_1, keyIn, ↓dIxA.eq_1, ↓dGetD.eq_1, ↓dIx.eq_1, ↓dSl.eq_1, ↓dOnone.eq_1, ↓dOsome.eq_1, ↓dL1_ap, ↓dL2_ap, ↓dL1Z_ap, ↓fLen_ap, ↓fAbs_ap, ↓fInt_ap, ↓fStr_ap, ↓fMax_ap, ↓fMin_ap, ↓fList_ap, ↓fTup_ap, ↓fLenZ.eq_1, ↓fListZ.eq_1, ↓fSum_ap, ↓fAny_ap, ↓fAll_ap, ↓dpVar.eq_1, ↓dpFld.eq_1, ↓dpaNil.eq_1, ↓dpaP.eq_1, ↓dpaD.eq_1, ↓dPPA.eq_1, ↓dxaNil.eq_1, ↓dxaV.eq_1, ↓dxaD.eq_1, ↓dxaN.eq_1, ↓dgName.eq_1, ↓dgNil.eq_1, ↓dgCons_ap, ↓dgTup_ap, ↓dItems.eq_1, ↓dXItems.eq_1, ↓itemsD.eq_1, Z.own, Z.data, S.data, Z.dicv, S.dicv, Z.items, S.items, Z.mems, S.mems, Z.ownL, Z.dk, S.dk, Z.keep, Z.fin, kindT, keyD, keyT, keysD, keyA, atP, S.at, S.kids, S.wth, SF.pos, SF.get, SF.set, SF.len, SF.labs, SF.app, S.put, putP, repl, kill, killS, backM, ghM, argT, args, lendR, backR, apartAll, npre, apart, S.noT, S.tru, S.live, wipeS, List.getElem?_cons_zero, List.getElem?_cons_succ, List.getElem?_nil, List.set_cons_zero, List.set_cons_succ, List.cons_append, List.nil_append, List.replicate, List.length_cons, List.length_nil, List.map_cons, List.map_nil, List.drop_succ_cons, List.drop_zero, List.all_cons, List.all_nil, List.tail_cons, List.getD, Option.map_some, Option.map_none, Option.isSome_some, Option.isSome_none, Option.some.injEq, Bool.and_true, Bool.true_and, Bool.not_true, Bool.not_false, Bool.false_eq_true, Bool.and_self, Bool.or_false, Bool.false_or, if_true, if_false, ite_true, ite_false, and_true, true_and, true_or, or_true, decide_eq_true_eq, decide_true, decide_false, Bool.not_eq_true', Bool.not_eq_eq_eq_not, decide_not, not_false_eq_true, not_true_eq_false, ↓reduceIte, natlit, atI_lit, ↓dPre.eq_1, ↓fT_nx, ↓fT_rt, ↓fT_ex, Nat.reduceAdd, Int.reduceNeg, ↓eqD_int, ↓eqD_str, ↓eqD_bool, ↓dRng1.eq_1, ↓dRng2.eq_1, inV_ints, inV_strs, inV_int1, inV_str1, inV_nil, flat_ints, flat_strs, flatD, vOf, lookS, lookI, lookP, dropS, dropI, dropP, Nat.sub_self, List.replicate_zero, Option.getD_some, Option.getD_none, reduceCtorEq, List.append_nil, str_lit, sz_0, sz_1, sz_2, sz_3, sz_4, sz_5, sz_6, sz_7, sz_8, sz_9, sz_10, sz_11, sz_12, sz_13, sz_14, sz_15, sz_16, sz_17, sz_18, sz_19, sz_20, sz_21, sz_22, sz_23, sz_24, Nat.reduceSub, Nat.reduceMul, Nat.reduceDiv, Nat.reduceMod, Nat.reduceLT, Nat.reduceLeDiff, Nat.reduceEqDiff, Nat.reduceGT, Nat.reduceBEq, Int.reduceAdd, Int.reduceSub, Int.reduceMul, Int.reduceDiv, Int.reduceMod, Int.reduceLT, Int.reduceLE, Int.reduceEq, Int.reduceNe, Int.reduceGT, Int.reduceGE, Int.reduceToNat, String.reduceEq, String.reduceNe, and_false, false_and, ↓dCallF_eq, ↓dCallK_eq, ↓dxMake_eq, Option.isSome_map, ↓callA_eq, ↓dForS_eq, ↓dWhileS_eq, ↓dLc_eq, ↓dSeq_ap, ↓dTidy_ap, ↓dTidyN_ap, seqE_nx, seqE_rt, seqE_bk, seqE_ct, seqE_ex, tidyE_nx, tidyE_rt, tidyE_bk, tidyE_ct, tidyE_ex, tidyNE_nx, tidyNE_rt, tidyNE_bk, tidyNE_ct, tidyNE_ex, loopE_nx, loopE_rt, loopE_bk, loopE_ct, loopE_ex, ↓fE_nx, ↓fE_rt, ↓exSome, ↓rdS_ap, ↓fSort_ap, goE_nx, goE_rt, goE_bk, goE_ct, goE_ex, decide_eq_false_iff_not, ite_not, b__law_first_B74]
    by_cases c1 : t.st ∈ ss <;> by_cases c2 : t.stop = stop <;> by_cases c3 : t.name ∈ hs <;> simp [hpt, c1, c2, c3] at hN h ⊢ <;> first | exact hN | exact h
  · intro q
    rw [q] at h
    simp -dsimp -implicitDefEqProofs only [↓dNext.eq_1, ↓dBreak.eq_1, ↓dCont.eq_1, ↓dNever.eq_1, ↓dDrop.eq_1, ↓dRet.eq_1, ↓dRetN.eq_1, ↓dIf.eq_1, ↓dSet.eq_1, ↓dFrz.eq_1, ↓dUnp.eq_1, ↓dRetV.eq_1, ↓dAug.eq_1, ↓dSetI.eq_1, ↓dDelI.eq_1, ↓dFldS.eq_1, ↓dFldA.eq_1, ↓setAt.eq_1, ↓delAt.eq_1, ↓fldAt.eq_1, ↓dP.eq_1, ↓dPT.eq_1, ↓dPC.eq_1, ↓dPI.eq_1, ↓dXnil.eq_1, ↓dXcons.eq_1, ↓dxOp.eq_1, ↓dxOpL.eq_1, ↓dxUn.eq_1, ↓dxTst.eq_1, ↓truD.eq_1, ↓dxTru.eq_1, ↓dxAndT.eq_1, ↓dxOrT.eq_1, ↓dxNotT.eq_1, ↓dxAndE.eq_1, ↓dxOrE.eq_1, ↓dxNotE.eq_1, ↓dxIfE.eq_1, ↓dxTup.eq_1, ↓dxLst.eq_1, ↓dxCB.eq_1, ↓dxCall.eq_1, ↓dxMethP.eq_1, ↓dxMethV.eq_1, ↓dxMethN.eq_1, ↓dxAppP.eq_1, ↓dxAppV.eq_1, dxAppP.isL, ↓appAt.eq_1, ↓nmPl.eq_1, nmAt, ↓nmArg.eq_1, isOb, ↓dVar.eq_1, ↓dK.eq_1, ↓dOp.eq_1, ↓dUn.eq_1, ↓dNil.eq_1, ↓dCons.eq_1, ↓dCnil.eq_1, ↓dCcons.eq_1, ↓dCall.eq_1, ↓dTupD.eq_1, ↓dLstD.eq_1, ↓dTst.eq_1, ↓dTru.eq_1, ↓dAndT.eq_1, ↓dOrT.eq_1, ↓dNotT.eq_1, ↓dAndE.eq_1, ↓dOrE.eq_1, ↓dNotE.eq_1, ↓dIfE.eq_1, ↓dNewK.eq_1, ↓dFld.eq_1, ↓dYes.eq_1, ↓dIsi.eq_1, dTy, isiB, ↓dI.eq_1, ↓dIC.eq_1, ↓dAdd.eq_1, ↓dEq.eq_1, ↓dNe.eq_1, dIs, ↓dLtI.eq_1, ↓dLt.eq_1, ↓dLtB.eq_1, ↓dSub.eq_1, ↓dMul.eq_1, ↓dFdiv.eq_1, ↓dMod.eq_1, ↓dPow.eq_1, ↓dLe.eq_1, ↓dGt.eq_1, ↓dGe.eq_1, ↓dAddI.eq_1, ↓dNeg.eq_1, ↓dMulA.eq_1, ↓dInA.eq_1, ↓dInD.eq_1, ↓dIn.eq_1, keyIn, ↓dIxA.eq_1, ↓dGetD.eq_1, ↓dIx.eq_1, ↓dSl.eq_1, ↓dOnone.eq_1, ↓dOsome.eq_1, ↓dL1_ap, ↓dL2_ap, ↓dL1Z_ap, ↓fLen_ap, ↓fAbs_ap, ↓fInt_ap, ↓fStr_ap, ↓fMax_ap, ↓fMin_ap, ↓fList_ap, ↓fTup_ap, ↓fLenZ.eq_1, ↓fListZ.eq_1, ↓fSum_ap, ↓fAny_ap, ↓fAll_ap, ↓dpVar.eq_1, ↓dpFld.eq_1, ↓dpaNil.eq_1, ↓dpaP.eq_1, ↓dpaD.eq_1, ↓dPPA.eq_1, ↓dxaNil.eq_1, ↓dxaV.eq_1, ↓dxaD.eq_1, ↓dxaN.eq_1, ↓dgName.eq_1, ↓dgNil.eq_1, ↓dgCons_ap, ↓dgTup_ap, ↓dItems.eq_1, ↓dXItems.eq_1, ↓itemsD.eq_1, Z.own, Z.data, S.data, Z.dicv, S.dicv, Z.items, S.items, Z.mems, S.mems, Z.ownL, Z.dk, S.dk, Z.keep, Z.fin, kindT, keyD, keyT, keysD, keyA, atP, S.at, S.kids, S.wth, SF.pos, SF.get, SF.set, SF.len, SF.labs, SF.app, S.put, putP, repl, kill, killS, backM, ghM, argT, args, lendR, backR, apartAll, npre, apart, S.noT, S.tru, S.live, wipeS, List.getElem?_cons_zero, List.getElem?_cons_succ, List.getElem?_nil, List.set_cons_zero, List.set_cons_succ, List.cons_append, List.nil_append, List.replicate, List.length_cons, List.length_nil, List.map_cons, List.map_nil, List.drop_succ_cons, List.drop_zero, List.all_cons, List.all_nil, List.tail_cons, List.getD, Option.map_some, Option.map_none, Option.isSome_some, Option.isSome_none, Option.some.injEq, Bool.and_true, Bool.true_and, Bool.not_true, Bool.not_false, Bool.false_eq_true, Bool.and_self, Bool.or_false, Bool.false_or, if_true, if_false, ite_true, ite_false, and_true, true_and, true_or, or_true, decide_eq_true_eq, decide_true, decide_false, Bool.not_eq_true', Bool.not_eq_eq_eq_not, decide_not, not_false_eq_true, not_true_eq_false, ↓reduceIte, natlit, atI_lit, ↓dPre.eq_1, ↓fT_nx, ↓fT_rt, ↓fT_ex, Nat.reduceAdd, Int.reduceNeg, ↓eqD_int, ↓eqD_str, ↓eqD_bool, ↓dRng1.eq_1, ↓dRng2.eq_1, inV_ints, inV_strs, inV_int1, inV_str1, inV_nil, flat_ints, flat_strs, flatD, vOf, lookS, lookI, lookP, dropS, dropI, dropP, Nat.sub_self, List.replicate_zero, Option.getD_some, Option.getD_none, reduceCtorEq, List.append_nil, str_lit, sz_0, sz_1, sz_2, sz_3, sz_4, sz_5, sz_6, sz_7, sz_8, sz_9, sz_10, sz_11, sz_12, sz_13, sz_14, sz_15, sz_16, sz_17, sz_18, sz_19, sz_20, sz_21, sz_22, sz_23, sz_24, Nat.reduceSub, Nat.reduceMul, Nat.reduceDiv, Nat.reduceMod, Nat.reduceLT, Nat.reduceLeDiff, Nat.reduceEqDiff, Nat.reduceGT, Nat.reduceBEq, Int.reduceAdd, Int.reduceSub, Int.reduceMul, Int.reduceDiv, Int.reduceMod, Int.reduceLT, Int.reduceLE, Int.reduceEq, Int.reduceNe, Int.reduceGT, Int.reduceGE, Int.reduceToNat, String.reduceEq, String.reduceNe, and_false, false_and, ↓dCallF_eq, ↓dCallK_eq, ↓dxMake_eq, Option.isSome_map, ↓callA_eq, ↓dForS_eq, ↓dWhileS_eq, ↓dLc_eq, ↓dSeq_ap, ↓dTidy_ap, ↓dTidyN_ap, seqE_nx, seqE_rt, seqE_bk, seqE_ct, seqE_ex, tidyE_nx, tidyE_rt, tidyE_bk, tidyE_ct, tidyE_ex, tidyNE_nx, tidyNE_rt, tidyNE_bk, tidyNE_ct, tidyNE_ex, loopE_nx, loopE_rt, loopE_bk, loopE_ct, loopE_ex, ↓fE_nx, ↓fE_rt, ↓exSome, ↓rdS_ap, ↓fSort_ap, goE_nx, goE_rt, goE_bk, goE_ct, goE_ex, decide_eq_false_iff_not, ite_not, b__law_first_L77]
    exact h
theorem cl__law_digits {ns : List Int} {k : Int} {sz : List Int} (h0 : 0 ≤ k ∧ k < 2 ^ 60) (hs : ∀ s ∈ sz, 0 < s ∧ s < 1073741824) (hl : sz.length ≤ 1000) {Q : Z → Prop} (h : Q (.v (.list ((digs (num ns k) sz).map .int)))) : F__law_digits [scrD ns, .int k, .list (sz.map .int)] Q := ⟨rfl, _, ⟨ns, k, sz, rfl, h0, hs, hl, rfl⟩, h⟩
def states6 : List Str := ["new", "bound", "running", "ended", "running", "bound"]
def nodes3 : List Str := ["w1", "w2", "w10"]
def entryN (k N : Int) : Ent :=
  if N / 6 / 3 / 3 / 3 % 9 = 0 then .node ("n" ++ toString k) (1 + k) (2 + k) (1 + N / 6 / 3 / 3 % 3)
  else .task ⟨"s" ++ toString (7 * k % 31) ++ "/0", 10 + k, 20 + k, "run " ++ toString (N / 6 / 3 / 3 / 3 / 9 % 8), N / 6 / 3 / 3 / 3 / 9 % 8, states6.getD (N % 6).toNat "", N / 6 % 3 / 2, nodes3.getD (N / 6 / 3 % 3).toNat "", 1 + N / 6 / 3 / 3 % 3⟩
def entry (ns : List Int) (k : Int) : Ent := entryN k (num ns k)
def F__law_entry : FD := det 2 fun as z => ∃ (ns : List Int) (k : Int), as = [scrD ns, .int k] ∧ (0 ≤ k ∧ k < 64) ∧ z = .v (encE (entry ns k))
theorem cl__law_entry {ns : List Int} {k : Int} (hk : 0 ≤ k ∧ k < 64) {Q : Z → Prop} (h : Q (.v (encE (entry ns k)))) : F__law_entry [scrD ns, .int k] Q := ⟨rfl, _, ⟨ns, k, rfl, hk, rfl⟩, h⟩
def b__law_entry_L72 : dS := (dRet (dP (dTupD (dCcons (dK (.str "task")) (dCcons (dVar 10) (dCcons (dOp dAdd (dK (.int 10)) (dVar 1)) (dCcons (dOp dAdd (dK (.int 20)) (dVar 1)) (dCcons (dVar 11) dCnil))))))))
def b__law_entry_L71 : dS := (dSeq (dSet 11 (dP (dTupD (dCcons (dK (.int 3)) (dCcons (dOp dAdd (dK (.str "run ")) (dCall (dL1 fStr) (dCons (dVar 9) dNil))) (dCcons (dVar 9) (dCcons (dOp dIxA (dVar 2) (dVar 4)) (dCcons (dOp dFdiv (dVar 5) (dK (.int 2))) (dCcons (dOp dIxA (dVar 3) (dVar 6)) (dCcons (dOp dAdd (dK (.int 1)) (dVar 7)) (dCcons (dK (.str "")) dCnil))))))))))) b__law_entry_L72)
def b__law_entry_L69 : dS := (dSeq (dIf (dPT (dTst (dOp dEq (dVar 8) (dK (.int 0))))) (dRet (dP (dTupD (dCcons (dK (.str "node")) (dCcons (dOp dAdd (dK (.str "n")) (dCall (dL1 fStr) (dCons (dVar 1) dNil))) (dCcons (dOp dAdd (dK (.int 1)) (dVar 1)) (dCcons (dOp dAdd (dK (.int 2)) (dVar 1)) (dCcons (dTupD (dCcons (dK (.int 9)) (dCcons (dK (.int 0)) (dCcons (dOp dAdd (dK (.int 1)) (dVar 7)) (dCcons (dK (.int 0)) (dCcons (dK (.str "")) dCnil)))))) dCnil)))))))) dNext) b__law_entry_L71)
def b__law_entry_L68 : dS := (dSeq (dSet 10 (dP (dOp dAdd (dOp dAdd (dK (.str "s")) (dCall (dL1 fStr) (dCons (dOp dMod (dCall (dL1 fInt) (dCons (dOp dMulA (dK (.int 7)) (dVar 1)) dNil)) (dK (.int 31))) dNil))) (dK (.str "/0"))))) b__law_entry_L69)
def b__law_entry_L67 : dS := (dSeq (dUnp (dP (dCallF F__law_digits dd__law_digits (dCcons (dVar 0) (dCcons (dVar 1) (dCcons (dLstD (dCcons (dK (.int 6)) (dCcons (dK (.int 3)) (dCcons (dK (.int 3)) (dCcons (dK (.int 3)) (dCcons (dK (.int 9)) (dCcons (dK (.int 8)) dCnil))))))) dCnil))))) (dgTup 6 (dgCons (dgName 4) (dgCons (dgName 5) (dgCons (dgName 6) (dgCons (dgName 7) (dgCons (dgName 8) (dgCons (dgName 9) dgNil)))))))) b__law_entry_L68)
def b__law_entry_L66 : dS := (dSeq (dSet 3 (dP (dLstD (dCcons (dK (.str "w1")) (dCcons (dK (.str "w2")) (dCcons (dK (.str "w10")) dCnil)))))) (dFrz 3 b__law_entry_L67))
def b__law_entry : dS := (dSeq (dSet 2 (dP (dLstD (dCcons (dK (.str "new")) (dCcons (dK (.str "bound")) (dCcons (dK (.str "running")) (dCcons (dK (.str "ended")) (dCcons (dK (.str "running")) (dCcons (dK (.str "bound")) dCnil))))))))) (dFrz 2 b__law_entry_L66))

theorem sem__law_entry : ∀ as Q, F__law_entry as Q → b__law_entry (fE Q) (args n__law_entry.length as) := by
  rintro as Q ⟨_, _, ⟨ns, k, rfl, hk, rfl⟩, h⟩
  have hp : 0 ≤ num ns k := num_nonneg ns _ (by omega)
  unfold entry at h
  simp -dsimp -implicitDefEqProofs only [↓dNext.eq_1, ↓dBreak.eq_1, ↓dCont.eq_1, ↓dNever.eq_1, ↓dDrop.eq_1, ↓dRet.eq_1, ↓dRetN.eq_1, ↓dIf.eq_1, ↓dSet.eq_1, ↓dFrz.eq_1, ↓dUnp.eq_1, ↓dRetV.eq_1, ↓dAug.eq_1, ↓dSetI.eq_1, ↓dDelI.eq_1, ↓dFldS.eq_1, ↓dFldA.eq_1, ↓setAt.eq_1, ↓delAt.eq_1, ↓fldAt.eq_1, ↓dP.eq_1, ↓dPT.eq_1, ↓dPC.eq_1, ↓dPI.eq_1, ↓dXnil.eq_1, ↓dXcons.eq_1, ↓dxOp.eq_1, ↓dxOpL.eq_1, ↓dxUn.eq_1, ↓dxTst.eq_1, ↓truD.eq_1, ↓dxTru.eq_1, ↓dxAndT.eq_1, ↓dxOrT.eq_1, ↓dxNotT.eq_1, ↓dxAndE.eq_1, ↓dxOrE.eq_1, ↓dxNotE.eq_1, ↓dxIfE.eq_1, ↓dxTup.eq_1, ↓dxLst.eq_1, ↓dxCB.eq_1, ↓dxCall.eq_1, ↓dxMethP.eq_1, ↓dxMethV.eq_1, ↓dxMethN.eq_1, ↓dxAppP.eq_1, ↓dxAppV.eq_1, dxAppP.isL, ↓appAt.eq_1, ↓nmPl.eq_1, nmAt, ↓nmArg.eq_1, isOb, ↓dVar.eq_1, ↓dK.eq_1, ↓dOp.eq_1, ↓dUn.eq_1, ↓dNil.eq_1, ↓dCons.eq_1, ↓dCnil.eq_1, ↓dCcons.eq_1, ↓dCall.eq_1, ↓dTupD.eq_1, ↓dLstD.eq_1, ↓dTst.eq_1, ↓dTru.eq_1, ↓dAndT.eq_1, ↓dOrT.eq_1, ↓dNotT.eq_1, ↓dAndE.eq_1, ↓dOrE.eq_1, ↓dNotE.eq_1, ↓dIfE.eq_1, ↓dNewK.eq_1, ↓dFld.eq_1, ↓dYes.eq_1, ↓dIsi.eq_1, dTy, isiB, ↓dI.eq_1, ↓dIC.eq_1, ↓dAdd.eq_1, ↓dEq.eq_1, ↓dNe.eq_1, dIs, ↓dLtI.eq_1, ↓dLt.eq_1, ↓dLtB.eq_1, ↓dSub.eq_1, ↓dMul.eq_1, ↓dFdiv.eq_1, ↓dMod.eq_1, ↓dPow.eq_1, ↓dLe.eq_1, ↓dGt.eq_1, ↓dGe.eq_1, ↓dAddI.eq_1, ↓dNeg.eq_1, ↓dMulA.eq_1, ↓dInA.eq_1, ↓dInD.eq_1, ↓dIn.eq_1, keyIn, ↓dIxA.eq_1, ↓dGetD.eq_1, ↓dIx.eq_1, ↓dSl.eq_1, ↓dOnone.eq_1, ↓dOsome.eq_1, ↓dL1_ap, ↓dL2_ap, ↓dL1Z_ap, ↓fLen_ap, ↓fAbs_ap, ↓fInt_ap, ↓fStr_ap, ↓fMax_ap, ↓fMin_ap, ↓fList_ap, ↓fTup_ap, ↓fLenZ.eq_1, ↓fListZ.eq_1, ↓fSum_ap, ↓fAny_ap, ↓fAll_ap, ↓dpVar.eq_1, ↓dpFld.eq_1, ↓dpaNil.eq_1, ↓dpaP.eq_1, ↓dpaD.eq_1, ↓dPPA.eq_1, ↓dxaNil.eq_1, ↓dxaV.eq_1, ↓dxaD.eq_1, ↓dxaN.eq_1, ↓dgName.eq_1, ↓dgNil.eq_1, ↓dgCons_ap, ↓dgTup_ap, ↓dItems.eq_1, ↓dXItems.eq_1, ↓itemsD.eq_1, Z.own, Z.data, S.data, Z.dicv, S.dicv, Z.items, S.items, Z.mems, S.mems, Z.ownL, Z.dk, S.dk, Z.keep, Z.fin, kindT, keyD, keyT, keysD, keyA, atP, S.at, S.kids, S.wth, SF.pos, SF.get, SF.set, SF.len, SF.labs, SF.app, S.put, putP, repl, kill, killS, backM, ghM, argT, args, lendR, backR, apartAll, npre, apart, S.noT, S.tru, S.live, wipeS, List.getElem?_cons_zero, List.getElem?_cons_succ, List.getElem?_nil, List.set_cons_zero, List.set_cons_succ, List.cons_append, List.nil_append, List.replicate, List.length_cons, List.length_nil, List.map_cons, List.map_nil, List.drop_succ_cons, List.drop_zero, List.all_cons, List.all_nil, List.tail_cons, List.getD, Option.map_some, Option.map_none, Option.isSome_some, Option.isSome_none, Option.some.injEq, Bool.and_true, Bool.true_and, Bool.not_true, Bool.not_false, Bool.false_eq_true, Bool.and_self, Bool.or_false, Bool.false_or, if_true, if_false, ite_true, ite_false, and_true, true_and, true_or, or_true, decide_eq_true_eq, decide_true, decide_false, Bool.not_eq_true', Bool.not_eq_eq_eq_not, decide_not, not_false_eq_true, not_true_eq_false, ↓reduceIte, natlit, atI_lit, ↓dPre.eq_1, ↓fT_nx, ↓fT_rt, ↓fT_ex, Nat.reduceAdd, Int.reduceNeg, ↓eqD_int, ↓eqD_str, ↓eqD_bool, ↓dRng1.eq_1, ↓dRng2.eq_1, inV_ints, inV_strs, inV_int1, inV_str1, inV_nil, flat_ints, flat_strs, flatD, vOf, lookS, lookI, lookP, dropS, dropI, dropP, Nat.sub_self, List.replicate_zero, Option.getD_some, Option.getD_none, reduceCtorEq, List.append_nil, str_lit, sz_0, sz_1, sz_2, sz_3, sz_4, sz_5, sz_6, sz_7, sz_8, sz_9, sz_10, sz_11, sz_12, sz_13, sz_14, sz_15, sz_16, sz_17, sz_18, sz_19, sz_20, sz_21, sz_22, sz_23, sz_24, Nat.reduceSub, Nat.reduceMul, Nat.reduceDiv, Nat.reduceMod, Nat.reduceLT, Nat.reduceLeDiff, Nat.reduceEqDiff, Nat.reduceGT, Nat.reduceBEq, Int.reduceAdd, Int.reduceSub, Int.reduceMul, Int.reduceDiv, Int.reduceMod, Int.reduceLT, Int.reduceLE, Int.reduceEq, Int.reduceNe, Int.reduceGT, Int.reduceGE, Int.reduceToNat, String.reduceEq, String.reduceNe, and_false, false_and, ↓dCallF_eq, ↓dCallK_eq, ↓dxMake_eq, Option.isSome_map, ↓callA_eq, ↓dForS_eq, ↓dWhileS_eq, ↓dLc_eq, ↓dSeq_ap, ↓dTidy_ap, ↓dTidyN_ap, seqE_nx, seqE_rt, seqE_bk, seqE_ct, seqE_ex, tidyE_nx, tidyE_rt, tidyE_bk, tidyE_ct, tidyE_ex, tidyNE_nx, tidyNE_rt, tidyNE_bk, tidyNE_ct, tidyNE_ex, loopE_nx, loopE_rt, loopE_bk, loopE_ct, loopE_ex, ↓fE_nx, ↓fE_rt, ↓exSome, ↓rdS_ap, ↓fSort_ap, goE_nx, goE_rt, goE_bk, goE_ct, goE_ex, decide_eq_false_iff_not, ite_not, b__law_entry, b__law_entry_L66, b__law_entry_L67]
  refine callF_of (cl__law_digits (sz := [6, 3, 3, 3, 9, 8]) ⟨by omega, by omega⟩ (by decide) (by decide) ?_)
  generalize num ns k = N at hp h ⊢
  simp -dsimp -implicitDefEqProofs only [↓dNext.eq_1, ↓dBreak.eq_1, ↓dCont.eq_1, ↓dNever.eq_1, ↓dDrop.eq_1, ↓dRet.eq_1, ↓dRetN.eq_1, ↓dIf.eq_1, ↓dSet.eq_1, ↓dFrz.eq_1, ↓dUnp.eq_1, ↓dRetV.eq_1, ↓dAug.eq_1, ↓dSetI.eq_1, ↓dDelI.eq_1, ↓dFldS.eq_1, ↓dFldA.eq_1, ↓setAt.eq_1, ↓delAt.eq_1, ↓fldAt.eq_1, ↓dP.eq_1, ↓dPT.eq_1, ↓dPC.eq_1, ↓dPI.eq_1, ↓dXnil.eq_1, ↓dXcons.eq_1, ↓dxOp.eq_1, ↓dxOpL.eq_1, ↓dxUn.eq_1, ↓dxTst.eq_1, ↓truD.eq_1, ↓dxTru.eq_1, ↓dxAndT.eq_1, ↓dxOrT.eq_1, ↓dxNotT.eq_1, ↓dxAndE.eq_1, ↓dxOrE.eq_1, ↓dxNotE.eq_1, ↓dxIfE.eq_1, ↓dxTup.eq_1, ↓dxLst.eq_1, ↓dxCB.eq_1, ↓dxCall.eq_1, ↓dxMethP.eq_1, ↓dxMethV.eq_1, ↓dxMethN.eq_1, ↓dxAppP.eq_1, ↓dxAppV.eq_1, dxAppP.isL, ↓appAt.eq_1, ↓nmPl.eq_1, nmAt, ↓nmArg.eq_1, isOb, ↓dVar.eq_1, ↓dK.eq_1, ↓dOp.eq_1, ↓dUn.eq_1, ↓dNil.eq_1, ↓dCons.eq_1, ↓dCnil.eq_1, ↓dCcons.eq_1, ↓dCall.eq_1, ↓dTupD.eq_1, ↓dLstD.eq_1, ↓dTst.eq_1, ↓dTru.eq_1, ↓dAndT.eq_1, ↓dOrT.eq_1, ↓dNotT.eq_1, ↓dAndE.eq_1, ↓dOrE.eq_1, ↓dNotE.eq_1, ↓dIfE.eq_1, ↓dNewK.eq_1, ↓dFld.eq_1, ↓dYes.eq_1, ↓dIsi.eq_1, dTy, isiB, ↓dI.eq_1, ↓dIC.eq_1, ↓dAdd.eq_1, ↓dEq.eq_1, ↓dNe.eq_1, dIs, ↓dLtI.eq_1, ↓dLt.eq_1, ↓dLtB.eq_1, ↓dSub.eq_1, ↓dMul.eq_1, ↓dFdiv.eq_1, ↓dMod.eq_1, ↓dPow.eq_1, ↓dLe.eq_1, ↓dGt.eq_1, ↓dGe.eq_1, ↓dAddI.eq_1, ↓dNeg.eq_1, ↓dMulA.eq_1, ↓dInA.eq_1, ↓dInD.eq_1, ↓dIn.eq_1, keyIn, ↓dIxA.eq_1, ↓dGetD.eq_1, ↓dIx.eq_1, ↓dSl.eq_1, ↓dOnone.eq_1, ↓dOsome.eq_1, ↓dL1_ap, ↓dL2_ap, ↓dL1Z_ap, ↓fLen_ap, ↓fAbs_ap, ↓fInt_ap, ↓fStr_ap, ↓fMax_ap, ↓fMin_ap, ↓fList_ap, ↓fTup_ap, ↓fLenZ.eq_1, ↓fListZ.eq_1, ↓fSum_ap, ↓fAny_ap, ↓fAll_ap, ↓dpVar.eq_1, ↓dpFld.eq_1, ↓dpaNil.eq_1, ↓dpaP.eq_1, ↓dpaD.eq_1, ↓dPPA.eq_1, ↓dxaNil.eq_1, ↓dxaV.eq_1, ↓dxaD.eq_1, ↓dxaN.eq_1, ↓dgName.eq_1, ↓dgNil.eq_1, ↓dgCons_ap, ↓dgTup_ap, ↓dItems.eq_1, ↓dXItems.eq_1, ↓itemsD.eq_1, Z.own, Z.data, S.data, Z.dicv, S.dicv, Z.items, S.items, Z.mems, S.mems, Z.ownL, Z.dk, S.dk, Z.keep, Z.fin, kindT, keyD, keyT, keysD, keyA, atP, S.at, S.kids, S.wth, SF.pos, SF.get, SF.set, SF.len, SF.labs, SF.app, S.put, putP, repl, kill, killS, backM, ghM, argT, args, lendR, backR, apartAll, npre, apart, S.noT, S.tru, S.live, wipeS, List.getElem?_cons_zero, List.getElem?_cons_succ, List.getElem?_nil, List.set_cons_zero, List.set_cons_succ, List.cons_append, List.nil_append, List.replicate, List.length_cons, List.length_nil, List.map_cons, List.map_nil, List.drop_succ_cons, List.drop_zero, List.all_cons, List.all_nil, List.tail_cons, List.getD, Option.map_some, Option.map_none, Option.isSome_some, Option.isSome_none, Option.some.injEq, Bool.and_true, Bool.true_and, Bool.not_true, Bool.not_false, Bool.false_eq_true, Bool.and_self, Bool.or_false, Bool.false_or, if_true, if_false, ite_true, ite_false, and_true, true_and, true_or, or_true, decide_eq_true_eq, decide_true, decide_false, Bool.not_eq_true', Bool.not_eq_eq_eq_not, decide_not, not_false_eq_true, not_true_eq_false, ↓reduceIte, natlit, atI_lit, ↓dPre.eq_1, ↓fT_nx, ↓fT_rt, ↓fT_ex, Nat.reduceAdd, Int.reduceNeg, ↓eqD_int, ↓eqD_str, ↓eqD_bool, ↓dRng1.eq_1, ↓dRng2.eq_1, inV_ints, inV_strs, inV_int1, inV_str1, inV_nil, flat_ints, flat_strs, flatD, vOf, lookS, lookI, lookP, dropS, dropI, dropP, Nat.sub_self, List.replicate_zero, Option.getD_some, Option.getD_none, reduceCtorEq, List.append_nil, str_lit, sz_0, sz_1, sz_2, sz_3, sz_4, sz_5, sz_6, sz_7, sz_8, sz_9, sz_10, sz_11, sz_12, sz_13, sz_14, sz_15, sz_16, sz_17, sz_18, sz_19, sz_20, sz_21, sz_22, sz_23, sz_24, Nat.reduceSub, Nat.reduceMul, Nat.reduceDiv, Nat.reduceMod, Nat.reduceLT, Nat.reduceLeDiff, Nat.reduceEqDiff, Nat.reduceGT, Nat.reduceBEq, Int.reduceAdd, Int.reduceSub, Int.reduceMul, Int.reduceDiv, Int.reduceMod, Int.reduceLT, Int.reduceLE, Int.reduceEq, Int.reduceNe, Int.reduceGT, Int.reduceGE, Int.reduceToNat, String.reduceEq, String.reduceNe, and_false, false_and, ↓dCallF_eq, ↓dCallK_eq, ↓dxMake_eq, Option.isSome_map, ↓callA_eq, ↓dForS_eq, ↓dWhileS_eq, ↓dLc_eq, ↓dSeq_ap, ↓dTidy_ap, ↓dTidyN_ap, seqE_nx, seqE_rt, seqE_bk, seqE_ct, seqE_ex, tidyE_nx, tidyE_rt, tidyE_bk, tidyE_ct, tidyE_ex, tidyNE_nx, tidyNE_rt, tidyNE_bk, tidyNE_ct, tidyNE_ex, loopE_nx, loopE_rt, loopE_bk, loopE_ct, loopE_ex, ↓fE_nx, ↓fE_rt, ↓exSome, ↓rdS_ap, ↓fSort_ap, goE_nx, goE_rt, goE_bk, goE_ct, goE_ex, decide_eq_false_iff_not, ite_not, digs, b__law_entry_L68]
  have n1 := len_num (v := 7 * k % 31) (by omega) (by omega)
  refine ⟨cmulL, log_num (by omega), by rw [len_str "s"]; exact szOk (by show 1 + _ ≤ _; omega), by rw [len_app, len_str "s", len_str "/0"]; exact szOk (by show 1 + _ + 2 ≤ _; omega), ?_⟩
  have a0 : atI (states6.map PyData.str) (N % 6) = some (.str (states6.getD (N % 6).toNat "")) := atI_map (by omega) (by show _ < ((6 : Nat) : Int); omega)
  have a1 : atI (nodes3.map PyData.str) (N / 6 / 3 % 3) = some (.str (nodes3.getD (N / 6 / 3 % 3).toNat "")) := atI_map (by omega) (by show _ < ((3 : Nat) : Int); omega)
  have b0 : 0 ≤ N / 6 / 3 / 3 / 3 / 9 % 8 ∧ N / 6 / 3 / 3 / 3 / 9 % 8 < 8 := by omega
  have n2 := len_num (v := N / 6 / 3 / 3 / 3 / 9 % 8) (by omega) (by omega)
  have n3 := len_num (v := k) (by omega) (by omega)
  have b1 : 0 ≤ N / 6 % 3 ∧ N / 6 % 3 < 3 := by omega
  unfold entryN at h
  generalize N / 6 / 3 / 3 / 3 / 9 % 8 = d5 at h b0 n2 ⊢
  generalize N / 6 / 3 / 3 / 3 % 9 = d4 at h ⊢
  generalize N / 6 / 3 / 3 % 3 = d3 at h ⊢
  generalize N / 6 / 3 % 3 = d2 at h a1 ⊢
  generalize N / 6 % 3 = d1 at h b1 ⊢
  generalize N % 6 = d0 at h a0 ⊢
  by_cases c : d4 = 0
  · rw [if_pos c] at h
    simp -dsimp -implicitDefEqProofs only [↓dNext.eq_1, ↓dBreak.eq_1, ↓dCont.eq_1, ↓dNever.eq_1, ↓dDrop.eq_1, ↓dRet.eq_1, ↓dRetN.eq_1, ↓dIf.eq_1, ↓dSet.eq_1, ↓dFrz.eq_1, ↓dUnp.eq_1, ↓dRetV.eq_1, ↓dAug.eq_1, ↓dSetI.eq_1, ↓dDelI.eq_1, ↓dFldS.eq_1, ↓dFldA.eq_1, ↓setAt.eq_1, ↓delAt.eq_1, ↓fldAt.eq_1, ↓dP.eq_1, ↓dPT.eq_1, ↓dPC.eq_1, ↓dPI.eq_1, ↓dXnil.eq_1, ↓dXcons.eq_1, ↓dxOp.eq_1, ↓dxOpL.eq_1, ↓dxUn.eq_1, ↓dxTst.eq_1, ↓truD.eq_1, ↓dxTru.eq_1, ↓dxAndT.eq_1, ↓dxOrT.eq_1, ↓dxNotT.eq_1, ↓dxAndE.eq_1, ↓dxOrE.eq_1, ↓dxNotE.eq_1, ↓dxIfE.eq_1, ↓dxTup.eq_1, ↓dxLst.eq_1, ↓dxCB.eq_1, ↓dxCall.eq_1, ↓dxMethP.eq_1, ↓dxMethV.eq_1, ↓dxMethN.eq_1, ↓dxAppP.eq_1, ↓dxAppV.eq_1, dxAppP.isL, ↓appAt.eq_1, ↓nmPl.eq_1, nmAt, ↓nmArg.eq_1, isOb, ↓dVar.eq_1, ↓dK.eq_1, ↓dOp.eq_1, ↓dUn.eq_1, ↓dNil.eq_1, ↓dCons.eq_1, ↓dCnil.eq_1, ↓dCcons.eq_1, ↓dCall.eq_1, ↓dTupD.eq_1, ↓dLstD.eq_1, ↓dTst.eq_1, ↓dTru.eq_1, ↓dAndT.eq_1, ↓dOrT.eq_1, ↓dNotT.eq_1, ↓dAndE.eq_1, ↓dOrE.eq_1, ↓dNotE.eq_1, ↓dIfE.eq_1, ↓dNewK.eq_1, ↓dFld.eq_1, ↓dYes.eq_1, ↓dIsi.eq_1, dTy, isiB, ↓dI.eq_1, ↓dIC.eq_1, ↓dAdd.eq_1, ↓dEq.eq_1, ↓dNe.eq_1, dIs, ↓dLtI.eq_1, ↓dLt.eq_1, ↓dLtB.eq_1, ↓dSub.eq_1, ↓dMul.eq_1, ↓dFdiv.eq_1, ↓dMod.eq_1, ↓dPow.eq_1, ↓dLe.eq_1, ↓dGt.eq_1, ↓dGe.eq_1, ↓dAddI.eq_1, ↓dNeg.eq_1, ↓dMulA.eq_1, ↓dInA.eq_1, ↓dInD.eq_1, ↓dIn.eq_1, keyIn, ↓dIxA.eq_1, ↓dGetD.eq_1, ↓dIx.eq_1, ↓dSl.eq_1, ↓dOnone.eq_1, ↓dOsome.eq_1, ↓dL1_ap, ↓dL2_ap, ↓dL1Z_ap, ↓fLen_ap, ↓fAbs_ap, ↓fInt_ap, ↓fStr_ap, ↓fMax_ap, ↓fMin_ap, ↓fList_ap, ↓fTup_ap, ↓fLenZ.eq_1, ↓fListZ.eq_1, ↓fSum_ap, ↓fAny_ap, ↓fAll_ap, ↓dpVar.eq_1, ↓dpFld.eq_1, ↓dpaNil.eq_1, ↓dpaP.eq_1, ↓dpaD.eq_1, ↓dPPA.eq_1, ↓dxaNil.eq_1, ↓dxaV.eq_1, ↓dxaD.eq_1, ↓dxaN.eq_1, ↓dgName.eq_1, ↓dgNil.eq_1, ↓dgCons_ap, ↓dgTup_ap, ↓dItems.eq_1, ↓dXItems.eq_1, ↓itemsD.eq_1, Z.own, Z.data, S.data, Z.dicv, S.dicv, Z.items, S.items, Z.mems, S.mems, Z.ownL, Z.dk, S.dk, Z.keep, Z.fin, kindT, keyD, keyT, keysD, keyA, atP, S.at, S.kids, S.wth, SF.pos, SF.get, SF.set, SF.len, SF.labs, SF.app, S.put, putP, repl, kill, killS, backM, ghM, argT, args, lendR, backR, apartAll, npre, apart, S.noT, S.tru, S.live, wipeS, List.getElem?_cons_zero, List.getElem?_cons_succ, List.getElem?_nil, List.set_cons_zero, List.set_cons_succ, List.cons_append, List.nil_append, List.replicate, List.length_cons, List.length_nil, List.map_cons, List.map_nil, List.drop_succ_cons, List.drop_zero, List.all_cons, List.all_nil, List.tail_cons, List.getD, Option.map_some, Option.map_none, Option.isSome_some, Option.isSome_none, Option.some.injEq, Bool.and_true, Bool.true_and, Bool.not_true, Bool.not_false, Bool.false_eq_true, Bool.and_self, Bool.or_false, Bool.false_or, if_true, if_false, ite_true, ite_false, and_true, true_and, true_or, or_true, decide_eq_true_eq, decide_true, decide_false, Bool.not_eq_true', Bool.not_eq_eq_eq_not, decide_not, not_false_eq_true, not_true_eq_false, ↓reduceIte, natlit, atI_lit, ↓dPre.eq_1, ↓fT_nx, ↓fT_rt, ↓fT_ex, Nat.reduceAdd, Int.reduceNeg, ↓eqD_int, ↓eqD_str, ↓eqD_bool, ↓dRng1.eq_1, ↓dRng2.eq_1, inV_ints, inV_strs, inV_int1, inV_str1, inV_nil, flat_ints, flat_strs, flatD, vOf, lookS, lookI, lookP, dropS, dropI, dropP, Nat.sub_self, List.replicate_zero, Option.getD_some, Option.getD_none, reduceCtorEq, List.append_nil, str_lit, sz_0, sz_1, sz_2, sz_3, sz_4, sz_5, sz_6, sz_7, sz_8, sz_9, sz_10, sz_11, sz_12, sz_13, sz_14, sz_15, sz_16, sz_17, sz_18, sz_19, sz_20, sz_21, sz_22, sz_23, sz_24, Nat.reduceSub, Nat.reduceMul, Nat.reduceDiv, Nat.reduceMod, Nat.reduceLT, Nat.reduceLeDiff, Nat.reduceEqDiff, Nat.reduceGT, Nat.reduceBEq, Int.reduceAdd, Int.reduceSub, Int.reduceMul, Int.reduceDiv, Int.reduceMod, Int.reduceLT, Int.reduceLE, Int.reduceEq, Int.reduceNe, Int.reduceGT, Int.reduceGE, Int.reduceToNat, String.reduceEq, String.reduceNe, and_false, false_and, ↓dCallF_eq, ↓dCallK_eq, ↓dxMake_eq, Option.isSome_map, ↓callA_eq, ↓dForS_eq, ↓dWhileS_eq, ↓dLc_eq, ↓dSeq_ap, ↓dTidy_ap, ↓dTidyN_ap, seqE_nx, seqE_rt, seqE_bk, seqE_ct, seqE_ex, tidyE_nx, tidyE_rt, tidyE_bk, tidyE_ct, tidyE_ex, tidyNE_nx, tidyNE_rt, tidyNE_bk, tidyNE_ct, tidyNE_ex, loopE_nx, loopE_rt, loopE_bk, loopE_ct, loopE_ex, ↓fE_nx, ↓fE_rt, ↓exSome, ↓rdS_ap, ↓fSort_ap, goE_nx, goE_rt, goE_bk, goE_ct, goE_ex, decide_eq_false_iff_not, ite_not, b__law_entry_L69, c]
    exact ⟨log_num (by omega), by rw [len_str "n"]; exact szOk (by show 1 + _ ≤ _; omega), h⟩
  · rw [if_neg c] at h
    have a0' := a0
    have a1' := a1
    simp only [states6, nodes3, List.map_cons, List.map_nil] at a0' a1'
    simp -dsimp -implicitDefEqProofs only [↓dNext.eq_1, ↓dBreak.eq_1, ↓dCont.eq_1, ↓dNever.eq_1, ↓dDrop.eq_1, ↓dRet.eq_1, ↓dRetN.eq_1, ↓dIf.eq_1, ↓dSet.eq_1, ↓dFrz.eq_1, ↓dUnp.eq_1, ↓dRetV.eq_1, ↓dAug.eq_1, ↓dSetI.eq_1, ↓dDelI.eq_1, ↓dFldS.eq_1, ↓dFldA.eq_1, ↓setAt.eq_1, ↓delAt.eq_1, ↓fldAt.eq_1, ↓dP.eq_1, ↓dPT.eq_1, ↓dPC.eq_1, ↓dPI.eq_1, ↓dXnil.eq_1, ↓dXcons.eq_1, ↓dxOp.eq_1, ↓dxOpL.eq_1, ↓dxUn.eq_1, ↓dxTst.eq_1, ↓truD.eq_1, ↓dxTru.eq_1, ↓dxAndT.eq_1, ↓dxOrT.eq_1, ↓dxNotT.eq_1, ↓dxAndE.eq_1, ↓dxOrE.eq_1, ↓dxNotE.eq_1, ↓dxIfE.eq_1, ↓dxTup.eq_1, ↓dxLst.eq_1, ↓dxCB.eq_1, ↓dxCall.eq_1, ↓dxMethP.eq_1, ↓dxMethV.eq_1, ↓dxMethN.eq_1, ↓dxAppP.eq_1, ↓dxAppV.eq_1, dxAppP.isL, ↓appAt.eq_1, ↓nmPl.eq_1, nmAt, ↓nmArg.eq_1, isOb, ↓dVar.eq_1, ↓dK.eq_1, ↓dOp.eq_1, ↓dUn.eq_1, ↓dNil.eq_1, ↓dCons.eq_1, ↓dCnil.eq_1, ↓dCcons.eq_1, ↓dCall.eq_1, ↓dTupD.eq_1, ↓dLstD.eq_1, ↓dTst.eq_1, ↓dTru.eq_1, ↓dAndT.eq_1, ↓dOrT.eq_1, ↓dNotT.eq_1, ↓dAndE.eq_1, ↓dOrE.eq_1, ↓dNotE.eq_1, ↓dIfE.eq_1, ↓dNewK.eq_1, ↓dFld.eq_1, ↓dYes.eq_1, ↓dIsi.eq_1, dTy, isiB, ↓dI.eq_1, ↓dIC.eq_1, ↓dAdd.eq_1, ↓dEq.eq_1, ↓dNe.eq_1, dIs, ↓dLtI.eq_1, ↓dLt.eq_1, ↓dLtB.eq_1, ↓dSub.eq_1, ↓dMul.eq_1, ↓dFdiv.eq_1, ↓dMod.eq_1, ↓dPow.eq_1, ↓dLe.eq_1, ↓dGt.eq_1, ↓dGe.eq_1, ↓dAddI.eq_1, ↓dNeg.eq_1, ↓dMulA.eq_1, ↓dInA.eq_1, ↓dInD.eq_1, ↓dIn.eq_1, keyIn, ↓dIxA.eq_1, ↓dGetD.eq_1, ↓dIx.eq_1, ↓dSl.eq_1, ↓dOnone.eq_1, ↓dOsome.eq_1, ↓dL1_ap, ↓dL2_ap, ↓dL1Z_ap, ↓fLen_ap, ↓fAbs_ap, ↓fInt_ap, ↓fStr_ap, ↓fMax_ap, ↓fMin_ap, ↓fList_ap, ↓fTup_ap, ↓fLenZ.eq_1, ↓fListZ.eq_1, ↓fSum_ap, ↓fAny_ap, ↓fAll_ap, ↓dpVar.eq_1, ↓dpFld.eq_1, ↓dpaNil.eq_1, ↓dpaP.eq_1, ↓dpaD.eq_1, ↓dPPA.eq_1, ↓dxaNil.eq_1, ↓dxaV.eq_1, ↓dxaD.eq_1, ↓dxaN.eq_1, ↓dgName.eq_1, ↓dgNil.eq_1, ↓dgCons_ap, ↓dgTup_ap, ↓dItems.eq_1, ↓dXItems.eq_1, ↓itemsD.eq_1, Z.own, Z.data, S.data, Z.dicv, S.dicv, Z.items, S.items, Z.mems, S.mems, Z.ownL, Z.dk, S.dk, Z.keep, Z.fin, kindT, keyD, keyT, keysD, keyA, atP, S.at, S.kids, S.wth, SF.pos, SF.get, SF.set, SF.len, SF.labs, SF.app, S.put, putP, repl, kill, killS, backM, ghM, argT, args, lendR, backR, apartAll, npre, apart, S.noT, S.tru, S.live, wipeS, List.getElem?_cons_zero, List.getElem?_cons_succ, List.getElem?_nil, List.set_cons_zero, List.set_cons_succ, List.cons_append, List.nil_append, List.replicate, List.length_cons, List.length_nil, List.map_cons, List.map_nil, List.drop_succ_cons, List.drop_zero, List.all_cons, List.all_nil, List.tail_cons, List.getD, Option.map_some, Option.map_none, Option.isSome_some, Option.isSome_none, Option.some.injEq, Bool.and_true, Bool.true_and, Bool.not_true, Bool.not_false, Bool.false_eq_true, Bool.and_self, Bool.or_false, Bool.false_or, if_true, if_false, ite_true, ite_false, and_true, true_and, true_or, or_true, decide_eq_true_eq, decide_true, decide_false, Bool.not_eq_true', Bool.not_eq_eq_eq_not, decide_not, not_false_eq_true, not_true_eq_false, ↓reduceIte, natlit, atI_lit, ↓dPre.eq_1, ↓fT_nx, ↓fT_rt, ↓fT_ex, Nat.reduceAdd, Int.reduceNeg, ↓eqD_int, ↓eqD_str, ↓eqD_bool, ↓dRng1.eq_1, ↓dRng2.eq_1, inV_ints, inV_strs, inV_int1, inV_str1, inV_nil, flat_ints, flat_strs, flatD, vOf, lookS, lookI, lookP, dropS, dropI, dropP, Nat.sub_self, List.replicate_zero, Option.getD_some, Option.getD_none, reduceCtorEq, List.append_nil, str_lit, sz_0, sz_1, sz_2, sz_3, sz_4, sz_5, sz_6, sz_7, sz_8, sz_9, sz_10, sz_11, sz_12, sz_13, sz_14, sz_15, sz_16, sz_17, sz_18, sz_19, sz_20, sz_21, sz_22, sz_23, sz_24, Nat.reduceSub, Nat.reduceMul, Nat.reduceDiv, Nat.reduceMod, Nat.reduceLT, Nat.reduceLeDiff, Nat.reduceEqDiff, Nat.reduceGT, Nat.reduceBEq, Int.reduceAdd, Int.reduceSub, Int.reduceMul, Int.reduceDiv, Int.reduceMod, Int.reduceLT, Int.reduceLE, Int.reduceEq, Int.reduceNe, Int.reduceGT, Int.reduceGE, Int.reduceToNat, String.reduceEq, String.reduceNe, and_false, false_and, ↓dCallF_eq, ↓dCallK_eq, ↓dxMake_eq, Option.isSome_map, ↓callA_eq, ↓dForS_eq, ↓dWhileS_eq, ↓dLc_eq, ↓dSeq_ap, ↓dTidy_ap, ↓dTidyN_ap, seqE_nx, seqE_rt, seqE_bk, seqE_ct, seqE_ex, tidyE_nx, tidyE_rt, tidyE_bk, tidyE_ct, tidyE_ex, tidyNE_nx, tidyNE_rt, tidyNE_bk, tidyNE_ct, tidyNE_ex, loopE_nx, loopE_rt, loopE_bk, loopE_ct, loopE_ex, ↓fE_nx, ↓fE_rt, ↓exSome, ↓rdS_ap, ↓fSort_ap, goE_nx, goE_rt, goE_bk, goE_ct, goE_ex, decide_eq_false_iff_not, ite_not, b__law_entry_L69, b__law_entry_L71, b__law_entry_L72, c, a0', a1']
    exact ⟨log_num (by omega), by rw [len_str "run "]; exact szOk (by show 4 + _ ≤ _; omega), cdiv, h⟩
theorem entry_ok (ns : List Int) (k : Int) : OkE (entry ns k) := by
  unfold entry entryN
  have o1 : ∀ i : Nat, PyData.strOk (states6.getD i "") = true := fun i => by
    match i with
    | 0 | 1 | 2 | 3 | 4 | 5 => exact ok_str _
    | _ + 6 => exact ok_str _
  have o2 : ∀ i : Nat, PyData.strOk (nodes3.getD i "") = true := fun i => by
    match i with
    | 0 | 1 | 2 => exact ok_str _
    | _ + 3 => exact ok_str _
  split
  · show PyData.strOk _ = true
    simp only [ok_app, ok_str, Bool.and_self]
  · exact ⟨by simp only [ok_app, ok_str, Bool.and_self], by simp only [ok_app, ok_str, Bool.and_self], o1 _, o2 _⟩
def F__law_one : FT := detT 6 fun ρ z ρ' => ∃ (es : List Ent) (node : Str) (life : Int) (xs : List (Str × Int)) (cs : List Int) (hs : List Str), ρ = [.v (.list (es.map encE)), .v (.str node), .v (.int life), runs xs, .v (.list (cs.map .int)), .v (.list (hs.map .str))] ∧ (es.length ≤ 1000) ∧ (∀ e ∈ es, OkE e) ∧ (xs.length < 64) ∧ (∀ p ∈ xs, p.2 ≠ 0) ∧ z = .v (.bool true) ∧ ρ' = [.no, .no, .no, runs xs, .no, .no]
theorem cl__law_one {es : List Ent} {node : Str} {life : Int} {xs : List (Str × Int)} {cs : List Int} {hs : List Str} (hl : es.length ≤ 1000) (ho : ∀ e ∈ es, OkE e) (hx : xs.length < 64) (hz : ∀ p ∈ xs, p.2 ≠ 0) {Q : Z → List S → Prop} {E : Exn → List S → Prop} (h : Q (.v (.bool true)) [.no, .no, .no, runs xs, .no, .no]) : F__law_one [.v (.list (es.map encE)), .v (.str node), .v (.int life), runs xs, .v (.list (cs.map .int)), .v (.list (hs.map .str))] Q E := ⟨rfl, _, _, ⟨es, node, life, xs, cs, hs, rfl, hl, ho, hx, hz, rfl, rfl⟩, h⟩
def b__law_one_B80 : dS := dTidy [7, 8, 9, 10, 11] ((dIf (dPT (dAndT (dTst (dOp dEq (dVar 7) (dK (.str "task")))) (dAndT (dTst (dOp dEq (dOp dIxA (dVar 11) (dK (.int 5))) (dVar 1))) (dTst (dOp dEq (dOp dIxA (dVar 11) (dK (.int 6))) (dVar 2)))))) (dDrop (dxAppP (dpVar 6) (dTupD (dCcons (dVar 8) (dCcons (dVar 9) (dCcons (dVar 10) (dCcons (dVar 11) dCnil))))))) dNext))
def b__law_one_B87 : dS := dTidy [8, 9, 10, 11] ((dIf (dxAndT (dPT (dTst (dOp dEq (dOp dIxA (dVar 11) (dK (.int 3))) (dK (.str "running"))))) (dxAndT (dPT (dTst (dOp dEq (dOp dIxA (dVar 11) (dK (.int 4))) (dK (.int 0))))) (dxAndT (dxTst (dxOp (dInA true) (dP (dVar 8)) (dxMethP 0 F_Runs_slots dd_Runs_slots (dpVar 3) dpaNil))) (dPT (dTst (dOp (dInA true) (dVar 9) (dVar 4))))))) (dDrop (dxAppP (dpVar 12) (dTupD (dCcons (dVar 8) (dCcons (dVar 9) (dCcons (dOp dIxA (dVar 11) (dK (.int 1))) (dCcons (dOp dIxA (dVar 11) (dK (.int 2))) dCnil))))))) dNext))
def b__law_one_L94 : dS := (dRet (dP (dOp dEq (dCallF F_next_end dd_next_end (dCcons (dVar 6) (dCcons (dVar 5) dCnil))) (dCallF F__law_first dd__law_first (dCcons (dVar 6) (dCcons (dLstD (dCcons (dK (.str "bound")) (dCcons (dK (.str "running")) dCnil))) (dCcons (dK (.int 1)) (dCcons (dVar 5) dCnil))))))))
def b__law_one_L92 : dS := (dSeq (dIf (dPT (dTst (dOp dNe (dCallF F_next_start dd_next_start (dCcons (dVar 6) (dCcons (dVar 5) dCnil))) (dCallF F__law_first dd__law_first (dCcons (dVar 6) (dCcons (dLstD (dCcons (dK (.str "bound")) dCnil)) (dCcons (dK (.int 0)) (dCcons (dVar 5) dCnil)))))))) (dRet (dP (dK (.bool false)))) dNext) b__law_one_L94)
def b__law_one_L90 : dS := (dSeq (dIf (dxTst (dxOp dNe (dxCall F_to_run dd_to_run (dPPA (dpaD (dVar 6) (dpaP (dpVar 3) (dpaD (dVar 4) dpaNil))))) (dP (dVar 12)))) (dRet (dP (dK (.bool false)))) dNext) b__law_one_L92)
def b__law_one_L87 : dS := (dSeq (dPre [7, 8, 9, 10, 11] (dFor (dPI (dItems (dVar 6))) (dgTup 4 (dgCons (dgName 8) (dgCons (dgName 9) (dgCons (dgName 10) (dgCons (dgName 11) dgNil))))) b__law_one_B87)) (dFrz 12 b__law_one_L90))
def b__law_one_L86 : dS := (dSeq (dSet 12 (dP (dLstD dCnil))) b__law_one_L87)
def b__law_one_L84 : dS := (dSeq (dIf (dPT (dTst (dOp dNe (dCallF F_tasks_of dd_tasks_of (dCcons (dVar 0) (dCcons (dVar 1) (dCcons (dVar 2) dCnil)))) (dVar 6)))) (dRet (dP (dK (.bool false)))) dNext) b__law_one_L86)
def b__law_one_L83 : dS := (dSeq (dSet 6 (dP (dCall (dL1Z fSortZ) (dCons (dVar 6) dNil)))) (dFrz 6 b__law_one_L84))
def b__law_one_L80 : dS := (dSeq (dPre [7, 8, 9, 10, 11, 12] (dFor (dPI (dItems (dVar 0))) (dgTup 5 (dgCons (dgName 7) (dgCons (dgName 8) (dgCons (dgName 9) (dgCons (dgName 10) (dgCons (dgName 11) dgNil)))))) b__law_one_B80)) b__law_one_L83)
def b__law_one : dS := (dSeq (dSet 6 (dP (dLstD dCnil))) b__law_one_L80)

theorem due_ok {es : List Ent} {node : Str} {life : Int} (ho : ∀ e ∈ es, OkE e) : ∀ t ∈ tasksOf es node life, t.Ok := fun t ht => mine_ok ho t ((List.mergeSort_perm _ _).mem_iff.mp ht)
theorem due_len {es : List Ent} {node : Str} {life : Int} (hl : es.length ≤ 1000) : (tasksOf es node life).length ≤ 1000 := by
  unfold tasksOf sortT
  rw [List.length_mergeSort]
  exact Nat.le_trans (mine_len node life es) hl
theorem nice_Ts {ts : List T} (h : ∀ t ∈ ts, t.Ok) : nice 3 (.list (ts.map encT)) := nice_list (nice_map fun t ht => nice_T (h t ht))
theorem nice_U {t : T} (h : t.Ok) : nice 2 (encU t) := by
  simp only [nice_tuple_iff, nice_list_iff, nice_int_iff, nice_bool_iff, nice_none_iff, nice_str_iff, List.forall_mem_cons, mem_nil_iff', List.forall_mem_map, and_true, true_and, implies_true, encU, h.name, h.txt]
theorem want_eq {xs : List (Str × Int)} {cs : List Int} (hz : ∀ p ∈ xs, p.2 ≠ 0) (t : T) : (decide (t.st = "running") && (decide (t.stop = 0) && (!decide (t.name ∈ sortS (xs.map Prod.fst)) && !decide (t.born ∈ cs)))) = wantU xs cs t := by
  unfold wantU
  have : (!decide (t.name ∈ sortS (xs.map Prod.fst))) = decide ((alook xs t.name).getD 0 = 0) := by
    simp only [(sortS_perm _).mem_iff]
    cases e : alook xs t.name with
    | none => rw [decide_eq_false (alook_none.mp e), decide_eq_true (show (none : Option Int).getD 0 = 0 from rfl)]; rfl
    | some b =>
      have hm := alook_some e
      rw [decide_eq_true (List.mem_map.mpr ⟨_, hm, rfl⟩), decide_eq_false (show ¬ (some b).getD 0 = 0 from hz _ hm)]
      rfl
  rw [this]
theorem sem__law_one : ∀ ρ Q Ed, F__law_one ρ Q Ed → ∀ g, b__law_one (fT m__law_one n__law_one.length g Q Ed) (argT m__law_one n__law_one.length g ρ) := by
  rintro ρ Q Ed ⟨_, z, ρ', ⟨es, node, life, xs, cs, hs, rfl, hl, ho, hx, hz, rfl, rfl⟩, h⟩ g
  have hd := due_ok (node := node) (life := life) ho
  have hdl := due_len (node := node) (life := life) hl
  have hml := mine_len node life es
  simp -dsimp -implicitDefEqProofs only [↓dNext.eq_1, ↓dBreak.eq_1, ↓dCont.eq_1, ↓dNever.eq_1, ↓dDrop.eq_1, ↓dRet.eq_1, ↓dRetN.eq_1, ↓dIf.eq_1, ↓dSet.eq_1, ↓dFrz.eq_1, ↓dUnp.eq_1, ↓dRetV.eq_1, ↓dAug.eq_1, ↓dSetI.eq_1, ↓dDelI.eq_1, ↓dFldS.eq_1, ↓dFldA.eq_1, ↓setAt.eq_1, ↓delAt.eq_1, ↓fldAt.eq_1, ↓dP.eq_1, ↓dPT.eq_1, ↓dPC.eq_1, ↓dPI.eq_1, ↓dXnil.eq_1, ↓dXcons.eq_1, ↓dxOp.eq_1, ↓dxOpL.eq_1, ↓dxUn.eq_1, ↓dxTst.eq_1, ↓truD.eq_1, ↓dxTru.eq_1, ↓dxAndT.eq_1, ↓dxOrT.eq_1, ↓dxNotT.eq_1, ↓dxAndE.eq_1, ↓dxOrE.eq_1, ↓dxNotE.eq_1, ↓dxIfE.eq_1, ↓dxTup.eq_1, ↓dxLst.eq_1, ↓dxCB.eq_1, ↓dxCall.eq_1, ↓dxMethP.eq_1, ↓dxMethV.eq_1, ↓dxMethN.eq_1, ↓dxAppP.eq_1, ↓dxAppV.eq_1, dxAppP.isL, ↓appAt.eq_1, ↓nmPl.eq_1, nmAt, ↓nmArg.eq_1, isOb, ↓dVar.eq_1, ↓dK.eq_1, ↓dOp.eq_1, ↓dUn.eq_1, ↓dNil.eq_1, ↓dCons.eq_1, ↓dCnil.eq_1, ↓dCcons.eq_1, ↓dCall.eq_1, ↓dTupD.eq_1, ↓dLstD.eq_1, ↓dTst.eq_1, ↓dTru.eq_1, ↓dAndT.eq_1, ↓dOrT.eq_1, ↓dNotT.eq_1, ↓dAndE.eq_1, ↓dOrE.eq_1, ↓dNotE.eq_1, ↓dIfE.eq_1, ↓dNewK.eq_1, ↓dFld.eq_1, ↓dYes.eq_1, ↓dIsi.eq_1, dTy, isiB, ↓dI.eq_1, ↓dIC.eq_1, ↓dAdd.eq_1, ↓dEq.eq_1, ↓dNe.eq_1, dIs, ↓dLtI.eq_1, ↓dLt.eq_1, ↓dLtB.eq_1, ↓dSub.eq_1, ↓dMul.eq_1, ↓dFdiv.eq_1, ↓dMod.eq_1, ↓dPow.eq_1, ↓dLe.eq_1, ↓dGt.eq_1, ↓dGe.eq_1, ↓dAddI.eq_1, ↓dNeg.eq_1, ↓dMulA.eq_1, ↓dInA.eq_1, ↓dInD.eq_1, ↓dIn.eq_1, keyIn, ↓dIxA.eq_1, ↓dGetD.eq_1, ↓dIx.eq_1, ↓dSl.eq_1, ↓dOnone.eq_1, ↓dOsome.eq_1, ↓dL1_ap, ↓dL2_ap, ↓dL1Z_ap, ↓fLen_ap, ↓fAbs_ap, ↓fInt_ap, ↓fStr_ap, ↓fMax_ap, ↓fMin_ap, ↓fList_ap, ↓fTup_ap, ↓fLenZ.eq_1, ↓fListZ.eq_1, ↓fSum_ap, ↓fAny_ap, ↓fAll_ap, ↓dpVar.eq_1, ↓dpFld.eq_1, ↓dpaNil.eq_1, ↓dpaP.eq_1, ↓dpaD.eq_1, ↓dPPA.eq_1, ↓dxaNil.eq_1, ↓dxaV.eq_1, ↓dxaD.eq_1, ↓dxaN.eq_1, ↓dgName.eq_1, ↓dgNil.eq_1, ↓dgCons_ap, ↓dgTup_ap, ↓dItems.eq_1, ↓dXItems.eq_1, ↓itemsD.eq_1, Z.own, Z.data, S.data, Z.dicv, S.dicv, Z.items, S.items, Z.mems, S.mems, Z.ownL, Z.dk, S.dk, Z.keep, Z.fin, kindT, keyD, keyT, keysD, keyA, atP, S.at, S.kids, S.wth, SF.pos, SF.get, SF.set, SF.len, SF.labs, SF.app, S.put, putP, repl, kill, killS, backM, ghM, argT, args, lendR, backR, apartAll, npre, apart, S.noT, S.tru, S.live, wipeS, List.getElem?_cons_zero, List.getElem?_cons_succ, List.getElem?_nil, List.set_cons_zero, List.set_cons_succ, List.cons_append, List.nil_append, List.replicate, List.length_cons, List.length_nil, List.map_cons, List.map_nil, List.drop_succ_cons, List.drop_zero, List.all_cons, List.all_nil, List.tail_cons, List.getD, Option.map_some, Option.map_none, Option.isSome_some, Option.isSome_none, Option.some.injEq, Bool.and_true, Bool.true_and, Bool.not_true, Bool.not_false, Bool.false_eq_true, Bool.and_self, Bool.or_false, Bool.false_or, if_true, if_false, ite_true, ite_false, and_true, true_and, true_or, or_true, decide_eq_true_eq, decide_true, decide_false, Bool.not_eq_true', Bool.not_eq_eq_eq_not, decide_not, not_false_eq_true, not_true_eq_false, ↓reduceIte, natlit, atI_lit, ↓dPre.eq_1, ↓fT_nx, ↓fT_rt, ↓fT_ex, Nat.reduceAdd, Int.reduceNeg, ↓eqD_int, ↓eqD_str, ↓eqD_bool, ↓dRng1.eq_1, ↓dRng2.eq_1, inV_ints, inV_strs, inV_int1, inV_str1, inV_nil, flat_ints, flat_strs, flatD, vOf, lookS, lookI, lookP, dropS, dropI, dropP, Nat.sub_self, List.replicate_zero, Option.getD_some, Option.getD_none, reduceCtorEq, List.append_nil, str_lit, sz_0, sz_1, sz_2, sz_3, sz_4, sz_5, sz_6, sz_7, sz_8, sz_9, sz_10, sz_11, sz_12, sz_13, sz_14, sz_15, sz_16, sz_17, sz_18, sz_19, sz_20, sz_21, sz_22, sz_23, sz_24, Nat.reduceSub, Nat.reduceMul, Nat.reduceDiv, Nat.reduceMod, Nat.reduceLT, Nat.reduceLeDiff, Nat.reduceEqDiff, Nat.reduceGT, Nat.reduceBEq, Int.reduceAdd, Int.reduceSub, Int.reduceMul, Int.reduceDiv, Int.reduceMod, Int.reduceLT, Int.reduceLE, Int.reduceEq, Int.reduceNe, Int.reduceGT, Int.reduceGE, Int.reduceToNat, String.reduceEq, String.reduceNe, and_false, false_and, ↓dCallF_eq, ↓dCallK_eq, ↓dxMake_eq, Option.isSome_map, ↓callA_eq, ↓dForS_eq, ↓dWhileS_eq, ↓dLc_eq, ↓dSeq_ap, ↓dTidy_ap, ↓dTidyN_ap, seqE_nx, seqE_rt, seqE_bk, seqE_ct, seqE_ex, tidyE_nx, tidyE_rt, tidyE_bk, tidyE_ct, tidyE_ex, tidyNE_nx, tidyNE_rt, tidyNE_bk, tidyNE_ct, tidyNE_ex, loopE_nx, loopE_rt, loopE_bk, loopE_ct, loopE_ex, ↓fE_nx, ↓fE_rt, ↓exSome, ↓rdS_ap, ↓fSort_ap, goE_nx, goE_rt, goE_bk, goE_ct, goE_ex, decide_eq_false_iff_not, ite_not, b__law_one, b__law_one_L80]
  refine for_pre (fun pre => [.v (.list (es.map encE)), .v (.str node), .v (.int life), runs xs, .v (.list (cs.map .int)), .v (.list (hs.map .str)), .l ((pre.flatMap (mine node life)).map encT), .no, .no, .no, .no, .no, .no, .gh (g 3) 3 []]) rfl ?_ ?_
  · intro pre e post he N hN
    have hz := mine_len node life pre
    have hp : pre.length ≤ 1000 := by have := congrArg List.length he; simp at this; omega
    rw [List.flatMap_append, List.map_append, List.flatMap_singleton] at hN
    cases e with
    | node name b rev l => simp -dsimp -implicitDefEqProofs only [↓dNext.eq_1, ↓dBreak.eq_1, ↓dCont.eq_1, ↓dNever.eq_1, ↓dDrop.eq_1, ↓dRet.eq_1, ↓dRetN.eq_1, ↓dIf.eq_1, ↓dSet.eq_1, ↓dFrz.eq_1, ↓dUnp.eq_1, ↓dRetV.eq_1, ↓dAug.eq_1, ↓dSetI.eq_1, ↓dDelI.eq_1, ↓dFldS.eq_1, ↓dFldA.eq_1, ↓setAt.eq_1, ↓delAt.eq_1, ↓fldAt.eq_1, ↓dP.eq_1, ↓dPT.eq_1, ↓dPC.eq_1, ↓dPI.eq_1, ↓dXnil.eq_1, ↓dXcons.eq_1, ↓dxOp.eq_1, ↓dxOpL.eq_1, ↓dxUn.eq_1, ↓dxTst.eq_1, ↓truD.eq_1, ↓dxTru.eq_1, ↓dxAndT.eq_1, ↓dxOrT.eq_1, ↓dxNotT.eq_1, ↓dxAndE.eq_1, ↓dxOrE.eq_1, ↓dxNotE.eq_1, ↓dxIfE.eq_1, ↓dxTup.eq_1, ↓dxLst.eq_1, ↓dxCB.eq_1, ↓dxCall.eq_1, ↓dxMethP.eq_1, ↓dxMethV.eq_1, ↓dxMethN.eq_1, ↓dxAppP.eq_1, ↓dxAppV.eq_1, dxAppP.isL, ↓appAt.eq_1, ↓nmPl.eq_1, nmAt, ↓nmArg.eq_1, isOb, ↓dVar.eq_1, ↓dK.eq_1, ↓dOp.eq_1, ↓dUn.eq_1, ↓dNil.eq_1, ↓dCons.eq_1, ↓dCnil.eq_1, ↓dCcons.eq_1, ↓dCall.eq_1, ↓dTupD.eq_1, ↓dLstD.eq_1, ↓dTst.eq_1, ↓dTru.eq_1, ↓dAndT.eq_1, ↓dOrT.eq_1, ↓dNotT.eq_1, ↓dAndE.eq_1, ↓dOrE.eq_1, ↓dNotE.eq_1, ↓dIfE.eq_1, ↓dNewK.eq_1, ↓dFld.eq_1, ↓dYes.eq_1, ↓dIsi.eq_1, dTy, isiB, ↓dI.eq_1, ↓dIC.eq_1, ↓dAdd.eq_1, ↓dEq.eq_1, ↓dNe.eq_1, dIs, ↓dLtI.eq_1, ↓dLt.eq_1, ↓dLtB.eq_1, ↓dSub.eq_1, ↓dMul.eq_1, ↓dFdiv.eq_1, ↓dMod.eq_1, ↓dPow.eq_1, ↓dLe.eq_1, ↓dGt.eq_1, ↓dGe.eq_1, ↓dAddI.eq_1, ↓dNeg.eq_1, ↓dMulA.eq_1, ↓dInA.eq_1, ↓dInD.eq_1, ↓dIn.eq_1, keyIn, ↓dIxA.eq_1, ↓dGetD.eq_1, ↓dIx.eq_1, ↓dSl.eq_1, ↓dOnone.eq_1, ↓dOsome.eq_1, ↓dL1_ap, ↓dL2_ap, ↓dL1Z_ap, ↓fLen_ap, ↓fAbs_ap, ↓fInt_ap, ↓fStr_ap, ↓fMax_ap, ↓fMin_ap, ↓fList_ap, ↓fTup_ap, ↓fLenZ.eq_1, ↓fListZ.eq_1, ↓fSum_ap, ↓fAny_ap, ↓fAll_ap, ↓dpVar.eq_1, ↓dpFld.eq_1, ↓dpaNil.eq_1, ↓dpaP.eq_1, ↓dpaD.eq_1, ↓dPPA.eq_1, ↓dxaNil.eq_1, ↓dxaV.eq_1, ↓dxaD.eq_1, ↓dxaN.eq_1, ↓dgName.eq_1, ↓dgNil.eq_1, ↓dgCons_ap, ↓dgTup_ap, ↓dItems.eq_1, ↓dXItems.eq_1, ↓itemsD.eq_1, Z.own, Z.data, S.data, Z.dicv, S.dicv, Z.items, S.items, Z.mems, S.mems, Z.ownL, Z.dk, S.dk, Z.keep, Z.fin, kindT, keyD, keyT, keysD, keyA, atP, S.at, S.kids, S.wth, SF.pos, SF.get, SF.set, SF.len, SF.labs, SF.app, S.put, putP, repl, kill, killS, backM, ghM, argT, args, lendR, backR, apartAll, npre, apart, S.noT, S.tru, S.live, wipeS, List.getElem?_cons_zero, List.getElem?_cons_succ, List.getElem?_nil, List.set_cons_zero, List.set_cons_succ, List.cons_append, List.nil_append, List.replicate, List.length_cons, List.length_nil, List.map_cons, List.map_nil, List.drop_succ_cons, List.drop_zero, List.all_cons, List.all_nil, List.tail_cons, List.getD, Option.map_some, Option.map_none, Option.isSome_some, Option.isSome_none, Option.some.injEq, Bool.and_true, Bool.true_and, Bool.not_true, Bool.not_false, Bool.false_eq_true, Bool.and_self, Bool.or_false, Bool.false_or, if_true, if_false, ite_true, ite_false, and_true, true_and, true_or, or_true, decide_eq_true_eq, decide_true, decide_false, Bool.not_eq_true', Bool.not_eq_eq_eq_not, decide_not, not_false_eq_true, not_true_eq_false, ↓reduceIte, natlit, atI_lit, ↓dPre.eq_1, ↓fT_nx, ↓fT_rt, ↓fT_ex, Nat.reduceAdd, Int.reduceNeg, ↓eqD_int, ↓eqD_str, ↓eqD_bool, ↓dRng1.eq_1, ↓dRng2.eq_1, inV_ints, inV_strs, inV_int1, inV_str1, inV_nil, flat_ints, flat_strs, flatD, vOf, lookS, lookI, lookP, dropS, dropI, dropP, Nat.sub_self, List.replicate_zero, Option.getD_some, Option.getD_none, reduceCtorEq, List.append_nil, str_lit, sz_0, sz_1, sz_2, sz_3, sz_4, sz_5, sz_6, sz_7, sz_8, sz_9, sz_10, sz_11, sz_12, sz_13, sz_14, sz_15, sz_16, sz_17, sz_18, sz_19, sz_20, sz_21, sz_22, sz_23, sz_24, Nat.reduceSub, Nat.reduceMul, Nat.reduceDiv, Nat.reduceMod, Nat.reduceLT, Nat.reduceLeDiff, Nat.reduceEqDiff, Nat.reduceGT, Nat.reduceBEq, Int.reduceAdd, Int.reduceSub, Int.reduceMul, Int.reduceDiv, Int.reduceMod, Int.reduceLT, Int.reduceLE, Int.reduceEq, Int.reduceNe, Int.reduceGT, Int.reduceGE, Int.reduceToNat, String.reduceEq, String.reduceNe, and_false, false_and, ↓dCallF_eq, ↓dCallK_eq, ↓dxMake_eq, Option.isSome_map, ↓callA_eq, ↓dForS_eq, ↓dWhileS_eq, ↓dLc_eq, ↓dSeq_ap, ↓dTidy_ap, ↓dTidyN_ap, seqE_nx, seqE_rt, seqE_bk, seqE_ct, seqE_ex, tidyE_nx, tidyE_rt, tidyE_bk, tidyE_ct, tidyE_ex, tidyNE_nx, tidyNE_rt, tidyNE_bk, tidyNE_ct, tidyNE_ex, loopE_nx, loopE_rt, loopE_bk, loopE_ct, loopE_ex, ↓fE_nx, ↓fE_rt, ↓exSome, ↓rdS_ap, ↓fSort_ap, goE_nx, goE_rt, goE_bk, goE_ct, goE_ex, decide_eq_false_iff_not, ite_not, encE, b__law_one_B80]; simpa [mine] using hN
    | task t =>
      simp -dsimp -implicitDefEqProofs only [↓dNext.eq_1, ↓dBreak.eq_1, ↓dCont.eq_1, ↓dNever.eq_1, ↓dDrop.eq_1, ↓dRet.eq_1, ↓dRetN.eq_1, ↓dIf.eq_1, ↓dSet.eq_1, ↓dFrz.eq_1, ↓dUnp.eq_1, ↓dRetV.eq_1, ↓dAug.eq_1, ↓dSetI.eq_1, ↓dDelI.eq_1, ↓dFldS.eq_1, ↓dFldA.eq_1, ↓setAt.eq_1, ↓delAt.eq_1, ↓fldAt.eq_1, ↓dP.eq_1, ↓dPT.eq_1, ↓dPC.eq_1, ↓dPI.eq_1, ↓dXnil.eq_1, ↓dXcons.eq_1, ↓dxOp.eq_1, ↓dxOpL.eq_1, ↓dxUn.eq_1, ↓dxTst.eq_1, ↓truD.eq_1, ↓dxTru.eq_1, ↓dxAndT.eq_1, ↓dxOrT.eq_1, ↓dxNotT.eq_1, ↓dxAndE.eq_1, ↓dxOrE.eq_1, ↓dxNotE.eq_1, ↓dxIfE.eq_1, ↓dxTup.eq_1, ↓dxLst.eq_1, ↓dxCB.eq_1, ↓dxCall.eq_1, ↓dxMethP.eq_1, ↓dxMethV.eq_1, ↓dxMethN.eq_1, ↓dxAppP.eq_1, ↓dxAppV.eq_1, dxAppP.isL, ↓appAt.eq_1, ↓nmPl.eq_1, nmAt, ↓nmArg.eq_1, isOb, ↓dVar.eq_1, ↓dK.eq_1, ↓dOp.eq_1, ↓dUn.eq_1, ↓dNil.eq_1, ↓dCons.eq_1, ↓dCnil.eq_1, ↓dCcons.eq_1, ↓dCall.eq_1, ↓dTupD.eq_1, ↓dLstD.eq_1, ↓dTst.eq_1, ↓dTru.eq_1, ↓dAndT.eq_1, ↓dOrT.eq_1, ↓dNotT.eq_1, ↓dAndE.eq_1, ↓dOrE.eq_1, ↓dNotE.eq_1, ↓dIfE.eq_1, ↓dNewK.eq_1, ↓dFld.eq_1, ↓dYes.eq_1, ↓dIsi.eq_1, dTy, isiB, ↓dI.eq_1, ↓dIC.eq_1, ↓dAdd.eq_1, ↓dEq.eq_1, ↓dNe.eq_1, dIs, ↓dLtI.eq_1, ↓dLt.eq_1, ↓dLtB.eq_1, ↓dSub.eq_1, ↓dMul.eq_1, ↓dFdiv.eq_1, ↓dMod.eq_1, ↓dPow.eq_1, ↓dLe.eq_1, ↓dGt.eq_1, ↓dGe.eq_1, ↓dAddI.eq_1, ↓dNeg.eq_1, ↓dMulA.eq_1, ↓dInA.eq_1, ↓dInD.eq_1, ↓dIn.eq_1, keyIn, ↓dIxA.eq_1, ↓dGetD.eq_1, ↓dIx.eq_1, ↓dSl.eq_1, ↓dOnone.eq_1, ↓dOsome.eq_1, ↓dL1_ap, ↓dL2_ap, ↓dL1Z_ap, ↓fLen_ap, ↓fAbs_ap, ↓fInt_ap, ↓fStr_ap, ↓fMax_ap, ↓fMin_ap, ↓fList_ap, ↓fTup_ap, ↓fLenZ.eq_1, ↓fListZ.eq_1, ↓fSum_ap, ↓fAny_ap, ↓fAll_ap, ↓dpVar.eq_1, ↓dpFld.eq_1, ↓dpaNil.eq_1, ↓dpaP.eq_1, ↓dpaD.eq_1, ↓dPPA.eq_1, ↓dxaNil.eq_1, ↓dxaV.eq_1, ↓dxaD.eq_1, ↓dxaN.eq_1, ↓dgName.eq_1, ↓dgNil.eq_1, ↓dgCons_ap, ↓dgTup_ap, ↓dItems.eq_1, ↓dXItems.eq_1, ↓itemsD.eq_1, Z.own, Z.data, S.data, Z.dicv, S.dicv, Z.items, S.items, Z.mems, S.mems, Z.ownL, Z.dk, S.dk, Z.keep, Z.fin, kindT, keyD, keyT, keysD, keyA, atP, S.at, S.kids, S.wth, SF.pos, SF.get, SF.set, SF.len, SF.labs, SF.app, S.put, putP, repl, kill, killS, backM, ghM, argT, args, lendR, backR, apartAll, npre, apart, S.noT, S.tru, S.live, wipeS, List.getElem?_cons_zero, List.getElem?_cons_succ, List.getElem?_nil, List.set_cons_zero, List.set_cons_succ, List.cons_append, List.nil_append, List.replicate, List.length_cons, List.length_nil, List.map_cons, List.map_nil, List.drop_succ_cons, List.drop_zero, List.all_cons, List.all_nil, List.tail_cons, List.getD, Option.map_some, Option.map_none, Option.isSome_some, Option.isSome_none, Option.some.injEq, Bool.and_true, Bool.true_and, Bool.not_true, Bool.not_false, Bool.false_eq_true, Bool.and_self, Bool.or_false, Bool.false_or, if_true, if_false, ite_true, ite_false, and_true, true_and, true_or, or_true, decide_eq_true_eq, decide_true, decide_false, Bool.not_eq_true', Bool.not_eq_eq_eq_not, decide_not, not_false_eq_true, not_true_eq_false, ↓reduceIte, natlit, atI_lit, ↓dPre.eq_1, ↓fT_nx, ↓fT_rt, ↓fT_ex, Nat.reduceAdd, Int.reduceNeg, ↓eqD_int, ↓eqD_str, ↓eqD_bool, ↓dRng1.eq_1, ↓dRng2.eq_1, inV_ints, inV_strs, inV_int1, inV_str1, inV_nil, flat_ints, flat_strs, flatD, vOf, lookS, lookI, lookP, dropS, dropI, dropP, Nat.sub_self, List.replicate_zero, Option.getD_some, Option.getD_none, reduceCtorEq, List.append_nil, str_lit, sz_0, sz_1, sz_2, sz_3, sz_4, sz_5, sz_6, sz_7, sz_8, sz_9, sz_10, sz_11, sz_12, sz_13, sz_14, sz_15, sz_16, sz_17, sz_18, sz_19, sz_20, sz_21, sz_22, sz_23, sz_24, Nat.reduceSub, Nat.reduceMul, Nat.reduceDiv, Nat.reduceMod, Nat.reduceLT, Nat.reduceLeDiff, Nat.reduceEqDiff, Nat.reduceGT, Nat.reduceBEq, Int.reduceAdd, Int.reduceSub, Int.reduceMul, Int.reduceDiv, Int.reduceMod, Int.reduceLT, Int.reduceLE, Int.reduceEq, Int.reduceNe, Int.reduceGT, Int.reduceGE, Int.reduceToNat, String.reduceEq, String.reduceNe, and_false, false_and, ↓dCallF_eq, ↓dCallK_eq, ↓dxMake_eq, Option.isSome_map, ↓callA_eq, ↓dForS_eq, ↓dWhileS_eq, ↓dLc_eq, ↓dSeq_ap, ↓dTidy_ap, ↓dTidyN_ap, seqE_nx, seqE_rt, seqE_bk, seqE_ct, seqE_ex, tidyE_nx, tidyE_rt, tidyE_bk, tidyE_ct, tidyE_ex, tidyNE_nx, tidyNE_rt, tidyNE_bk, tidyNE_ct, tidyNE_ex, loopE_nx, loopE_rt, loopE_bk, loopE_ct, loopE_ex, ↓fE_nx, ↓fE_rt, ↓exSome, ↓rdS_ap, ↓fSort_ap, goE_nx, goE_rt, goE_bk, goE_ct, goE_ex, decide_eq_false_iff_not, ite_not, encE, b__law_one_B80]
      rw [mine_task] at hN
      by_cases c : t.node = node <;> by_cases c2 : t.life = life <;> simp only [c, c2, if_true, if_false, and_true, and_false, List.map_nil, List.append_nil] at hN ⊢ <;> first | exact hN | exact ⟨szm (by omega), hN⟩
  simp -dsimp -implicitDefEqProofs only [↓dNext.eq_1, ↓dBreak.eq_1, ↓dCont.eq_1, ↓dNever.eq_1, ↓dDrop.eq_1, ↓dRet.eq_1, ↓dRetN.eq_1, ↓dIf.eq_1, ↓dSet.eq_1, ↓dFrz.eq_1, ↓dUnp.eq_1, ↓dRetV.eq_1, ↓dAug.eq_1, ↓dSetI.eq_1, ↓dDelI.eq_1, ↓dFldS.eq_1, ↓dFldA.eq_1, ↓setAt.eq_1, ↓delAt.eq_1, ↓fldAt.eq_1, ↓dP.eq_1, ↓dPT.eq_1, ↓dPC.eq_1, ↓dPI.eq_1, ↓dXnil.eq_1, ↓dXcons.eq_1, ↓dxOp.eq_1, ↓dxOpL.eq_1, ↓dxUn.eq_1, ↓dxTst.eq_1, ↓truD.eq_1, ↓dxTru.eq_1, ↓dxAndT.eq_1, ↓dxOrT.eq_1, ↓dxNotT.eq_1, ↓dxAndE.eq_1, ↓dxOrE.eq_1, ↓dxNotE.eq_1, ↓dxIfE.eq_1, ↓dxTup.eq_1, ↓dxLst.eq_1, ↓dxCB.eq_1, ↓dxCall.eq_1, ↓dxMethP.eq_1, ↓dxMethV.eq_1, ↓dxMethN.eq_1, ↓dxAppP.eq_1, ↓dxAppV.eq_1, dxAppP.isL, ↓appAt.eq_1, ↓nmPl.eq_1, nmAt, ↓nmArg.eq_1, isOb, ↓dVar.eq_1, ↓dK.eq_1, ↓dOp.eq_1, ↓dUn.eq_1, ↓dNil.eq_1, ↓dCons.eq_1, ↓dCnil.eq_1, ↓dCcons.eq_1, ↓dCall.eq_1, ↓dTupD.eq_1, ↓dLstD.eq_1, ↓dTst.eq_1, ↓dTru.eq_1, ↓dAndT.eq_1, ↓dOrT.eq_1, ↓dNotT.eq_1, ↓dAndE.eq_1, ↓dOrE.eq_1, ↓dNotE.eq_1, ↓dIfE.eq_1, ↓dNewK.eq_1, ↓dFld.eq_1, ↓dYes.eq_1, ↓dIsi.eq_1, dTy, isiB, ↓dI.eq_1, ↓dIC.eq_1, ↓dAdd.eq_1, ↓dEq.eq_1, ↓dNe.eq_1, dIs, ↓dLtI.eq_1, ↓dLt.eq_1, ↓dLtB.eq_1, ↓dSub.eq_1, ↓dMul.eq_1, ↓dFdiv.eq_1, ↓dMod.eq_1, ↓dPow.eq_1, ↓dLe.eq_1, ↓dGt.eq_1, ↓dGe.eq_1, ↓dAddI.eq_1, ↓dNeg.eq_1, ↓dMulA.eq_1, ↓dInA.eq_1, ↓dInD.eq_1, ↓dIn.eq_1, keyIn, ↓dIxA.eq_1, ↓dGetD.eq_1, ↓dIx.eq_1, ↓dSl.eq_1, ↓dOnone.eq_1, ↓dOsome.eq_1, ↓dL1_ap, ↓dL2_ap, ↓dL1Z_ap, ↓fLen_ap, ↓fAbs_ap, ↓fInt_ap, ↓fStr_ap, ↓fMax_ap, ↓fMin_ap, ↓fList_ap, ↓fTup_ap, ↓fLenZ.eq_1, ↓fListZ.eq_1, ↓fSum_ap, ↓fAny_ap, ↓fAll_ap, ↓dpVar.eq_1, ↓dpFld.eq_1, ↓dpaNil.eq_1, ↓dpaP.eq_1, ↓dpaD.eq_1, ↓dPPA.eq_1, ↓dxaNil.eq_1, ↓dxaV.eq_1, ↓dxaD.eq_1, ↓dxaN.eq_1, ↓dgName.eq_1, ↓dgNil.eq_1, ↓dgCons_ap, ↓dgTup_ap, ↓dItems.eq_1, ↓dXItems.eq_1, ↓itemsD.eq_1, Z.own, Z.data, S.data, Z.dicv, S.dicv, Z.items, S.items, Z.mems, S.mems, Z.ownL, Z.dk, S.dk, Z.keep, Z.fin, kindT, keyD, keyT, keysD, keyA, atP, S.at, S.kids, S.wth, SF.pos, SF.get, SF.set, SF.len, SF.labs, SF.app, S.put, putP, repl, kill, killS, backM, ghM, argT, args, lendR, backR, apartAll, npre, apart, S.noT, S.tru, S.live, wipeS, List.getElem?_cons_zero, List.getElem?_cons_succ, List.getElem?_nil, List.set_cons_zero, List.set_cons_succ, List.cons_append, List.nil_append, List.replicate, List.length_cons, List.length_nil, List.map_cons, List.map_nil, List.drop_succ_cons, List.drop_zero, List.all_cons, List.all_nil, List.tail_cons, List.getD, Option.map_some, Option.map_none, Option.isSome_some, Option.isSome_none, Option.some.injEq, Bool.and_true, Bool.true_and, Bool.not_true, Bool.not_false, Bool.false_eq_true, Bool.and_self, Bool.or_false, Bool.false_or, if_true, if_false, ite_true, ite_false, and_true, true_and, true_or, or_true, decide_eq_true_eq, decide_true, decide_false, Bool.not_eq_true', Bool.not_eq_eq_eq_not, decide_not, not_false_eq_true, not_true_eq_false, ↓reduceIte, natlit, atI_lit, ↓dPre.eq_1, ↓fT_nx, ↓fT_rt, ↓fT_ex, Nat.reduceAdd, Int.reduceNeg, ↓eqD_int, ↓eqD_str, ↓eqD_bool, ↓dRng1.eq_1, ↓dRng2.eq_1, inV_ints, inV_strs, inV_int1, inV_str1, inV_nil, flat_ints, flat_strs, flatD, vOf, lookS, lookI, lookP, dropS, dropI, dropP, Nat.sub_self, List.replicate_zero, Option.getD_some, Option.getD_none, reduceCtorEq, List.append_nil, str_lit, sz_0, sz_1, sz_2, sz_3, sz_4, sz_5, sz_6, sz_7, sz_8, sz_9, sz_10, sz_11, sz_12, sz_13, sz_14, sz_15, sz_16, sz_17, sz_18, sz_19, sz_20, sz_21, sz_22, sz_23, sz_24, Nat.reduceSub, Nat.reduceMul, Nat.reduceDiv, Nat.reduceMod, Nat.reduceLT, Nat.reduceLeDiff, Nat.reduceEqDiff, Nat.reduceGT, Nat.reduceBEq, Int.reduceAdd, Int.reduceSub, Int.reduceMul, Int.reduceDiv, Int.reduceMod, Int.reduceLT, Int.reduceLE, Int.reduceEq, Int.reduceNe, Int.reduceGT, Int.reduceGE, Int.reduceToNat, String.reduceEq, String.reduceNe, and_false, false_and, ↓dCallF_eq, ↓dCallK_eq, ↓dxMake_eq, Option.isSome_map, ↓callA_eq, ↓dForS_eq, ↓dWhileS_eq, ↓dLc_eq, ↓dSeq_ap, ↓dTidy_ap, ↓dTidyN_ap, seqE_nx, seqE_rt, seqE_bk, seqE_ct, seqE_ex, tidyE_nx, tidyE_rt, tidyE_bk, tidyE_ct, tidyE_ex, tidyNE_nx, tidyNE_rt, tidyNE_bk, tidyNE_ct, tidyNE_ex, loopE_nx, loopE_rt, loopE_bk, loopE_ct, loopE_ex, ↓fE_nx, ↓fE_rt, ↓exSome, ↓rdS_ap, ↓fSort_ap, goE_nx, goE_rt, goE_bk, goE_ct, goE_ex, decide_eq_false_iff_not, ite_not, b__law_one_L83]
  refine ⟨sort_ok (Nat.le_trans hml hl) (mine_ok ho), ?_⟩
  rw [sortT_enc]
  show b__law_one_L84 _ [_, _, _, _, _, _, .v (.list ((tasksOf es node life).map encT)), _, _, _, _, _, _, _]
  have hn := nice_Ts hd
  simp -dsimp -implicitDefEqProofs only [↓dNext.eq_1, ↓dBreak.eq_1, ↓dCont.eq_1, ↓dNever.eq_1, ↓dDrop.eq_1, ↓dRet.eq_1, ↓dRetN.eq_1, ↓dIf.eq_1, ↓dSet.eq_1, ↓dFrz.eq_1, ↓dUnp.eq_1, ↓dRetV.eq_1, ↓dAug.eq_1, ↓dSetI.eq_1, ↓dDelI.eq_1, ↓dFldS.eq_1, ↓dFldA.eq_1, ↓setAt.eq_1, ↓delAt.eq_1, ↓fldAt.eq_1, ↓dP.eq_1, ↓dPT.eq_1, ↓dPC.eq_1, ↓dPI.eq_1, ↓dXnil.eq_1, ↓dXcons.eq_1, ↓dxOp.eq_1, ↓dxOpL.eq_1, ↓dxUn.eq_1, ↓dxTst.eq_1, ↓truD.eq_1, ↓dxTru.eq_1, ↓dxAndT.eq_1, ↓dxOrT.eq_1, ↓dxNotT.eq_1, ↓dxAndE.eq_1, ↓dxOrE.eq_1, ↓dxNotE.eq_1, ↓dxIfE.eq_1, ↓dxTup.eq_1, ↓dxLst.eq_1, ↓dxCB.eq_1, ↓dxCall.eq_1, ↓dxMethP.eq_1, ↓dxMethV.eq_1, ↓dxMethN.eq_1, ↓dxAppP.eq_1, ↓dxAppV.eq_1, dxAppP.isL, ↓appAt.eq_1, ↓nmPl.eq_1, nmAt, ↓nmArg.eq_1, isOb, ↓dVar.eq_1, ↓dK.eq_1, ↓dOp.eq_1, ↓dUn.eq_1, ↓dNil.eq_1, ↓dCons.eq_1, ↓dCnil.eq_1, ↓dCcons.eq_1, ↓dCall.eq_1, ↓dTupD.eq_1, ↓dLstD.eq_1, ↓dTst.eq_1, ↓dTru.eq_1, ↓dAndT.eq_1, ↓dOrT.eq_1, ↓dNotT.eq_1, ↓dAndE.eq_1, ↓dOrE.eq_1, ↓dNotE.eq_1, ↓dIfE.eq_1, ↓dNewK.eq_1, ↓dFld.eq_1, ↓dYes.eq_1, ↓dIsi.eq_1, dTy, isiB, ↓dI.eq_1, ↓dIC.eq_1, ↓dAdd.eq_1, ↓dEq.eq_1, ↓dNe.eq_1, dIs, ↓dLtI.eq_1, ↓dLt.eq_1, ↓dLtB.eq_1, ↓dSub.eq_1, ↓dMul.eq_1, ↓dFdiv.eq_1, ↓dMod.eq_1, ↓dPow.eq_1, ↓dLe.eq_1, ↓dGt.eq_1, ↓dGe.eq_1, ↓dAddI.eq_1, ↓dNeg.eq_1, ↓dMulA.eq_1, ↓dInA.eq_1, ↓dInD.eq_1, ↓dIn.eq_1, keyIn, ↓dIxA.eq_1, ↓dGetD.eq_1, ↓dIx.eq_1, ↓dSl.eq_1, ↓dOnone.eq_1, ↓dOsome.eq_1, ↓dL1_ap, ↓dL2_ap, ↓dL1Z_ap, ↓fLen_ap, ↓fAbs_ap, ↓fInt_ap, ↓fStr_ap, ↓fMax_ap, ↓fMin_ap, ↓fList_ap, ↓fTup_ap, ↓fLenZ.eq_1, ↓fListZ.eq_1, ↓fSum_ap, ↓fAny_ap, ↓fAll_ap, ↓dpVar.eq_1, ↓dpFld.eq_1, ↓dpaNil.eq_1, ↓dpaP.eq_1, ↓dpaD.eq_1, ↓dPPA.eq_1, ↓dxaNil.eq_1, ↓dxaV.eq_1, ↓dxaD.eq_1, ↓dxaN.eq_1, ↓dgName.eq_1, ↓dgNil.eq_1, ↓dgCons_ap, ↓dgTup_ap, ↓dItems.eq_1, ↓dXItems.eq_1, ↓itemsD.eq_1, Z.own, Z.data, S.data, Z.dicv, S.dicv, Z.items, S.items, Z.mems, S.mems, Z.ownL, Z.dk, S.dk, Z.keep, Z.fin, kindT, keyD, keyT, keysD, keyA, atP, S.at, S.kids, S.wth, SF.pos, SF.get, SF.set, SF.len, SF.labs, SF.app, S.put, putP, repl, kill, killS, backM, ghM, argT, args, lendR, backR, apartAll, npre, apart, S.noT, S.tru, S.live, wipeS, List.getElem?_cons_zero, List.getElem?_cons_succ, List.getElem?_nil, List.set_cons_zero, List.set_cons_succ, List.cons_append, List.nil_append, List.replicate, List.length_cons, List.length_nil, List.map_cons, List.map_nil, List.drop_succ_cons, List.drop_zero, List.all_cons, List.all_nil, List.tail_cons, List.getD, Option.map_some, Option.map_none, Option.isSome_some, Option.isSome_none, Option.some.injEq, Bool.and_true, Bool.true_and, Bool.not_true, Bool.not_false, Bool.false_eq_true, Bool.and_self, Bool.or_false, Bool.false_or, if_true, if_false, ite_true, ite_false, and_true, true_and, true_or, or_true, decide_eq_true_eq, decide_true, decide_false, Bool.not_eq_true', Bool.not_eq_eq_eq_not, decide_not, not_false_eq_true, not_true_eq_false, ↓reduceIte, natlit, atI_lit, ↓dPre.eq_1, ↓fT_nx, ↓fT_rt, ↓fT_ex, Nat.reduceAdd, Int.reduceNeg, ↓eqD_int, ↓eqD_str, ↓eqD_bool, ↓dRng1.eq_1, ↓dRng2.eq_1, inV_ints, inV_strs, inV_int1, inV_str1, inV_nil, flat_ints, flat_strs, flatD, vOf, lookS, lookI, lookP, dropS, dropI, dropP, Nat.sub_self, List.replicate_zero, Option.getD_some, Option.getD_none, reduceCtorEq, List.append_nil, str_lit, sz_0, sz_1, sz_2, sz_3, sz_4, sz_5, sz_6, sz_7, sz_8, sz_9, sz_10, sz_11, sz_12, sz_13, sz_14, sz_15, sz_16, sz_17, sz_18, sz_19, sz_20, sz_21, sz_22, sz_23, sz_24, Nat.reduceSub, Nat.reduceMul, Nat.reduceDiv, Nat.reduceMod, Nat.reduceLT, Nat.reduceLeDiff, Nat.reduceEqDiff, Nat.reduceGT, Nat.reduceBEq, Int.reduceAdd, Int.reduceSub, Int.reduceMul, Int.reduceDiv, Int.reduceMod, Int.reduceLT, Int.reduceLE, Int.reduceEq, Int.reduceNe, Int.reduceGT, Int.reduceGE, Int.reduceToNat, String.reduceEq, String.reduceNe, and_false, false_and, ↓dCallF_eq, ↓dCallK_eq, ↓dxMake_eq, Option.isSome_map, ↓callA_eq, ↓dForS_eq, ↓dWhileS_eq, ↓dLc_eq, ↓dSeq_ap, ↓dTidy_ap, ↓dTidyN_ap, seqE_nx, seqE_rt, seqE_bk, seqE_ct, seqE_ex, tidyE_nx, tidyE_rt, tidyE_bk, tidyE_ct, tidyE_ex, tidyNE_nx, tidyNE_rt, tidyNE_bk, tidyNE_ct, tidyNE_ex, loopE_nx, loopE_rt, loopE_bk, loopE_ct, loopE_ex, ↓fE_nx, ↓fE_rt, ↓exSome, ↓rdS_ap, ↓fSort_ap, goE_nx, goE_rt, goE_bk, goE_ct, goE_ex, decide_eq_false_iff_not, ite_not, b__law_one_L84]
  refine callF_of (cl_tasks_of hl ho ?_)
  generalize tasksOf es node life = ts at hd hdl hn ⊢
  simp -dsimp -implicitDefEqProofs only [↓dNext.eq_1, ↓dBreak.eq_1, ↓dCont.eq_1, ↓dNever.eq_1, ↓dDrop.eq_1, ↓dRet.eq_1, ↓dRetN.eq_1, ↓dIf.eq_1, ↓dSet.eq_1, ↓dFrz.eq_1, ↓dUnp.eq_1, ↓dRetV.eq_1, ↓dAug.eq_1, ↓dSetI.eq_1, ↓dDelI.eq_1, ↓dFldS.eq_1, ↓dFldA.eq_1, ↓setAt.eq_1, ↓delAt.eq_1, ↓fldAt.eq_1, ↓dP.eq_1, ↓dPT.eq_1, ↓dPC.eq_1, ↓dPI.eq_1, ↓dXnil.eq_1, ↓dXcons.eq_1, ↓dxOp.eq_1, ↓dxOpL.eq_1, ↓dxUn.eq_1, ↓dxTst.eq_1, ↓truD.eq_1, ↓dxTru.eq_1, ↓dxAndT.eq_1, ↓dxOrT.eq_1, ↓dxNotT.eq_1, ↓dxAndE.eq_1, ↓dxOrE.eq_1, ↓dxNotE.eq_1, ↓dxIfE.eq_1, ↓dxTup.eq_1, ↓dxLst.eq_1, ↓dxCB.eq_1, ↓dxCall.eq_1, ↓dxMethP.eq_1, ↓dxMethV.eq_1, ↓dxMethN.eq_1, ↓dxAppP.eq_1, ↓dxAppV.eq_1, dxAppP.isL, ↓appAt.eq_1, ↓nmPl.eq_1, nmAt, ↓nmArg.eq_1, isOb, ↓dVar.eq_1, ↓dK.eq_1, ↓dOp.eq_1, ↓dUn.eq_1, ↓dNil.eq_1, ↓dCons.eq_1, ↓dCnil.eq_1, ↓dCcons.eq_1, ↓dCall.eq_1, ↓dTupD.eq_1, ↓dLstD.eq_1, ↓dTst.eq_1, ↓dTru.eq_1, ↓dAndT.eq_1, ↓dOrT.eq_1, ↓dNotT.eq_1, ↓dAndE.eq_1, ↓dOrE.eq_1, ↓dNotE.eq_1, ↓dIfE.eq_1, ↓dNewK.eq_1, ↓dFld.eq_1, ↓dYes.eq_1, ↓dIsi.eq_1, dTy, isiB, ↓dI.eq_1, ↓dIC.eq_1, ↓dAdd.eq_1, ↓dEq.eq_1, ↓dNe.eq_1, dIs, ↓dLtI.eq_1, ↓dLt.eq_1, ↓dLtB.eq_1, ↓dSub.eq_1, ↓dMul.eq_1, ↓dFdiv.eq_1, ↓dMod.eq_1, ↓dPow.eq_1, ↓dLe.eq_1, ↓dGt.eq_1, ↓dGe.eq_1, ↓dAddI.eq_1, ↓dNeg.eq_1, ↓dMulA.eq_1, ↓dInA.eq_1, ↓dInD.eq_1, ↓dIn.eq_1, keyIn, ↓dIxA.eq_1, ↓dGetD.eq_1, ↓dIx.eq_1, ↓dSl.eq_1, ↓dOnone.eq_1, ↓dOsome.eq_1, ↓dL1_ap, ↓dL2_ap, ↓dL1Z_ap, ↓fLen_ap, ↓fAbs_ap, ↓fInt_ap, ↓fStr_ap, ↓fMax_ap, ↓fMin_ap, ↓fList_ap, ↓fTup_ap, ↓fLenZ.eq_1, ↓fListZ.eq_1, ↓fSum_ap, ↓fAny_ap, ↓fAll_ap, ↓dpVar.eq_1, ↓dpFld.eq_1, ↓dpaNil.eq_1, ↓dpaP.eq_1, ↓dpaD.eq_1, ↓dPPA.eq_1, ↓dxaNil.eq_1, ↓dxaV.eq_1, ↓dxaD.eq_1, ↓dxaN.eq_1, ↓dgName.eq_1, ↓dgNil.eq_1, ↓dgCons_ap, ↓dgTup_ap, ↓dItems.eq_1, ↓dXItems.eq_1, ↓itemsD.eq_1, Z.own, Z.data, S.data, Z.dicv, S.dicv, Z.items, S.items, Z.mems, S.mems, Z.ownL, Z.dk, S.dk, Z.keep, Z.fin, kindT, keyD, keyT, keysD, keyA, atP, S.at, S.kids, S.wth, SF.pos, SF.get, SF.set, SF.len, SF.labs, SF.app, S.put, putP, repl, kill, killS, backM, ghM, argT, args, lendR, backR, apartAll, npre, apart, S.noT, S.tru, S.live, wipeS, List.getElem?_cons_zero, List.getElem?_cons_succ, List.getElem?_nil, List.set_cons_zero, List.set_cons_succ, List.cons_append, List.nil_append, List.replicate, List.length_cons, List.length_nil, List.map_cons, List.map_nil, List.drop_succ_cons, List.drop_zero, List.all_cons, List.all_nil, List.tail_cons, List.getD, Option.map_some, Option.map_none, Option.isSome_some, Option.isSome_none, Option.some.injEq, Bool.and_true, Bool.true_and, Bool.not_true, Bool.not_false, Bool.false_eq_true, Bool.and_self, Bool.or_false, Bool.false_or, if_true, if_false, ite_true, ite_false, and_true, true_and, true_or, or_true, decide_eq_true_eq, decide_true, decide_false, Bool.not_eq_true', Bool.not_eq_eq_eq_not, decide_not, not_false_eq_true, not_true_eq_false, ↓reduceIte, natlit, atI_lit, ↓dPre.eq_1, ↓fT_nx, ↓fT_rt, ↓fT_ex, Nat.reduceAdd, Int.reduceNeg, ↓eqD_int, ↓eqD_str, ↓eqD_bool, ↓dRng1.eq_1, ↓dRng2.eq_1, inV_ints, inV_strs, inV_int1, inV_str1, inV_nil, flat_ints, flat_strs, flatD, vOf, lookS, lookI, lookP, dropS, dropI, dropP, Nat.sub_self, List.replicate_zero, Option.getD_some, Option.getD_none, reduceCtorEq, List.append_nil, str_lit, sz_0, sz_1, sz_2, sz_3, sz_4, sz_5, sz_6, sz_7, sz_8, sz_9, sz_10, sz_11, sz_12, sz_13, sz_14, sz_15, sz_16, sz_17, sz_18, sz_19, sz_20, sz_21, sz_22, sz_23, sz_24, Nat.reduceSub, Nat.reduceMul, Nat.reduceDiv, Nat.reduceMod, Nat.reduceLT, Nat.reduceLeDiff, Nat.reduceEqDiff, Nat.reduceGT, Nat.reduceBEq, Int.reduceAdd, Int.reduceSub, Int.reduceMul, Int.reduceDiv, Int.reduceMod, Int.reduceLT, Int.reduceLE, Int.reduceEq, Int.reduceNe, Int.reduceGT, Int.reduceGE, Int.reduceToNat, String.reduceEq, String.reduceNe, and_false, false_and, ↓dCallF_eq, ↓dCallK_eq, ↓dxMake_eq, Option.isSome_map, ↓callA_eq, ↓dForS_eq, ↓dWhileS_eq, ↓dLc_eq, ↓dSeq_ap, ↓dTidy_ap, ↓dTidyN_ap, seqE_nx, seqE_rt, seqE_bk, seqE_ct, seqE_ex, tidyE_nx, tidyE_rt, tidyE_bk, tidyE_ct, tidyE_ex, tidyNE_nx, tidyNE_rt, tidyNE_bk, tidyNE_ct, tidyNE_ex, loopE_nx, loopE_rt, loopE_bk, loopE_ct, loopE_ex, ↓fE_nx, ↓fE_rt, ↓exSome, ↓rdS_ap, ↓fSort_ap, goE_nx, goE_rt, goE_bk, goE_ct, goE_ex, decide_eq_false_iff_not, ite_not]
  refine eqD_same rfl hn (q := ?_)
  simp -dsimp -implicitDefEqProofs only [↓dNext.eq_1, ↓dBreak.eq_1, ↓dCont.eq_1, ↓dNever.eq_1, ↓dDrop.eq_1, ↓dRet.eq_1, ↓dRetN.eq_1, ↓dIf.eq_1, ↓dSet.eq_1, ↓dFrz.eq_1, ↓dUnp.eq_1, ↓dRetV.eq_1, ↓dAug.eq_1, ↓dSetI.eq_1, ↓dDelI.eq_1, ↓dFldS.eq_1, ↓dFldA.eq_1, ↓setAt.eq_1, ↓delAt.eq_1, ↓fldAt.eq_1, ↓dP.eq_1, ↓dPT.eq_1, ↓dPC.eq_1, ↓dPI.eq_1, ↓dXnil.eq_1, ↓dXcons.eq_1, ↓dxOp.eq_1, ↓dxOpL.eq_1, ↓dxUn.eq_1, ↓dxTst.eq_1, ↓truD.eq_1, ↓dxTru.eq_1, ↓dxAndT.eq_1, ↓dxOrT.eq_1, ↓dxNotT.eq_1, ↓dxAndE.eq_1, ↓dxOrE.eq_1, ↓dxNotE.eq_1, ↓dxIfE.eq_1, ↓dxTup.eq_1, ↓dxLst.eq_1, ↓dxCB.eq_1, ↓dxCall.eq_1, ↓dxMethP.eq_1, ↓dxMethV.eq_1, ↓dxMethN.eq_1, ↓dxAppP.eq_1, ↓dxAppV.eq_1, dxAppP.isL, ↓appAt.eq_1, ↓nmPl.eq_1, nmAt, ↓nmArg.eq_1, isOb, ↓dVar.eq_1, ↓dK.eq_1, ↓dOp.eq_1, ↓dUn.eq_1, ↓dNil.eq_1, ↓dCons.eq_1, ↓dCnil.eq_1, ↓dCcons.eq_1, ↓dCall.eq_1, ↓dTupD.eq_1, ↓dLstD.eq_1, ↓dTst.eq_1, ↓dTru.eq_1, ↓dAndT.eq_1, ↓dOrT.eq_1, ↓dNotT.eq_1, ↓dAndE.eq_1, ↓dOrE.eq_1, ↓dNotE.eq_1, ↓dIfE.eq_1, ↓dNewK.eq_1, ↓dFld.eq_1, ↓dYes.eq_1, ↓dIsi.eq_1, dTy, isiB, ↓dI.eq_1, ↓dIC.eq_1, ↓dAdd.eq_1, ↓dEq.eq_1, ↓dNe.eq_1, dIs, ↓dLtI.eq_1, ↓dLt.eq_1, ↓dLtB.eq_1, ↓dSub.eq_1, ↓dMul.eq_1, ↓dFdiv.eq_1, ↓dMod.eq_1, ↓dPow.eq_1, ↓dLe.eq_1, ↓dGt.eq_1, ↓dGe.eq_1, ↓dAddI.eq_1, ↓dNeg.eq_1, ↓dMulA.eq_1, ↓dInA.eq_1, ↓dInD.eq_1, ↓dIn.eq_1, keyIn, ↓dIxA.eq_1, ↓dGetD.eq_1, ↓dIx.eq_1, ↓dSl.eq_1, ↓dOnone.eq_1, ↓dOsome.eq_1, ↓dL1_ap, ↓dL2_ap, ↓dL1Z_ap, ↓fLen_ap, ↓fAbs_ap, ↓fInt_ap, ↓fStr_ap, ↓fMax_ap, ↓fMin_ap, ↓fList_ap, ↓fTup_ap, ↓fLenZ.eq_1, ↓fListZ.eq_1, ↓fSum_ap, ↓fAny_ap, ↓fAll_ap, ↓dpVar.eq_1, ↓dpFld.eq_1, ↓dpaNil.eq_1, ↓dpaP.eq_1, ↓dpaD.eq_1, ↓dPPA.eq_1, ↓dxaNil.eq_1, ↓dxaV.eq_1, ↓dxaD.eq_1, ↓dxaN.eq_1, ↓dgName.eq_1, ↓dgNil.eq_1, ↓dgCons_ap, ↓dgTup_ap, ↓dItems.eq_1, ↓dXItems.eq_1, ↓itemsD.eq_1, Z.own, Z.data, S.data, Z.dicv, S.dicv, Z.items, S.items, Z.mems, S.mems, Z.ownL, Z.dk, S.dk, Z.keep, Z.fin, kindT, keyD, keyT, keysD, keyA, atP, S.at, S.kids, S.wth, SF.pos, SF.get, SF.set, SF.len, SF.labs, SF.app, S.put, putP, repl, kill, killS, backM, ghM, argT, args, lendR, backR, apartAll, npre, apart, S.noT, S.tru, S.live, wipeS, List.getElem?_cons_zero, List.getElem?_cons_succ, List.getElem?_nil, List.set_cons_zero, List.set_cons_succ, List.cons_append, List.nil_append, List.replicate, List.length_cons, List.length_nil, List.map_cons, List.map_nil, List.drop_succ_cons, List.drop_zero, List.all_cons, List.all_nil, List.tail_cons, List.getD, Option.map_some, Option.map_none, Option.isSome_some, Option.isSome_none, Option.some.injEq, Bool.and_true, Bool.true_and, Bool.not_true, Bool.not_false, Bool.false_eq_true, Bool.and_self, Bool.or_false, Bool.false_or, if_true, if_false, ite_true, ite_false, and_true, true_and, true_or, or_true, decide_eq_true_eq, decide_true, decide_false, Bool.not_eq_true', Bool.not_eq_eq_eq_not, decide_not, not_false_eq_true, not_true_eq_false, ↓reduceIte, natlit, atI_lit, ↓dPre.eq_1, ↓fT_nx, ↓fT_rt, ↓fT_ex, Nat.reduceAdd, Int.reduceNeg, ↓eqD_int, ↓eqD_str, ↓eqD_bool, ↓dRng1.eq_1, ↓dRng2.eq_1, inV_ints, inV_strs, inV_int1, inV_str1, inV_nil, flat_ints, flat_strs, flatD, vOf, lookS, lookI, lookP, dropS, dropI, dropP, Nat.sub_self, List.replicate_zero, Option.getD_some, Option.getD_none, reduceCtorEq, List.append_nil, str_lit, sz_0, sz_1, sz_2, sz_3, sz_4, sz_5, sz_6, sz_7, sz_8, sz_9, sz_10, sz_11, sz_12, sz_13, sz_14, sz_15, sz_16, sz_17, sz_18, sz_19, sz_20, sz_21, sz_22, sz_23, sz_24, Nat.reduceSub, Nat.reduceMul, Nat.reduceDiv, Nat.reduceMod, Nat.reduceLT, Nat.reduceLeDiff, Nat.reduceEqDiff, Nat.reduceGT, Nat.reduceBEq, Int.reduceAdd, Int.reduceSub, Int.reduceMul, Int.reduceDiv, Int.reduceMod, Int.reduceLT, Int.reduceLE, Int.reduceEq, Int.reduceNe, Int.reduceGT, Int.reduceGE, Int.reduceToNat, String.reduceEq, String.reduceNe, and_false, false_and, ↓dCallF_eq, ↓dCallK_eq, ↓dxMake_eq, Option.isSome_map, ↓callA_eq, ↓dForS_eq, ↓dWhileS_eq, ↓dLc_eq, ↓dSeq_ap, ↓dTidy_ap, ↓dTidyN_ap, seqE_nx, seqE_rt, seqE_bk, seqE_ct, seqE_ex, tidyE_nx, tidyE_rt, tidyE_bk, tidyE_ct, tidyE_ex, tidyNE_nx, tidyNE_rt, tidyNE_bk, tidyNE_ct, tidyNE_ex, loopE_nx, loopE_rt, loopE_bk, loopE_ct, loopE_ex, ↓fE_nx, ↓fE_rt, ↓exSome, ↓rdS_ap, ↓fSort_ap, goE_nx, goE_rt, goE_bk, goE_ct, goE_ex, decide_eq_false_iff_not, ite_not, b__law_one_L86, b__law_one_L87]
  refine for_pre (fun pre => [.v (.list (es.map encE)), .v (.str node), .v (.int life), runs xs, .v (.list (cs.map .int)), .v (.list (hs.map .str)), .v (.list (ts.map encT)), .no, .no, .no, .no, .no, .l ((pre.filter (wantU xs cs)).map encU), .gh (g 3) 3 []]) rfl ?_ ?_
  · intro pre t post he N hN
    have hp : pre.length ≤ 1000 := by have := congrArg List.length he; simp at this; omega
    have hzl := List.length_filter_le (wantU xs cs) pre
    rw [List.filter_append, List.map_append] at hN
    have hw := want_eq hz (cs := cs) t
    simp -dsimp -implicitDefEqProofs only [↓dNext.eq_1, ↓dBreak.eq_1, ↓dCont.eq_1, ↓dNever.eq_1, ↓dDrop.eq_1, ↓dRet.eq_1, ↓dRetN.eq_1, ↓dIf.eq_1, ↓dSet.eq_1, ↓dFrz.eq_1, ↓dUnp.eq_1, ↓dRetV.eq_1, ↓dAug.eq_1, ↓dSetI.eq_1, ↓dDelI.eq_1, ↓dFldS.eq_1, ↓dFldA.eq_1, ↓setAt.eq_1, ↓delAt.eq_1, ↓fldAt.eq_1, ↓dP.eq_1, ↓dPT.eq_1, ↓dPC.eq_1, ↓dPI.eq_1, ↓dXnil.eq_1, ↓dXcons.eq_1, ↓dxOp.eq_1, ↓dxOpL.eq_1, ↓dxUn.eq_1, ↓dxTst.eq_1, ↓truD.eq_1, ↓dxTru.eq_1, ↓dxAndT.eq_1, ↓dxOrT.eq_1, ↓dxNotT.eq_1, ↓dxAndE.eq_1, ↓dxOrE.eq_1, ↓dxNotE.eq_1, ↓dxIfE.eq_1, ↓dxTup.eq_1, ↓dxLst.eq_1, ↓dxCB.eq_1, ↓dxCall.eq_1, ↓dxMethP.eq_1, ↓dxMethV.eq_1, ↓dxMethN.eq_1, ↓dxAppP.eq_1, ↓dxAppV.eq_1, dxAppP.isL, ↓appAt.eq_1, ↓nmPl.eq_1, nmAt, ↓nmArg.eq_1, isOb, ↓dVar.eq_1, ↓dK.eq_1, ↓dOp.eq_1, ↓dUn.eq_1, ↓dNil.eq_1, ↓dCons.eq_1, ↓dCnil.eq_1, ↓dCcons.eq_1, ↓dCall.eq_1, ↓dTupD.eq_1, ↓dLstD.eq_1, ↓dTst.eq_1, ↓dTru.eq_1, ↓dAndT.eq_1, ↓dOrT.eq_1, ↓dNotT.eq_1, ↓dAndE.eq_1, ↓dOrE.eq_1, ↓dNotE.eq_1, ↓dIfE.eq_1, ↓dNewK.eq_1, ↓dFld.eq_1, ↓dYes.eq_1, ↓dIsi.eq_1, dTy, isiB, ↓dI.eq_1, ↓dIC.eq_1, ↓dAdd.eq_1, ↓dEq.eq_1, ↓dNe.eq_1, dIs, ↓dLtI.eq_1, ↓dLt.eq_1, ↓dLtB.eq_1, ↓dSub.eq_1, ↓dMul.eq_1, ↓dFdiv.eq_1, ↓dMod.eq_1, ↓dPow.eq_1, ↓dLe.eq_1, ↓dGt.eq_1, ↓dGe.eq_1, ↓dAddI.eq_1, ↓dNeg.eq_1, ↓dMulA.eq_1, ↓dInA.eq_1, ↓dInD.eq_1, ↓dIn.eq_1, keyIn, ↓dIxA.eq_1, ↓dGetD.eq_1, ↓dIx.eq_1, ↓dSl.eq_1, ↓dOnone.eq_1, ↓dOsome.eq_1, ↓dL1_ap, ↓dL2_ap, ↓dL1Z_ap, ↓fLen_ap, ↓fAbs_ap, ↓fInt_ap, ↓fStr_ap, ↓fMax_ap, ↓fMin_ap, ↓fList_ap, ↓fTup_ap, ↓fLenZ.eq_1, ↓fListZ.eq_1, ↓fSum_ap, ↓fAny_ap, ↓fAll_ap, ↓dpVar.eq_1, ↓dpFld.eq_1, ↓dpaNil.eq_1, ↓dpaP.eq_1, ↓dpaD.eq_1, ↓dPPA.eq_1, ↓dxaNil.eq_1, ↓dxaV.eq_1, ↓dxaD.eq_1, ↓dxaN.eq_1, ↓dgName.eq_1, ↓dgNil.eq_1, ↓dgCons_ap, ↓dgTup_ap, ↓dItems.eq_1, ↓dXItems.eq_1, ↓itemsD.eq_1, Z.own, Z.data, S.data, Z.dicv, S.dicv, Z.items, S.items, Z.mems, S.mems, Z.ownL, Z.dk, S.dk, Z.keep, Z.fin, kindT, keyD, keyT, keysD, keyA, atP, S.at, S.kids, S.wth, SF.pos, SF.get, SF.set, SF.len, SF.labs, SF.app, S.put, putP, repl, kill, killS, backM, ghM, argT, args, lendR, backR, apartAll, npre, apart, S.noT, S.tru, S.live, wipeS, List.getElem?_cons_zero, List.getElem?_cons_succ, List.getElem?_nil, List.set_cons_zero, List.set_cons_succ, List.cons_append, List.nil_append, List.replicate, List.length_cons, List.length_nil, List.map_cons, List.map_nil, List.drop_succ_cons, List.drop_zero, List.all_cons, List.all_nil, List.tail_cons, List.getD, Option.map_some, Option.map_none, Option.isSome_some, Option.isSome_none, Option.some.injEq, Bool.and_true, Bool.true_and, Bool.not_true, Bool.not_false, Bool.false_eq_true, Bool.and_self, Bool.or_false, Bool.false_or, if_true, if_false, ite_true, ite_false, and_true, true_and, true_or, or_true, decide_eq_true_eq, decide_true, decide_false, Bool.not_eq_true', Bool.not_eq_eq_eq_not, decide_not, not_false_eq_true, not_true_eq_false, ↓reduceIte, natlit, atI_lit, ↓dPre.eq_1, ↓fT_nx, ↓fT_rt, ↓fT_ex, Nat.reduceAdd, Int.reduceNeg, ↓eqD_int, ↓eqD_str, ↓eqD_bool, ↓dRng1.eq_1, ↓dRng2.eq_1, inV_ints, inV_strs, inV_int1, inV_str1, inV_nil, flat_ints, flat_strs, flatD, vOf, lookS, lookI, lookP, dropS, dropI, dropP, Nat.sub_self, List.replicate_zero, Option.getD_some, Option.getD_none, reduceCtorEq, List.append_nil, str_lit, sz_0, sz_1, sz_2, sz_3, sz_4, sz_5, sz_6, sz_7, sz_8, sz_9, sz_10, sz_11, sz_12, sz_13, sz_14, sz_15, sz_16, sz_17, sz_18, sz_19, sz_20, sz_21, sz_22, sz_23, sz_24, Nat.reduceSub, Nat.reduceMul, Nat.reduceDiv, Nat.reduceMod, Nat.reduceLT, Nat.reduceLeDiff, Nat.reduceEqDiff, Nat.reduceGT, Nat.reduceBEq, Int.reduceAdd, Int.reduceSub, Int.reduceMul, Int.reduceDiv, Int.reduceMod, Int.reduceLT, Int.reduceLE, Int.reduceEq, Int.reduceNe, Int.reduceGT, Int.reduceGE, Int.reduceToNat, String.reduceEq, String.reduceNe, and_false, false_and, ↓dCallF_eq, ↓dCallK_eq, ↓dxMake_eq, Option.isSome_map, ↓callA_eq, ↓dForS_eq, ↓dWhileS_eq, ↓dLc_eq, ↓dSeq_ap, ↓dTidy_ap, ↓dTidyN_ap, seqE_nx, seqE_rt, seqE_bk, seqE_ct, seqE_ex, tidyE_nx, tidyE_rt, tidyE_bk, tidyE_ct, tidyE_ex, tidyNE_nx, tidyNE_rt, tidyNE_bk, tidyNE_ct, tidyNE_ex, loopE_nx, loopE_rt, loopE_bk, loopE_ct, loopE_ex, ↓fE_nx, ↓fE_rt, ↓exSome, ↓rdS_ap, ↓fSort_ap, goE_nx, goE_rt, goE_bk, goE_ct, goE_ex, decide_eq_false_iff_not, ite_not, b__law_one_B87]
    by_cases c1 : t.st = "running"
    case neg => rw [if_neg c1]; simpa [wantU, c1] using hN
    rw [if_pos c1]
    by_cases c2 : t.stop = 0
    case neg => rw [if_neg c2]; simpa [wantU, c2] using hN
    rw [if_pos c2]
    refine callS_of (by repeat' (first | exact True.intro | rfl | (refine ⟨?_, ?_⟩))) (cl_Runs_slots hx ?_)
    simp -dsimp -implicitDefEqProofs only [↓dNext.eq_1, ↓dBreak.eq_1, ↓dCont.eq_1, ↓dNever.eq_1, ↓dDrop.eq_1, ↓dRet.eq_1, ↓dRetN.eq_1, ↓dIf.eq_1, ↓dSet.eq_1, ↓dFrz.eq_1, ↓dUnp.eq_1, ↓dRetV.eq_1, ↓dAug.eq_1, ↓dSetI.eq_1, ↓dDelI.eq_1, ↓dFldS.eq_1, ↓dFldA.eq_1, ↓setAt.eq_1, ↓delAt.eq_1, ↓fldAt.eq_1, ↓dP.eq_1, ↓dPT.eq_1, ↓dPC.eq_1, ↓dPI.eq_1, ↓dXnil.eq_1, ↓dXcons.eq_1, ↓dxOp.eq_1, ↓dxOpL.eq_1, ↓dxUn.eq_1, ↓dxTst.eq_1, ↓truD.eq_1, ↓dxTru.eq_1, ↓dxAndT.eq_1, ↓dxOrT.eq_1, ↓dxNotT.eq_1, ↓dxAndE.eq_1, ↓dxOrE.eq_1, ↓dxNotE.eq_1, ↓dxIfE.eq_1, ↓dxTup.eq_1, ↓dxLst.eq_1, ↓dxCB.eq_1, ↓dxCall.eq_1, ↓dxMethP.eq_1, ↓dxMethV.eq_1, ↓dxMethN.eq_1, ↓dxAppP.eq_1, ↓dxAppV.eq_1, dxAppP.isL, ↓appAt.eq_1, ↓nmPl.eq_1, nmAt, ↓nmArg.eq_1, isOb, ↓dVar.eq_1, ↓dK.eq_1, ↓dOp.eq_1, ↓dUn.eq_1, ↓dNil.eq_1, ↓dCons.eq_1, ↓dCnil.eq_1, ↓dCcons.eq_1, ↓dCall.eq_1, ↓dTupD.eq_1, ↓dLstD.eq_1, ↓dTst.eq_1, ↓dTru.eq_1, ↓dAndT.eq_1, ↓dOrT.eq_1, ↓dNotT.eq_1, ↓dAndE.eq_1, ↓dOrE.eq_1, ↓dNotE.eq_1, ↓dIfE.eq_1, ↓dNewK.eq_1, ↓dFld.eq_1, ↓dYes.eq_1, ↓dIsi.eq_1, dTy, isiB, ↓dI.eq_1, ↓dIC.eq_1, ↓dAdd.eq_1, ↓dEq.eq_1, ↓dNe.eq_1, dIs, ↓dLtI.eq_1, ↓dLt.eq_1, ↓dLtB.eq_1, ↓dSub.eq_1, ↓dMul.eq_1, ↓dFdiv.eq_1, ↓dMod.eq_1, ↓dPow.eq_1, ↓dLe.eq_1, ↓dGt.eq_1, ↓dGe.eq_1, ↓dAddI.eq_1, ↓dNeg.eq_1, ↓dMulA.eq_1, ↓dInA.eq_1, ↓dInD.eq_1, ↓dIn.eq_1, keyIn, ↓dIxA.eq_1, ↓dGetD.eq_1, ↓dIx.eq_1, ↓dSl.eq_1, ↓dOnone.eq_1, ↓dOsome.eq_1, ↓dL1_ap, ↓dL2_ap, ↓dL1Z_ap, ↓fLen_ap, ↓fAbs_ap, ↓fInt_ap, ↓fStr_ap, ↓fMax_ap, ↓fMin_ap, ↓fList_ap, ↓fTup_ap, ↓fLenZ.eq_1, ↓fListZ.eq_1, ↓fSum_ap, ↓fAny_ap, ↓fAll_ap, ↓dpVar.eq_1, ↓dpFld.eq_1, ↓dpaNil.eq_1, ↓dpaP.eq_1, ↓dpaD.eq_1, ↓dPPA.eq_1, ↓dxaNil.eq_1, ↓dxaV.eq_1, ↓dxaD.eq_1, ↓dxaN.eq_1, ↓dgName.eq_1, ↓dgNil.eq_1, ↓dgCons_ap, ↓dgTup_ap, ↓dItems.eq_1, ↓dXItems.eq_1, ↓itemsD.eq_1, Z.own, Z.data, S.data, Z.dicv, S.dicv, Z.items, S.items, Z.mems, S.mems, Z.ownL, Z.dk, S.dk, Z.keep, Z.fin, kindT, keyD, keyT, keysD, keyA, atP, S.at, S.kids, S.wth, SF.pos, SF.get, SF.set, SF.len, SF.labs, SF.app, S.put, putP, repl, kill, killS, backM, ghM, argT, args, lendR, backR, apartAll, npre, apart, S.noT, S.tru, S.live, wipeS, List.getElem?_cons_zero, List.getElem?_cons_succ, List.getElem?_nil, List.set_cons_zero, List.set_cons_succ, List.cons_append, List.nil_append, List.replicate, List.length_cons, List.length_nil, List.map_cons, List.map_nil, List.drop_succ_cons, List.drop_zero, List.all_cons, List.all_nil, List.tail_cons, List.getD, Option.map_some, Option.map_none, Option.isSome_some, Option.isSome_none, Option.some.injEq, Bool.and_true, Bool.true_and, Bool.not_true, Bool.not_false, Bool.false_eq_true, Bool.and_self, Bool.or_false, Bool.false_or, if_true, if_false, ite_true, ite_false, and_true, true_and, true_or, or_true, decide_eq_true_eq, decide_true, decide_false, Bool.not_eq_true', Bool.not_eq_eq_eq_not, decide_not, not_false_eq_true, not_true_eq_false, ↓reduceIte, natlit, atI_lit, ↓dPre.eq_1, ↓fT_nx, ↓fT_rt, ↓fT_ex, Nat.reduceAdd, Int.reduceNeg, ↓eqD_int, ↓eqD_str, ↓eqD_bool, ↓dRng1.eq_1, ↓dRng2.eq_1, inV_ints, inV_strs, inV_int1, inV_str1, inV_nil, flat_ints, flat_strs, flatD, vOf, lookS, lookI, lookP, dropS, dropI, dropP, Nat.sub_self, List.replicate_zero, Option.getD_some, Option.getD_none, reduceCtorEq, List.append_nil, str_lit, sz_0, sz_1, sz_2, sz_3, sz_4, sz_5, sz_6, sz_7, sz_8, sz_9, sz_10, sz_11, sz_12, sz_13, sz_14, sz_15, sz_16, sz_17, sz_18, sz_19, sz_20, sz_21, sz_22, sz_23, sz_24, Nat.reduceSub, Nat.reduceMul, Nat.reduceDiv, Nat.reduceMod, Nat.reduceLT, Nat.reduceLeDiff, Nat.reduceEqDiff, Nat.reduceGT, Nat.reduceBEq, Int.reduceAdd, Int.reduceSub, Int.reduceMul, Int.reduceDiv, Int.reduceMod, Int.reduceLT, Int.reduceLE, Int.reduceEq, Int.reduceNe, Int.reduceGT, Int.reduceGE, Int.reduceToNat, String.reduceEq, String.reduceNe, and_false, false_and, ↓dCallF_eq, ↓dCallK_eq, ↓dxMake_eq, Option.isSome_map, ↓callA_eq, ↓dForS_eq, ↓dWhileS_eq, ↓dLc_eq, ↓dSeq_ap, ↓dTidy_ap, ↓dTidyN_ap, seqE_nx, seqE_rt, seqE_bk, seqE_ct, seqE_ex, tidyE_nx, tidyE_rt, tidyE_bk, tidyE_ct, tidyE_ex, tidyNE_nx, tidyNE_rt, tidyNE_bk, tidyNE_ct, tidyNE_ex, loopE_nx, loopE_rt, loopE_bk, loopE_ct, loopE_ex, ↓fE_nx, ↓fE_rt, ↓exSome, ↓rdS_ap, ↓fSort_ap, goE_nx, goE_rt, goE_bk, goE_ct, goE_ex, decide_eq_false_iff_not, ite_not]
    by_cases c3 : t.name ∈ sortS (xs.map Prod.fst)
    case pos => simp -dsimp -implicitDefEqProofs only [↓dNext.eq_1, ↓dBreak.eq_1, ↓dCont.eq_1, ↓dNever.eq_1, ↓dDrop.eq_1, ↓dRet.eq_1, ↓dRetN.eq_1, ↓dIf.eq_1, ↓dSet.eq_1, ↓dFrz.eq_1, ↓dUnp.eq_1, ↓dRetV.eq_1, ↓dAug.eq_1, ↓dSetI.eq_1, ↓dDelI.eq_1, ↓dFldS.eq_1, ↓dFldA.eq_1, ↓setAt.eq_1, ↓delAt.eq_1, ↓fldAt.eq_1, ↓dP.eq_1, ↓dPT.eq_1, ↓dPC.eq_1, ↓dPI.eq_1, ↓dXnil.eq_1, ↓dXcons.eq_1, ↓dxOp.eq_1, ↓dxOpL.eq_1, ↓dxUn.eq_1, ↓dxTst.eq_1, ↓truD.eq_1, ↓dxTru.eq_1, ↓dxAndT.eq_1, ↓dxOrT.eq_1, ↓dxNotT.eq_1, ↓dxAndE.eq_1, ↓dxOrE.eq_1, ↓dxNotE.eq_1, ↓dxIfE.eq_1, ↓dxTup.eq_1, ↓dxLst.eq_1, ↓dxCB.eq_1, ↓dxCall.eq_1, ↓dxMethP.eq_1, ↓dxMethV.eq_1, ↓dxMethN.eq_1, ↓dxAppP.eq_1, ↓dxAppV.eq_1, dxAppP.isL, ↓appAt.eq_1, ↓nmPl.eq_1, nmAt, ↓nmArg.eq_1, isOb, ↓dVar.eq_1, ↓dK.eq_1, ↓dOp.eq_1, ↓dUn.eq_1, ↓dNil.eq_1, ↓dCons.eq_1, ↓dCnil.eq_1, ↓dCcons.eq_1, ↓dCall.eq_1, ↓dTupD.eq_1, ↓dLstD.eq_1, ↓dTst.eq_1, ↓dTru.eq_1, ↓dAndT.eq_1, ↓dOrT.eq_1, ↓dNotT.eq_1, ↓dAndE.eq_1, ↓dOrE.eq_1, ↓dNotE.eq_1, ↓dIfE.eq_1, ↓dNewK.eq_1, ↓dFld.eq_1, ↓dYes.eq_1, ↓dIsi.eq_1, dTy, isiB, ↓dI.eq_1, ↓dIC.eq_1, ↓dAdd.eq_1, ↓dEq.eq_1, ↓dNe.eq_1, dIs, ↓dLtI.eq_1, ↓dLt.eq_1, ↓dLtB.eq_1, ↓dSub.eq_1, ↓dMul.eq_1, ↓dFdiv.eq_1, ↓dMod.eq_1, ↓dPow.eq_1, ↓dLe.eq_1, ↓dGt.eq_1, ↓dGe.eq_1, ↓dAddI.eq_1, ↓dNeg.eq_1, ↓dMulA.eq_1, ↓dInA.eq_1, ↓dInD.eq_1, ↓dIn.eq_1, keyIn, ↓dIxA.eq_1, ↓dGetD.eq_1, ↓dIx.eq_1, ↓dSl.eq_1, ↓dOnone.eq_1, ↓dOsome.eq_1, ↓dL1_ap, ↓dL2_ap, ↓dL1Z_ap, ↓fLen_ap, ↓fAbs_ap, ↓fInt_ap, ↓fStr_ap, ↓fMax_ap, ↓fMin_ap, ↓fList_ap, ↓fTup_ap, ↓fLenZ.eq_1, ↓fListZ.eq_1, ↓fSum_ap, ↓fAny_ap, ↓fAll_ap, ↓dpVar.eq_1, ↓dpFld.eq_1, ↓dpaNil.eq_1, ↓dpaP.eq_1, ↓dpaD.eq_1, ↓dPPA.eq_1, ↓dxaNil.eq_1, ↓dxaV.eq_1, ↓dxaD.eq_1, ↓dxaN.eq_1, ↓dgName.eq_1, ↓dgNil.eq_1, ↓dgCons_ap, ↓dgTup_ap, ↓dItems.eq_1, ↓dXItems.eq_1, ↓itemsD.eq_1, Z.own, Z.data, S.data, Z.dicv, S.dicv, Z.items, S.items, Z.mems, S.mems, Z.ownL, Z.dk, S.dk, Z.keep, Z.fin, kindT, keyD, keyT, keysD, keyA, atP, S.at, S.kids, S.wth, SF.pos, SF.get, SF.set, SF.len, SF.labs, SF.app, S.put, putP, repl, kill, killS, backM, ghM, argT, args, lendR, backR, apartAll, npre, apart, S.noT, S.tru, S.live, wipeS, List.getElem?_cons_zero, List.getElem?_cons_succ, List.getElem?_nil, List.set_cons_zero, List.set_cons_succ, List.cons_append, List.nil_append, List.replicate, List.length_cons, List.length_nil, List.map_cons, List.map_nil, List.drop_succ_cons, List.drop_zero, List.all_cons, List.all_nil, List.tail_cons, List.getD, Option.map_some, Option.map_none, Option.isSome_some, Option.isSome_none, Option.some.injEq, Bool.and_true, Bool.true_and, Bool.not_true, Bool.not_false, Bool.false_eq_true, Bool.and_self, Bool.or_false, Bool.false_or, if_true, if_false, ite_true, ite_false, and_true, true_and, true_or, or_true, decide_eq_true_eq, decide_true, decide_false, Bool.not_eq_true', Bool.not_eq_eq_eq_not, decide_not, not_false_eq_true, not_true_eq_false, ↓reduceIte, natlit, atI_lit, ↓dPre.eq_1, ↓fT_nx, ↓fT_rt, ↓fT_ex, Nat.reduceAdd, Int.reduceNeg, ↓eqD_int, ↓eqD_str, ↓eqD_bool, ↓dRng1.eq_1, ↓dRng2.eq_1, inV_ints, inV_strs, inV_int1, inV_str1, inV_nil, flat_ints, flat_strs, flatD, vOf, lookS, lookI, lookP, dropS, dropI, dropP, Nat.sub_self, List.replicate_zero, Option.getD_some, Option.getD_none, reduceCtorEq, List.append_nil, str_lit, sz_0, sz_1, sz_2, sz_3, sz_4, sz_5, sz_6, sz_7, sz_8, sz_9, sz_10, sz_11, sz_12, sz_13, sz_14, sz_15, sz_16, sz_17, sz_18, sz_19, sz_20, sz_21, sz_22, sz_23, sz_24, Nat.reduceSub, Nat.reduceMul, Nat.reduceDiv, Nat.reduceMod, Nat.reduceLT, Nat.reduceLeDiff, Nat.reduceEqDiff, Nat.reduceGT, Nat.reduceBEq, Int.reduceAdd, Int.reduceSub, Int.reduceMul, Int.reduceDiv, Int.reduceMod, Int.reduceLT, Int.reduceLE, Int.reduceEq, Int.reduceNe, Int.reduceGT, Int.reduceGE, Int.reduceToNat, String.reduceEq, String.reduceNe, and_false, false_and, ↓dCallF_eq, ↓dCallK_eq, ↓dxMake_eq, Option.isSome_map, ↓callA_eq, ↓dForS_eq, ↓dWhileS_eq, ↓dLc_eq, ↓dSeq_ap, ↓dTidy_ap, ↓dTidyN_ap, seqE_nx, seqE_rt, seqE_bk, seqE_ct, seqE_ex, tidyE_nx, tidyE_rt, tidyE_bk, tidyE_ct, tidyE_ex, tidyNE_nx, tidyNE_rt, tidyNE_bk, tidyNE_ct, tidyNE_ex, loopE_nx, loopE_rt, loopE_bk, loopE_ct, loopE_ex, ↓fE_nx, ↓fE_rt, ↓exSome, ↓rdS_ap, ↓fSort_ap, goE_nx, goE_rt, goE_bk, goE_ct, goE_ex, decide_eq_false_iff_not, ite_not, c3]; simpa [← hw, c3] using hN
    by_cases c4 : t.born ∈ cs
    case pos => simp -dsimp -implicitDefEqProofs only [↓dNext.eq_1, ↓dBreak.eq_1, ↓dCont.eq_1, ↓dNever.eq_1, ↓dDrop.eq_1, ↓dRet.eq_1, ↓dRetN.eq_1, ↓dIf.eq_1, ↓dSet.eq_1, ↓dFrz.eq_1, ↓dUnp.eq_1, ↓dRetV.eq_1, ↓dAug.eq_1, ↓dSetI.eq_1, ↓dDelI.eq_1, ↓dFldS.eq_1, ↓dFldA.eq_1, ↓setAt.eq_1, ↓delAt.eq_1, ↓fldAt.eq_1, ↓dP.eq_1, ↓dPT.eq_1, ↓dPC.eq_1, ↓dPI.eq_1, ↓dXnil.eq_1, ↓dXcons.eq_1, ↓dxOp.eq_1, ↓dxOpL.eq_1, ↓dxUn.eq_1, ↓dxTst.eq_1, ↓truD.eq_1, ↓dxTru.eq_1, ↓dxAndT.eq_1, ↓dxOrT.eq_1, ↓dxNotT.eq_1, ↓dxAndE.eq_1, ↓dxOrE.eq_1, ↓dxNotE.eq_1, ↓dxIfE.eq_1, ↓dxTup.eq_1, ↓dxLst.eq_1, ↓dxCB.eq_1, ↓dxCall.eq_1, ↓dxMethP.eq_1, ↓dxMethV.eq_1, ↓dxMethN.eq_1, ↓dxAppP.eq_1, ↓dxAppV.eq_1, dxAppP.isL, ↓appAt.eq_1, ↓nmPl.eq_1, nmAt, ↓nmArg.eq_1, isOb, ↓dVar.eq_1, ↓dK.eq_1, ↓dOp.eq_1, ↓dUn.eq_1, ↓dNil.eq_1, ↓dCons.eq_1, ↓dCnil.eq_1, ↓dCcons.eq_1, ↓dCall.eq_1, ↓dTupD.eq_1, ↓dLstD.eq_1, ↓dTst.eq_1, ↓dTru.eq_1, ↓dAndT.eq_1, ↓dOrT.eq_1, ↓dNotT.eq_1, ↓dAndE.eq_1, ↓dOrE.eq_1, ↓dNotE.eq_1, ↓dIfE.eq_1, ↓dNewK.eq_1, ↓dFld.eq_1, ↓dYes.eq_1, ↓dIsi.eq_1, dTy, isiB, ↓dI.eq_1, ↓dIC.eq_1, ↓dAdd.eq_1, ↓dEq.eq_1, ↓dNe.eq_1, dIs, ↓dLtI.eq_1, ↓dLt.eq_1, ↓dLtB.eq_1, ↓dSub.eq_1, ↓dMul.eq_1, ↓dFdiv.eq_1, ↓dMod.eq_1, ↓dPow.eq_1, ↓dLe.eq_1, ↓dGt.eq_1, ↓dGe.eq_1, ↓dAddI.eq_1, ↓dNeg.eq_1, ↓dMulA.eq_1, ↓dInA.eq_1, ↓dInD.eq_1, ↓dIn.eq_1, keyIn, ↓dIxA.eq_1, ↓dGetD.eq_1, ↓dIx.eq_1, ↓dSl.eq_1, ↓dOnone.eq_1, ↓dOsome.eq_1, ↓dL1_ap, ↓dL2_ap, ↓dL1Z_ap, ↓fLen_ap, ↓fAbs_ap, ↓fInt_ap, ↓fStr_ap, ↓fMax_ap, ↓fMin_ap, ↓fList_ap, ↓fTup_ap, ↓fLenZ.eq_1, ↓fListZ.eq_1, ↓fSum_ap, ↓fAny_ap, ↓fAll_ap, ↓dpVar.eq_1, ↓dpFld.eq_1, ↓dpaNil.eq_1, ↓dpaP.eq_1, ↓dpaD.eq_1, ↓dPPA.eq_1, ↓dxaNil.eq_1, ↓dxaV.eq_1, ↓dxaD.eq_1, ↓dxaN.eq_1, ↓dgName.eq_1, ↓dgNil.eq_1, ↓dgCons_ap, ↓dgTup_ap, ↓dItems.eq_1, ↓dXItems.eq_1, ↓itemsD.eq_1, Z.own, Z.data, S.data, Z.dicv, S.dicv, Z.items, S.items, Z.mems, S.mems, Z.ownL, Z.dk, S.dk, Z.keep, Z.fin, kindT, keyD, keyT, keysD, keyA, atP, S.at, S.kids, S.wth, SF.pos, SF.get, SF.set, SF.len, SF.labs, SF.app, S.put, putP, repl, kill, killS, backM, ghM, argT, args, lendR, backR, apartAll, npre, apart, S.noT, S.tru, S.live, wipeS, List.getElem?_cons_zero, List.getElem?_cons_succ, List.getElem?_nil, List.set_cons_zero, List.set_cons_succ, List.cons_append, List.nil_append, List.replicate, List.length_cons, List.length_nil, List.map_cons, List.map_nil, List.drop_succ_cons, List.drop_zero, List.all_cons, List.all_nil, List.tail_cons, List.getD, Option.map_some, Option.map_none, Option.isSome_some, Option.isSome_none, Option.some.injEq, Bool.and_true, Bool.true_and, Bool.not_true, Bool.not_false, Bool.false_eq_true, Bool.and_self, Bool.or_false, Bool.false_or, if_true, if_false, ite_true, ite_false, and_true, true_and, true_or, or_true, decide_eq_true_eq, decide_true, decide_false, Bool.not_eq_true', Bool.not_eq_eq_eq_not, decide_not, not_false_eq_true, not_true_eq_false, ↓reduceIte, natlit, atI_lit, ↓dPre.eq_1, ↓fT_nx, ↓fT_rt, ↓fT_ex, Nat.reduceAdd, Int.reduceNeg, ↓eqD_int, ↓eqD_str, ↓eqD_bool, ↓dRng1.eq_1, ↓dRng2.eq_1, inV_ints, inV_strs, inV_int1, inV_str1, inV_nil, flat_ints, flat_strs, flatD, vOf, lookS, lookI, lookP, dropS, dropI, dropP, Nat.sub_self, List.replicate_zero, Option.getD_some, Option.getD_none, reduceCtorEq, List.append_nil, str_lit, sz_0, sz_1, sz_2, sz_3, sz_4, sz_5, sz_6, sz_7, sz_8, sz_9, sz_10, sz_11, sz_12, sz_13, sz_14, sz_15, sz_16, sz_17, sz_18, sz_19, sz_20, sz_21, sz_22, sz_23, sz_24, Nat.reduceSub, Nat.reduceMul, Nat.reduceDiv, Nat.reduceMod, Nat.reduceLT, Nat.reduceLeDiff, Nat.reduceEqDiff, Nat.reduceGT, Nat.reduceBEq, Int.reduceAdd, Int.reduceSub, Int.reduceMul, Int.reduceDiv, Int.reduceMod, Int.reduceLT, Int.reduceLE, Int.reduceEq, Int.reduceNe, Int.reduceGT, Int.reduceGE, Int.reduceToNat, String.reduceEq, String.reduceNe, and_false, false_and, ↓dCallF_eq, ↓dCallK_eq, ↓dxMake_eq, Option.isSome_map, ↓callA_eq, ↓dForS_eq, ↓dWhileS_eq, ↓dLc_eq, ↓dSeq_ap, ↓dTidy_ap, ↓dTidyN_ap, seqE_nx, seqE_rt, seqE_bk, seqE_ct, seqE_ex, tidyE_nx, tidyE_rt, tidyE_bk, tidyE_ct, tidyE_ex, tidyNE_nx, tidyNE_rt, tidyNE_bk, tidyNE_ct, tidyNE_ex, loopE_nx, loopE_rt, loopE_bk, loopE_ct, loopE_ex, ↓fE_nx, ↓fE_rt, ↓exSome, ↓rdS_ap, ↓fSort_ap, goE_nx, goE_rt, goE_bk, goE_ct, goE_ex, decide_eq_false_iff_not, ite_not, c3, c4]; simpa [← hw, c4] using hN
    simp -dsimp -implicitDefEqProofs only [↓dNext.eq_1, ↓dBreak.eq_1, ↓dCont.eq_1, ↓dNever.eq_1, ↓dDrop.eq_1, ↓dRet.eq_1, ↓dRetN.eq_1, ↓dIf.eq_1, ↓dSet.eq_1, ↓dFrz.eq_1, ↓dUnp.eq_1, ↓dRetV.eq_1, ↓dAug.eq_1, ↓dSetI.eq_1, ↓dDelI.eq_1, ↓dFldS.eq_1, ↓dFldA.eq_1, ↓setAt.eq_1, ↓delAt.eq_1, ↓fldAt.eq_1, ↓dP.eq_1, ↓dPT.eq_1, ↓dPC.eq_1, ↓dPI.eq_1, ↓dXnil.eq_1, ↓dXcons.eq_1, ↓dxOp.eq_1, ↓dxOpL.eq_1, ↓dxUn.eq_1, ↓dxTst.eq_1, ↓truD.eq_1, ↓dxTru.eq_1, ↓dxAndT.eq_1, ↓dxOrT.eq_1, ↓dxNotT.eq_1, ↓dxAndE.eq_1, ↓dxOrE.eq_1, ↓dxNotE.eq_1, ↓dxIfE.eq_1, ↓dxTup.eq_1, ↓dxLst.eq_1, ↓dxCB.eq_1, ↓dxCall.eq_1, ↓dxMethP.eq_1, ↓dxMethV.eq_1, ↓dxMethN.eq_1, ↓dxAppP.eq_1, ↓dxAppV.eq_1, dxAppP.isL, ↓appAt.eq_1, ↓nmPl.eq_1, nmAt, ↓nmArg.eq_1, isOb, ↓dVar.eq_1, ↓dK.eq_1, ↓dOp.eq_1, ↓dUn.eq_1, ↓dNil.eq_1, ↓dCons.eq_1, ↓dCnil.eq_1, ↓dCcons.eq_1, ↓dCall.eq_1, ↓dTupD.eq_1, ↓dLstD.eq_1, ↓dTst.eq_1, ↓dTru.eq_1, ↓dAndT.eq_1, ↓dOrT.eq_1, ↓dNotT.eq_1, ↓dAndE.eq_1, ↓dOrE.eq_1, ↓dNotE.eq_1, ↓dIfE.eq_1, ↓dNewK.eq_1, ↓dFld.eq_1, ↓dYes.eq_1, ↓dIsi.eq_1, dTy, isiB, ↓dI.eq_1, ↓dIC.eq_1, ↓dAdd.eq_1, ↓dEq.eq_1, ↓dNe.eq_1, dIs, ↓dLtI.eq_1, ↓dLt.eq_1, ↓dLtB.eq_1, ↓dSub.eq_1, ↓dMul.eq_1, ↓dFdiv.eq_1, ↓dMod.eq_1, ↓dPow.eq_1, ↓dLe.eq_1, ↓dGt.eq_1, ↓dGe.eq_1, ↓dAddI.eq_1, ↓dNeg.eq_1, ↓dMulA.eq_1, ↓dInA.eq_1, ↓dInD.eq_1, ↓dIn.eq_1, keyIn, ↓dIxA.eq_1, ↓dGetD.eq_1, ↓dIx.eq_1, ↓dSl.eq_1, ↓dOnone.eq_1, ↓dOsome.eq_1, ↓dL1_ap, ↓dL2_ap, ↓dL1Z_ap, ↓fLen_ap, ↓fAbs_ap, ↓fInt_ap, ↓fStr_ap, ↓fMax_ap, ↓fMin_ap, ↓fList_ap, ↓fTup_ap, ↓fLenZ.eq_1, ↓fListZ.eq_1, ↓fSum_ap, ↓fAny_ap, ↓fAll_ap, ↓dpVar.eq_1, ↓dpFld.eq_1, ↓dpaNil.eq_1, ↓dpaP.eq_1, ↓dpaD.eq_1, ↓dPPA.eq_1, ↓dxaNil.eq_1, ↓dxaV.eq_1, ↓dxaD.eq_1, ↓dxaN.eq_1, ↓dgName.eq_1, ↓dgNil.eq_1, ↓dgCons_ap, ↓dgTup_ap, ↓dItems.eq_1, ↓dXItems.eq_1, ↓itemsD.eq_1, Z.own, Z.data, S.data, Z.dicv, S.dicv, Z.items, S.items, Z.mems, S.mems, Z.ownL, Z.dk, S.dk, Z.keep, Z.fin, kindT, keyD, keyT, keysD, keyA, atP, S.at, S.kids, S.wth, SF.pos, SF.get, SF.set, SF.len, SF.labs, SF.app, S.put, putP, repl, kill, killS, backM, ghM, argT, args, lendR, backR, apartAll, npre, apart, S.noT, S.tru, S.live, wipeS, List.getElem?_cons_zero, List.getElem?_cons_succ, List.getElem?_nil, List.set_cons_zero, List.set_cons_succ, List.cons_append, List.nil_append, List.replicate, List.length_cons, List.length_nil, List.map_cons, List.map_nil, List.drop_succ_cons, List.drop_zero, List.all_cons, List.all_nil, List.tail_cons, List.getD, Option.map_some, Option.map_none, Option.isSome_some, Option.isSome_none, Option.some.injEq, Bool.and_true, Bool.true_and, Bool.not_true, Bool.not_false, Bool.false_eq_true, Bool.and_self, Bool.or_false, Bool.false_or, if_true, if_false, ite_true, ite_false, and_true, true_and, true_or, or_true, decide_eq_true_eq, decide_true, decide_false, Bool.not_eq_true', Bool.not_eq_eq_eq_not, decide_not, not_false_eq_true, not_true_eq_false, ↓reduceIte, natlit, atI_lit, ↓dPre.eq_1, ↓fT_nx, ↓fT_rt, ↓fT_ex, Nat.reduceAdd, Int.reduceNeg, ↓eqD_int, ↓eqD_str, ↓eqD_bool, ↓dRng1.eq_1, ↓dRng2.eq_1, inV_ints, inV_strs, inV_int1, inV_str1, inV_nil, flat_ints, flat_strs, flatD, vOf, lookS, lookI, lookP, dropS, dropI, dropP, Nat.sub_self, List.replicate_zero, Option.getD_some, Option.getD_none, reduceCtorEq, List.append_nil, str_lit, sz_0, sz_1, sz_2, sz_3, sz_4, sz_5, sz_6, sz_7, sz_8, sz_9, sz_10, sz_11, sz_12, sz_13, sz_14, sz_15, sz_16, sz_17, sz_18, sz_19, sz_20, sz_21, sz_22, sz_23, sz_24, Nat.reduceSub, Nat.reduceMul, Nat.reduceDiv, Nat.reduceMod, Nat.reduceLT, Nat.reduceLeDiff, Nat.reduceEqDiff, Nat.reduceGT, Nat.reduceBEq, Int.reduceAdd, Int.reduceSub, Int.reduceMul, Int.reduceDiv, Int.reduceMod, Int.reduceLT, Int.reduceLE, Int.reduceEq, Int.reduceNe, Int.reduceGT, Int.reduceGE, Int.reduceToNat, String.reduceEq, String.reduceNe, and_false, false_and, ↓dCallF_eq, ↓dCallK_eq, ↓dxMake_eq, Option.isSome_map, ↓callA_eq, ↓dForS_eq, ↓dWhileS_eq, ↓dLc_eq, ↓dSeq_ap, ↓dTidy_ap, ↓dTidyN_ap, seqE_nx, seqE_rt, seqE_bk, seqE_ct, seqE_ex, tidyE_nx, tidyE_rt, tidyE_bk, tidyE_ct, tidyE_ex, tidyNE_nx, tidyNE_rt, tidyNE_bk, tidyNE_ct, tidyNE_ex, loopE_nx, loopE_rt, loopE_bk, loopE_ct, loopE_ex, ↓fE_nx, ↓fE_rt, ↓exSome, ↓rdS_ap, ↓fSort_ap, goE_nx, goE_rt, goE_bk, goE_ct, goE_ex, decide_eq_false_iff_not, ite_not, c3, c4]
    exact ⟨szm (by omega), by simpa [← hw, c1, c2, c3, c4] using hN⟩
  simp -dsimp -implicitDefEqProofs only [↓dNext.eq_1, ↓dBreak.eq_1, ↓dCont.eq_1, ↓dNever.eq_1, ↓dDrop.eq_1, ↓dRet.eq_1, ↓dRetN.eq_1, ↓dIf.eq_1, ↓dSet.eq_1, ↓dFrz.eq_1, ↓dUnp.eq_1, ↓dRetV.eq_1, ↓dAug.eq_1, ↓dSetI.eq_1, ↓dDelI.eq_1, ↓dFldS.eq_1, ↓dFldA.eq_1, ↓setAt.eq_1, ↓delAt.eq_1, ↓fldAt.eq_1, ↓dP.eq_1, ↓dPT.eq_1, ↓dPC.eq_1, ↓dPI.eq_1, ↓dXnil.eq_1, ↓dXcons.eq_1, ↓dxOp.eq_1, ↓dxOpL.eq_1, ↓dxUn.eq_1, ↓dxTst.eq_1, ↓truD.eq_1, ↓dxTru.eq_1, ↓dxAndT.eq_1, ↓dxOrT.eq_1, ↓dxNotT.eq_1, ↓dxAndE.eq_1, ↓dxOrE.eq_1, ↓dxNotE.eq_1, ↓dxIfE.eq_1, ↓dxTup.eq_1, ↓dxLst.eq_1, ↓dxCB.eq_1, ↓dxCall.eq_1, ↓dxMethP.eq_1, ↓dxMethV.eq_1, ↓dxMethN.eq_1, ↓dxAppP.eq_1, ↓dxAppV.eq_1, dxAppP.isL, ↓appAt.eq_1, ↓nmPl.eq_1, nmAt, ↓nmArg.eq_1, isOb, ↓dVar.eq_1, ↓dK.eq_1, ↓dOp.eq_1, ↓dUn.eq_1, ↓dNil.eq_1, ↓dCons.eq_1, ↓dCnil.eq_1, ↓dCcons.eq_1, ↓dCall.eq_1, ↓dTupD.eq_1, ↓dLstD.eq_1, ↓dTst.eq_1, ↓dTru.eq_1, ↓dAndT.eq_1, ↓dOrT.eq_1, ↓dNotT.eq_1, ↓dAndE.eq_1, ↓dOrE.eq_1, ↓dNotE.eq_1, ↓dIfE.eq_1, ↓dNewK.eq_1, ↓dFld.eq_1, ↓dYes.eq_1, ↓dIsi.eq_1, dTy, isiB, ↓dI.eq_1, ↓dIC.eq_1, ↓dAdd.eq_1, ↓dEq.eq_1, ↓dNe.eq_1, dIs, ↓dLtI.eq_1, ↓dLt.eq_1, ↓dLtB.eq_1, ↓dSub.eq_1, ↓dMul.eq_1, ↓dFdiv.eq_1, ↓dMod.eq_1, ↓dPow.eq_1, ↓dLe.eq_1, ↓dGt.eq_1, ↓dGe.eq_1, ↓dAddI.eq_1, ↓dNeg.eq_1, ↓dMulA.eq_1, ↓dInA.eq_1, ↓dInD.eq_1, ↓dIn.eq_1, keyIn, ↓dIxA.eq_1, ↓dGetD.eq_1, ↓dIx.eq_1, ↓dSl.eq_1, ↓dOnone.eq_1, ↓dOsome.eq_1, ↓dL1_ap, ↓dL2_ap, ↓dL1Z_ap, ↓fLen_ap, ↓fAbs_ap, ↓fInt_ap, ↓fStr_ap, ↓fMax_ap, ↓fMin_ap, ↓fList_ap, ↓fTup_ap, ↓fLenZ.eq_1, ↓fListZ.eq_1, ↓fSum_ap, ↓fAny_ap, ↓fAll_ap, ↓dpVar.eq_1, ↓dpFld.eq_1, ↓dpaNil.eq_1, ↓dpaP.eq_1, ↓dpaD.eq_1, ↓dPPA.eq_1, ↓dxaNil.eq_1, ↓dxaV.eq_1, ↓dxaD.eq_1, ↓dxaN.eq_1, ↓dgName.eq_1, ↓dgNil.eq_1, ↓dgCons_ap, ↓dgTup_ap, ↓dItems.eq_1, ↓dXItems.eq_1, ↓itemsD.eq_1, Z.own, Z.data, S.data, Z.dicv, S.dicv, Z.items, S.items, Z.mems, S.mems, Z.ownL, Z.dk, S.dk, Z.keep, Z.fin, kindT, keyD, keyT, keysD, keyA, atP, S.at, S.kids, S.wth, SF.pos, SF.get, SF.set, SF.len, SF.labs, SF.app, S.put, putP, repl, kill, killS, backM, ghM, argT, args, lendR, backR, apartAll, npre, apart, S.noT, S.tru, S.live, wipeS, List.getElem?_cons_zero, List.getElem?_cons_succ, List.getElem?_nil, List.set_cons_zero, List.set_cons_succ, List.cons_append, List.nil_append, List.replicate, List.length_cons, List.length_nil, List.map_cons, List.map_nil, List.drop_succ_cons, List.drop_zero, List.all_cons, List.all_nil, List.tail_cons, List.getD, Option.map_some, Option.map_none, Option.isSome_some, Option.isSome_none, Option.some.injEq, Bool.and_true, Bool.true_and, Bool.not_true, Bool.not_false, Bool.false_eq_true, Bool.and_self, Bool.or_false, Bool.false_or, if_true, if_false, ite_true, ite_false, and_true, true_and, true_or, or_true, decide_eq_true_eq, decide_true, decide_false, Bool.not_eq_true', Bool.not_eq_eq_eq_not, decide_not, not_false_eq_true, not_true_eq_false, ↓reduceIte, natlit, atI_lit, ↓dPre.eq_1, ↓fT_nx, ↓fT_rt, ↓fT_ex, Nat.reduceAdd, Int.reduceNeg, ↓eqD_int, ↓eqD_str, ↓eqD_bool, ↓dRng1.eq_1, ↓dRng2.eq_1, inV_ints, inV_strs, inV_int1, inV_str1, inV_nil, flat_ints, flat_strs, flatD, vOf, lookS, lookI, lookP, dropS, dropI, dropP, Nat.sub_self, List.replicate_zero, Option.getD_some, Option.getD_none, reduceCtorEq, List.append_nil, str_lit, sz_0, sz_1, sz_2, sz_3, sz_4, sz_5, sz_6, sz_7, sz_8, sz_9, sz_10, sz_11, sz_12, sz_13, sz_14, sz_15, sz_16, sz_17, sz_18, sz_19, sz_20, sz_21, sz_22, sz_23, sz_24, Nat.reduceSub, Nat.reduceMul, Nat.reduceDiv, Nat.reduceMod, Nat.reduceLT, Nat.reduceLeDiff, Nat.reduceEqDiff, Nat.reduceGT, Nat.reduceBEq, Int.reduceAdd, Int.reduceSub, Int.reduceMul, Int.reduceDiv, Int.reduceMod, Int.reduceLT, Int.reduceLE, Int.reduceEq, Int.reduceNe, Int.reduceGT, Int.reduceGE, Int.reduceToNat, String.reduceEq, String.reduceNe, and_false, false_and, ↓dCallF_eq, ↓dCallK_eq, ↓dxMake_eq, Option.isSome_map, ↓callA_eq, ↓dForS_eq, ↓dWhileS_eq, ↓dLc_eq, ↓dSeq_ap, ↓dTidy_ap, ↓dTidyN_ap, seqE_nx, seqE_rt, seqE_bk, seqE_ct, seqE_ex, tidyE_nx, tidyE_rt, tidyE_bk, tidyE_ct, tidyE_ex, tidyNE_nx, tidyNE_rt, tidyNE_bk, tidyNE_ct, tidyNE_ex, loopE_nx, loopE_rt, loopE_bk, loopE_ct, loopE_ex, ↓fE_nx, ↓fE_rt, ↓exSome, ↓rdS_ap, ↓fSort_ap, goE_nx, goE_rt, goE_bk, goE_ct, goE_ex, decide_eq_false_iff_not, ite_not, b__law_one_L90]
  refine callS_of (by repeat' (first | exact True.intro | rfl | (refine ⟨?_, ?_⟩))) (cl_to_run hdl ?_)
  have hu : nice 3 (.list ((ts.filter (wantU xs cs)).map encU)) := nice_list (nice_map fun t ht => nice_U (hd t (List.mem_filter.mp ht).1))
  simp -dsimp -implicitDefEqProofs only [↓dNext.eq_1, ↓dBreak.eq_1, ↓dCont.eq_1, ↓dNever.eq_1, ↓dDrop.eq_1, ↓dRet.eq_1, ↓dRetN.eq_1, ↓dIf.eq_1, ↓dSet.eq_1, ↓dFrz.eq_1, ↓dUnp.eq_1, ↓dRetV.eq_1, ↓dAug.eq_1, ↓dSetI.eq_1, ↓dDelI.eq_1, ↓dFldS.eq_1, ↓dFldA.eq_1, ↓setAt.eq_1, ↓delAt.eq_1, ↓fldAt.eq_1, ↓dP.eq_1, ↓dPT.eq_1, ↓dPC.eq_1, ↓dPI.eq_1, ↓dXnil.eq_1, ↓dXcons.eq_1, ↓dxOp.eq_1, ↓dxOpL.eq_1, ↓dxUn.eq_1, ↓dxTst.eq_1, ↓truD.eq_1, ↓dxTru.eq_1, ↓dxAndT.eq_1, ↓dxOrT.eq_1, ↓dxNotT.eq_1, ↓dxAndE.eq_1, ↓dxOrE.eq_1, ↓dxNotE.eq_1, ↓dxIfE.eq_1, ↓dxTup.eq_1, ↓dxLst.eq_1, ↓dxCB.eq_1, ↓dxCall.eq_1, ↓dxMethP.eq_1, ↓dxMethV.eq_1, ↓dxMethN.eq_1, ↓dxAppP.eq_1, ↓dxAppV.eq_1, dxAppP.isL, ↓appAt.eq_1, ↓nmPl.eq_1, nmAt, ↓nmArg.eq_1, isOb, ↓dVar.eq_1, ↓dK.eq_1, ↓dOp.eq_1, ↓dUn.eq_1, ↓dNil.eq_1, ↓dCons.eq_1, ↓dCnil.eq_1, ↓dCcons.eq_1, ↓dCall.eq_1, ↓dTupD.eq_1, ↓dLstD.eq_1, ↓dTst.eq_1, ↓dTru.eq_1, ↓dAndT.eq_1, ↓dOrT.eq_1, ↓dNotT.eq_1, ↓dAndE.eq_1, ↓dOrE.eq_1, ↓dNotE.eq_1, ↓dIfE.eq_1, ↓dNewK.eq_1, ↓dFld.eq_1, ↓dYes.eq_1, ↓dIsi.eq_1, dTy, isiB, ↓dI.eq_1, ↓dIC.eq_1, ↓dAdd.eq_1, ↓dEq.eq_1, ↓dNe.eq_1, dIs, ↓dLtI.eq_1, ↓dLt.eq_1, ↓dLtB.eq_1, ↓dSub.eq_1, ↓dMul.eq_1, ↓dFdiv.eq_1, ↓dMod.eq_1, ↓dPow.eq_1, ↓dLe.eq_1, ↓dGt.eq_1, ↓dGe.eq_1, ↓dAddI.eq_1, ↓dNeg.eq_1, ↓dMulA.eq_1, ↓dInA.eq_1, ↓dInD.eq_1, ↓dIn.eq_1, keyIn, ↓dIxA.eq_1, ↓dGetD.eq_1, ↓dIx.eq_1, ↓dSl.eq_1, ↓dOnone.eq_1, ↓dOsome.eq_1, ↓dL1_ap, ↓dL2_ap, ↓dL1Z_ap, ↓fLen_ap, ↓fAbs_ap, ↓fInt_ap, ↓fStr_ap, ↓fMax_ap, ↓fMin_ap, ↓fList_ap, ↓fTup_ap, ↓fLenZ.eq_1, ↓fListZ.eq_1, ↓fSum_ap, ↓fAny_ap, ↓fAll_ap, ↓dpVar.eq_1, ↓dpFld.eq_1, ↓dpaNil.eq_1, ↓dpaP.eq_1, ↓dpaD.eq_1, ↓dPPA.eq_1, ↓dxaNil.eq_1, ↓dxaV.eq_1, ↓dxaD.eq_1, ↓dxaN.eq_1, ↓dgName.eq_1, ↓dgNil.eq_1, ↓dgCons_ap, ↓dgTup_ap, ↓dItems.eq_1, ↓dXItems.eq_1, ↓itemsD.eq_1, Z.own, Z.data, S.data, Z.dicv, S.dicv, Z.items, S.items, Z.mems, S.mems, Z.ownL, Z.dk, S.dk, Z.keep, Z.fin, kindT, keyD, keyT, keysD, keyA, atP, S.at, S.kids, S.wth, SF.pos, SF.get, SF.set, SF.len, SF.labs, SF.app, S.put, putP, repl, kill, killS, backM, ghM, argT, args, lendR, backR, apartAll, npre, apart, S.noT, S.tru, S.live, wipeS, List.getElem?_cons_zero, List.getElem?_cons_succ, List.getElem?_nil, List.set_cons_zero, List.set_cons_succ, List.cons_append, List.nil_append, List.replicate, List.length_cons, List.length_nil, List.map_cons, List.map_nil, List.drop_succ_cons, List.drop_zero, List.all_cons, List.all_nil, List.tail_cons, List.getD, Option.map_some, Option.map_none, Option.isSome_some, Option.isSome_none, Option.some.injEq, Bool.and_true, Bool.true_and, Bool.not_true, Bool.not_false, Bool.false_eq_true, Bool.and_self, Bool.or_false, Bool.false_or, if_true, if_false, ite_true, ite_false, and_true, true_and, true_or, or_true, decide_eq_true_eq, decide_true, decide_false, Bool.not_eq_true', Bool.not_eq_eq_eq_not, decide_not, not_false_eq_true, not_true_eq_false, ↓reduceIte, natlit, atI_lit, ↓dPre.eq_1, ↓fT_nx, ↓fT_rt, ↓fT_ex, Nat.reduceAdd, Int.reduceNeg, ↓eqD_int, ↓eqD_str, ↓eqD_bool, ↓dRng1.eq_1, ↓dRng2.eq_1, inV_ints, inV_strs, inV_int1, inV_str1, inV_nil, flat_ints, flat_strs, flatD, vOf, lookS, lookI, lookP, dropS, dropI, dropP, Nat.sub_self, List.replicate_zero, Option.getD_some, Option.getD_none, reduceCtorEq, List.append_nil, str_lit, sz_0, sz_1, sz_2, sz_3, sz_4, sz_5, sz_6, sz_7, sz_8, sz_9, sz_10, sz_11, sz_12, sz_13, sz_14, sz_15, sz_16, sz_17, sz_18, sz_19, sz_20, sz_21, sz_22, sz_23, sz_24, Nat.reduceSub, Nat.reduceMul, Nat.reduceDiv, Nat.reduceMod, Nat.reduceLT, Nat.reduceLeDiff, Nat.reduceEqDiff, Nat.reduceGT, Nat.reduceBEq, Int.reduceAdd, Int.reduceSub, Int.reduceMul, Int.reduceDiv, Int.reduceMod, Int.reduceLT, Int.reduceLE, Int.reduceEq, Int.reduceNe, Int.reduceGT, Int.reduceGE, Int.reduceToNat, String.reduceEq, String.reduceNe, and_false, false_and, ↓dCallF_eq, ↓dCallK_eq, ↓dxMake_eq, Option.isSome_map, ↓callA_eq, ↓dForS_eq, ↓dWhileS_eq, ↓dLc_eq, ↓dSeq_ap, ↓dTidy_ap, ↓dTidyN_ap, seqE_nx, seqE_rt, seqE_bk, seqE_ct, seqE_ex, tidyE_nx, tidyE_rt, tidyE_bk, tidyE_ct, tidyE_ex, tidyNE_nx, tidyNE_rt, tidyNE_bk, tidyNE_ct, tidyNE_ex, loopE_nx, loopE_rt, loopE_bk, loopE_ct, loopE_ex, ↓fE_nx, ↓fE_rt, ↓exSome, ↓rdS_ap, ↓fSort_ap, goE_nx, goE_rt, goE_bk, goE_ct, goE_ex, decide_eq_false_iff_not, ite_not]
  refine eqD_same rfl hu (q := ?_)
  have no : ∀ p : T → Bool, nice 2 (optT (ts.find? p)) := fun p => by
    cases e : ts.find? p with
    | none => exact nice_none
    | some t => exact nice_T (hd t (List.mem_of_find?_eq_some e))
  have e1 : ∀ t : T, (decide (t.st ∈ (["bound"] : List Str)) && (decide (t.stop = 0) && !decide (t.name ∈ hs))) = startU hs t := fun t => by simp [startU]
  have e2 : ∀ t : T, (decide (t.st ∈ (["bound", "running"] : List Str)) && (decide (t.stop = 1) && !decide (t.name ∈ hs))) = endU hs t := fun t => by simp [endU]
  simp -dsimp -implicitDefEqProofs only [↓dNext.eq_1, ↓dBreak.eq_1, ↓dCont.eq_1, ↓dNever.eq_1, ↓dDrop.eq_1, ↓dRet.eq_1, ↓dRetN.eq_1, ↓dIf.eq_1, ↓dSet.eq_1, ↓dFrz.eq_1, ↓dUnp.eq_1, ↓dRetV.eq_1, ↓dAug.eq_1, ↓dSetI.eq_1, ↓dDelI.eq_1, ↓dFldS.eq_1, ↓dFldA.eq_1, ↓setAt.eq_1, ↓delAt.eq_1, ↓fldAt.eq_1, ↓dP.eq_1, ↓dPT.eq_1, ↓dPC.eq_1, ↓dPI.eq_1, ↓dXnil.eq_1, ↓dXcons.eq_1, ↓dxOp.eq_1, ↓dxOpL.eq_1, ↓dxUn.eq_1, ↓dxTst.eq_1, ↓truD.eq_1, ↓dxTru.eq_1, ↓dxAndT.eq_1, ↓dxOrT.eq_1, ↓dxNotT.eq_1, ↓dxAndE.eq_1, ↓dxOrE.eq_1, ↓dxNotE.eq_1, ↓dxIfE.eq_1, ↓dxTup.eq_1, ↓dxLst.eq_1, ↓dxCB.eq_1, ↓dxCall.eq_1, ↓dxMethP.eq_1, ↓dxMethV.eq_1, ↓dxMethN.eq_1, ↓dxAppP.eq_1, ↓dxAppV.eq_1, dxAppP.isL, ↓appAt.eq_1, ↓nmPl.eq_1, nmAt, ↓nmArg.eq_1, isOb, ↓dVar.eq_1, ↓dK.eq_1, ↓dOp.eq_1, ↓dUn.eq_1, ↓dNil.eq_1, ↓dCons.eq_1, ↓dCnil.eq_1, ↓dCcons.eq_1, ↓dCall.eq_1, ↓dTupD.eq_1, ↓dLstD.eq_1, ↓dTst.eq_1, ↓dTru.eq_1, ↓dAndT.eq_1, ↓dOrT.eq_1, ↓dNotT.eq_1, ↓dAndE.eq_1, ↓dOrE.eq_1, ↓dNotE.eq_1, ↓dIfE.eq_1, ↓dNewK.eq_1, ↓dFld.eq_1, ↓dYes.eq_1, ↓dIsi.eq_1, dTy, isiB, ↓dI.eq_1, ↓dIC.eq_1, ↓dAdd.eq_1, ↓dEq.eq_1, ↓dNe.eq_1, dIs, ↓dLtI.eq_1, ↓dLt.eq_1, ↓dLtB.eq_1, ↓dSub.eq_1, ↓dMul.eq_1, ↓dFdiv.eq_1, ↓dMod.eq_1, ↓dPow.eq_1, ↓dLe.eq_1, ↓dGt.eq_1, ↓dGe.eq_1, ↓dAddI.eq_1, ↓dNeg.eq_1, ↓dMulA.eq_1, ↓dInA.eq_1, ↓dInD.eq_1, ↓dIn.eq_1, keyIn, ↓dIxA.eq_1, ↓dGetD.eq_1, ↓dIx.eq_1, ↓dSl.eq_1, ↓dOnone.eq_1, ↓dOsome.eq_1, ↓dL1_ap, ↓dL2_ap, ↓dL1Z_ap, ↓fLen_ap, ↓fAbs_ap, ↓fInt_ap, ↓fStr_ap, ↓fMax_ap, ↓fMin_ap, ↓fList_ap, ↓fTup_ap, ↓fLenZ.eq_1, ↓fListZ.eq_1, ↓fSum_ap, ↓fAny_ap, ↓fAll_ap, ↓dpVar.eq_1, ↓dpFld.eq_1, ↓dpaNil.eq_1, ↓dpaP.eq_1, ↓dpaD.eq_1, ↓dPPA.eq_1, ↓dxaNil.eq_1, ↓dxaV.eq_1, ↓dxaD.eq_1, ↓dxaN.eq_1, ↓dgName.eq_1, ↓dgNil.eq_1, ↓dgCons_ap, ↓dgTup_ap, ↓dItems.eq_1, ↓dXItems.eq_1, ↓itemsD.eq_1, Z.own, Z.data, S.data, Z.dicv, S.dicv, Z.items, S.items, Z.mems, S.mems, Z.ownL, Z.dk, S.dk, Z.keep, Z.fin, kindT, keyD, keyT, keysD, keyA, atP, S.at, S.kids, S.wth, SF.pos, SF.get, SF.set, SF.len, SF.labs, SF.app, S.put, putP, repl, kill, killS, backM, ghM, argT, args, lendR, backR, apartAll, npre, apart, S.noT, S.tru, S.live, wipeS, List.getElem?_cons_zero, List.getElem?_cons_succ, List.getElem?_nil, List.set_cons_zero, List.set_cons_succ, List.cons_append, List.nil_append, List.replicate, List.length_cons, List.length_nil, List.map_cons, List.map_nil, List.drop_succ_cons, List.drop_zero, List.all_cons, List.all_nil, List.tail_cons, List.getD, Option.map_some, Option.map_none, Option.isSome_some, Option.isSome_none, Option.some.injEq, Bool.and_true, Bool.true_and, Bool.not_true, Bool.not_false, Bool.false_eq_true, Bool.and_self, Bool.or_false, Bool.false_or, if_true, if_false, ite_true, ite_false, and_true, true_and, true_or, or_true, decide_eq_true_eq, decide_true, decide_false, Bool.not_eq_true', Bool.not_eq_eq_eq_not, decide_not, not_false_eq_true, not_true_eq_false, ↓reduceIte, natlit, atI_lit, ↓dPre.eq_1, ↓fT_nx, ↓fT_rt, ↓fT_ex, Nat.reduceAdd, Int.reduceNeg, ↓eqD_int, ↓eqD_str, ↓eqD_bool, ↓dRng1.eq_1, ↓dRng2.eq_1, inV_ints, inV_strs, inV_int1, inV_str1, inV_nil, flat_ints, flat_strs, flatD, vOf, lookS, lookI, lookP, dropS, dropI, dropP, Nat.sub_self, List.replicate_zero, Option.getD_some, Option.getD_none, reduceCtorEq, List.append_nil, str_lit, sz_0, sz_1, sz_2, sz_3, sz_4, sz_5, sz_6, sz_7, sz_8, sz_9, sz_10, sz_11, sz_12, sz_13, sz_14, sz_15, sz_16, sz_17, sz_18, sz_19, sz_20, sz_21, sz_22, sz_23, sz_24, Nat.reduceSub, Nat.reduceMul, Nat.reduceDiv, Nat.reduceMod, Nat.reduceLT, Nat.reduceLeDiff, Nat.reduceEqDiff, Nat.reduceGT, Nat.reduceBEq, Int.reduceAdd, Int.reduceSub, Int.reduceMul, Int.reduceDiv, Int.reduceMod, Int.reduceLT, Int.reduceLE, Int.reduceEq, Int.reduceNe, Int.reduceGT, Int.reduceGE, Int.reduceToNat, String.reduceEq, String.reduceNe, and_false, false_and, ↓dCallF_eq, ↓dCallK_eq, ↓dxMake_eq, Option.isSome_map, ↓callA_eq, ↓dForS_eq, ↓dWhileS_eq, ↓dLc_eq, ↓dSeq_ap, ↓dTidy_ap, ↓dTidyN_ap, seqE_nx, seqE_rt, seqE_bk, seqE_ct, seqE_ex, tidyE_nx, tidyE_rt, tidyE_bk, tidyE_ct, tidyE_ex, tidyNE_nx, tidyNE_rt, tidyNE_bk, tidyNE_ct, tidyNE_ex, loopE_nx, loopE_rt, loopE_bk, loopE_ct, loopE_ex, ↓fE_nx, ↓fE_rt, ↓exSome, ↓rdS_ap, ↓fSort_ap, goE_nx, goE_rt, goE_bk, goE_ct, goE_ex, decide_eq_false_iff_not, ite_not, b__law_one_L92]
  refine callF_of (cl_next_start ?_)
  simp -dsimp -implicitDefEqProofs only [↓dNext.eq_1, ↓dBreak.eq_1, ↓dCont.eq_1, ↓dNever.eq_1, ↓dDrop.eq_1, ↓dRet.eq_1, ↓dRetN.eq_1, ↓dIf.eq_1, ↓dSet.eq_1, ↓dFrz.eq_1, ↓dUnp.eq_1, ↓dRetV.eq_1, ↓dAug.eq_1, ↓dSetI.eq_1, ↓dDelI.eq_1, ↓dFldS.eq_1, ↓dFldA.eq_1, ↓setAt.eq_1, ↓delAt.eq_1, ↓fldAt.eq_1, ↓dP.eq_1, ↓dPT.eq_1, ↓dPC.eq_1, ↓dPI.eq_1, ↓dXnil.eq_1, ↓dXcons.eq_1, ↓dxOp.eq_1, ↓dxOpL.eq_1, ↓dxUn.eq_1, ↓dxTst.eq_1, ↓truD.eq_1, ↓dxTru.eq_1, ↓dxAndT.eq_1, ↓dxOrT.eq_1, ↓dxNotT.eq_1, ↓dxAndE.eq_1, ↓dxOrE.eq_1, ↓dxNotE.eq_1, ↓dxIfE.eq_1, ↓dxTup.eq_1, ↓dxLst.eq_1, ↓dxCB.eq_1, ↓dxCall.eq_1, ↓dxMethP.eq_1, ↓dxMethV.eq_1, ↓dxMethN.eq_1, ↓dxAppP.eq_1, ↓dxAppV.eq_1, dxAppP.isL, ↓appAt.eq_1, ↓nmPl.eq_1, nmAt, ↓nmArg.eq_1, isOb, ↓dVar.eq_1, ↓dK.eq_1, ↓dOp.eq_1, ↓dUn.eq_1, ↓dNil.eq_1, ↓dCons.eq_1, ↓dCnil.eq_1, ↓dCcons.eq_1, ↓dCall.eq_1, ↓dTupD.eq_1, ↓dLstD.eq_1, ↓dTst.eq_1, ↓dTru.eq_1, ↓dAndT.eq_1, ↓dOrT.eq_1, ↓dNotT.eq_1, ↓dAndE.eq_1, ↓dOrE.eq_1, ↓dNotE.eq_1, ↓dIfE.eq_1, ↓dNewK.eq_1, ↓dFld.eq_1, ↓dYes.eq_1, ↓dIsi.eq_1, dTy, isiB, ↓dI.eq_1, ↓dIC.eq_1, ↓dAdd.eq_1, ↓dEq.eq_1, ↓dNe.eq_1, dIs, ↓dLtI.eq_1, ↓dLt.eq_1, ↓dLtB.eq_1, ↓dSub.eq_1, ↓dMul.eq_1, ↓dFdiv.eq_1, ↓dMod.eq_1, ↓dPow.eq_1, ↓dLe.eq_1, ↓dGt.eq_1, ↓dGe.eq_1, ↓dAddI.eq_1, ↓dNeg.eq_1, ↓dMulA.eq_1, ↓dInA.eq_1, ↓dInD.eq_1, ↓dIn.eq_1, keyIn, ↓dIxA.eq_1, ↓dGetD.eq_1, ↓dIx.eq_1, ↓dSl.eq_1, ↓dOnone.eq_1, ↓dOsome.eq_1, ↓dL1_ap, ↓dL2_ap, ↓dL1Z_ap, ↓fLen_ap, ↓fAbs_ap, ↓fInt_ap, ↓fStr_ap, ↓fMax_ap, ↓fMin_ap, ↓fList_ap, ↓fTup_ap, ↓fLenZ.eq_1, ↓fListZ.eq_1, ↓fSum_ap, ↓fAny_ap, ↓fAll_ap, ↓dpVar.eq_1, ↓dpFld.eq_1, ↓dpaNil.eq_1, ↓dpaP.eq_1, ↓dpaD.eq_1, ↓dPPA.eq_1, ↓dxaNil.eq_1, ↓dxaV.eq_1, ↓dxaD.eq_1, ↓dxaN.eq_1, ↓dgName.eq_1, ↓dgNil.eq_1, ↓dgCons_ap, ↓dgTup_ap, ↓dItems.eq_1, ↓dXItems.eq_1, ↓itemsD.eq_1, Z.own, Z.data, S.data, Z.dicv, S.dicv, Z.items, S.items, Z.mems, S.mems, Z.ownL, Z.dk, S.dk, Z.keep, Z.fin, kindT, keyD, keyT, keysD, keyA, atP, S.at, S.kids, S.wth, SF.pos, SF.get, SF.set, SF.len, SF.labs, SF.app, S.put, putP, repl, kill, killS, backM, ghM, argT, args, lendR, backR, apartAll, npre, apart, S.noT, S.tru, S.live, wipeS, List.getElem?_cons_zero, List.getElem?_cons_succ, List.getElem?_nil, List.set_cons_zero, List.set_cons_succ, List.cons_append, List.nil_append, List.replicate, List.length_cons, List.length_nil, List.map_cons, List.map_nil, List.drop_succ_cons, List.drop_zero, List.all_cons, List.all_nil, List.tail_cons, List.getD, Option.map_some, Option.map_none, Option.isSome_some, Option.isSome_none, Option.some.injEq, Bool.and_true, Bool.true_and, Bool.not_true, Bool.not_false, Bool.false_eq_true, Bool.and_self, Bool.or_false, Bool.false_or, if_true, if_false, ite_true, ite_false, and_true, true_and, true_or, or_true, decide_eq_true_eq, decide_true, decide_false, Bool.not_eq_true', Bool.not_eq_eq_eq_not, decide_not, not_false_eq_true, not_true_eq_false, ↓reduceIte, natlit, atI_lit, ↓dPre.eq_1, ↓fT_nx, ↓fT_rt, ↓fT_ex, Nat.reduceAdd, Int.reduceNeg, ↓eqD_int, ↓eqD_str, ↓eqD_bool, ↓dRng1.eq_1, ↓dRng2.eq_1, inV_ints, inV_strs, inV_int1, inV_str1, inV_nil, flat_ints, flat_strs, flatD, vOf, lookS, lookI, lookP, dropS, dropI, dropP, Nat.sub_self, List.replicate_zero, Option.getD_some, Option.getD_none, reduceCtorEq, List.append_nil, str_lit, sz_0, sz_1, sz_2, sz_3, sz_4, sz_5, sz_6, sz_7, sz_8, sz_9, sz_10, sz_11, sz_12, sz_13, sz_14, sz_15, sz_16, sz_17, sz_18, sz_19, sz_20, sz_21, sz_22, sz_23, sz_24, Nat.reduceSub, Nat.reduceMul, Nat.reduceDiv, Nat.reduceMod, Nat.reduceLT, Nat.reduceLeDiff, Nat.reduceEqDiff, Nat.reduceGT, Nat.reduceBEq, Int.reduceAdd, Int.reduceSub, Int.reduceMul, Int.reduceDiv, Int.reduceMod, Int.reduceLT, Int.reduceLE, Int.reduceEq, Int.reduceNe, Int.reduceGT, Int.reduceGE, Int.reduceToNat, String.reduceEq, String.reduceNe, and_false, false_and, ↓dCallF_eq, ↓dCallK_eq, ↓dxMake_eq, Option.isSome_map, ↓callA_eq, ↓dForS_eq, ↓dWhileS_eq, ↓dLc_eq, ↓dSeq_ap, ↓dTidy_ap, ↓dTidyN_ap, seqE_nx, seqE_rt, seqE_bk, seqE_ct, seqE_ex, tidyE_nx, tidyE_rt, tidyE_bk, tidyE_ct, tidyE_ex, tidyNE_nx, tidyNE_rt, tidyNE_bk, tidyNE_ct, tidyNE_ex, loopE_nx, loopE_rt, loopE_bk, loopE_ct, loopE_ex, ↓fE_nx, ↓fE_rt, ↓exSome, ↓rdS_ap, ↓fSort_ap, goE_nx, goE_rt, goE_bk, goE_ct, goE_ex, decide_eq_false_iff_not, ite_not]
  refine callF_of (cl__law_first (ss := ["bound"]) ?_)
  simp -dsimp -implicitDefEqProofs only [↓dNext.eq_1, ↓dBreak.eq_1, ↓dCont.eq_1, ↓dNever.eq_1, ↓dDrop.eq_1, ↓dRet.eq_1, ↓dRetN.eq_1, ↓dIf.eq_1, ↓dSet.eq_1, ↓dFrz.eq_1, ↓dUnp.eq_1, ↓dRetV.eq_1, ↓dAug.eq_1, ↓dSetI.eq_1, ↓dDelI.eq_1, ↓dFldS.eq_1, ↓dFldA.eq_1, ↓setAt.eq_1, ↓delAt.eq_1, ↓fldAt.eq_1, ↓dP.eq_1, ↓dPT.eq_1, ↓dPC.eq_1, ↓dPI.eq_1, ↓dXnil.eq_1, ↓dXcons.eq_1, ↓dxOp.eq_1, ↓dxOpL.eq_1, ↓dxUn.eq_1, ↓dxTst.eq_1, ↓truD.eq_1, ↓dxTru.eq_1, ↓dxAndT.eq_1, ↓dxOrT.eq_1, ↓dxNotT.eq_1, ↓dxAndE.eq_1, ↓dxOrE.eq_1, ↓dxNotE.eq_1, ↓dxIfE.eq_1, ↓dxTup.eq_1, ↓dxLst.eq_1, ↓dxCB.eq_1, ↓dxCall.eq_1, ↓dxMethP.eq_1, ↓dxMethV.eq_1, ↓dxMethN.eq_1, ↓dxAppP.eq_1, ↓dxAppV.eq_1, dxAppP.isL, ↓appAt.eq_1, ↓nmPl.eq_1, nmAt, ↓nmArg.eq_1, isOb, ↓dVar.eq_1, ↓dK.eq_1, ↓dOp.eq_1, ↓dUn.eq_1, ↓dNil.eq_1, ↓dCons.eq_1, ↓dCnil.eq_1, ↓dCcons.eq_1, ↓dCall.eq_1, ↓dTupD.eq_1, ↓dLstD.eq_1, ↓dTst.eq_1, ↓dTru.eq_1, ↓dAndT.eq_1, ↓dOrT.eq_1, ↓dNotT.eq_1, ↓dAndE.eq_1, ↓dOrE.eq_1, ↓dNotE.eq_1, ↓dIfE.eq_1, ↓dNewK.eq_1, ↓dFld.eq_1, ↓dYes.eq_1, ↓dIsi.eq_1, dTy, isiB, ↓dI.eq_1, ↓dIC.eq_1, ↓dAdd.eq_1, ↓dEq.eq_1, ↓dNe.eq_1, dIs, ↓dLtI.eq_1, ↓dLt.eq_1, ↓dLtB.eq_1, ↓dSub.eq_1, ↓dMul.eq_1, ↓dFdiv.eq_1, ↓dMod.eq_1, ↓dPow.eq_1, ↓dLe.eq_1, ↓dGt.eq_1, ↓dGe.eq_1, ↓dAddI.eq_1, ↓dNeg.eq_1, ↓dMulA.eq_1, ↓dInA.eq_1, ↓dInD.eq_1, ↓dIn.eq_1, keyIn, ↓dIxA.eq_1, ↓dGetD.eq_1, ↓dIx.eq_1, ↓dSl.eq_1, ↓dOnone.eq_1, ↓dOsome.eq_1, ↓dL1_ap, ↓dL2_ap, ↓dL1Z_ap, ↓fLen_ap, ↓fAbs_ap, ↓fInt_ap, ↓fStr_ap, ↓fMax_ap, ↓fMin_ap, ↓fList_ap, ↓fTup_ap, ↓fLenZ.eq_1, ↓fListZ.eq_1, ↓fSum_ap, ↓fAny_ap, ↓fAll_ap, ↓dpVar.eq_1, ↓dpFld.eq_1, ↓dpaNil.eq_1, ↓dpaP.eq_1, ↓dpaD.eq_1, ↓dPPA.eq_1, ↓dxaNil.eq_1, ↓dxaV.eq_1, ↓dxaD.eq_1, ↓dxaN.eq_1, ↓dgName.eq_1, ↓dgNil.eq_1, ↓dgCons_ap, ↓dgTup_ap, ↓dItems.eq_1, ↓dXItems.eq_1, ↓itemsD.eq_1, Z.own, Z.data, S.data, Z.dicv, S.dicv, Z.items, S.items, Z.mems, S.mems, Z.ownL, Z.dk, S.dk, Z.keep, Z.fin, kindT, keyD, keyT, keysD, keyA, atP, S.at, S.kids, S.wth, SF.pos, SF.get, SF.set, SF.len, SF.labs, SF.app, S.put, putP, repl, kill, killS, backM, ghM, argT, args, lendR, backR, apartAll, npre, apart, S.noT, S.tru, S.live, wipeS, List.getElem?_cons_zero, List.getElem?_cons_succ, List.getElem?_nil, List.set_cons_zero, List.set_cons_succ, List.cons_append, List.nil_append, List.replicate, List.length_cons, List.length_nil, List.map_cons, List.map_nil, List.drop_succ_cons, List.drop_zero, List.all_cons, List.all_nil, List.tail_cons, List.getD, Option.map_some, Option.map_none, Option.isSome_some, Option.isSome_none, Option.some.injEq, Bool.and_true, Bool.true_and, Bool.not_true, Bool.not_false, Bool.false_eq_true, Bool.and_self, Bool.or_false, Bool.false_or, if_true, if_false, ite_true, ite_false, and_true, true_and, true_or, or_true, decide_eq_true_eq, decide_true, decide_false, Bool.not_eq_true', Bool.not_eq_eq_eq_not, decide_not, not_false_eq_true, not_true_eq_false, ↓reduceIte, natlit, atI_lit, ↓dPre.eq_1, ↓fT_nx, ↓fT_rt, ↓fT_ex, Nat.reduceAdd, Int.reduceNeg, ↓eqD_int, ↓eqD_str, ↓eqD_bool, ↓dRng1.eq_1, ↓dRng2.eq_1, inV_ints, inV_strs, inV_int1, inV_str1, inV_nil, flat_ints, flat_strs, flatD, vOf, lookS, lookI, lookP, dropS, dropI, dropP, Nat.sub_self, List.replicate_zero, Option.getD_some, Option.getD_none, reduceCtorEq, List.append_nil, str_lit, sz_0, sz_1, sz_2, sz_3, sz_4, sz_5, sz_6, sz_7, sz_8, sz_9, sz_10, sz_11, sz_12, sz_13, sz_14, sz_15, sz_16, sz_17, sz_18, sz_19, sz_20, sz_21, sz_22, sz_23, sz_24, Nat.reduceSub, Nat.reduceMul, Nat.reduceDiv, Nat.reduceMod, Nat.reduceLT, Nat.reduceLeDiff, Nat.reduceEqDiff, Nat.reduceGT, Nat.reduceBEq, Int.reduceAdd, Int.reduceSub, Int.reduceMul, Int.reduceDiv, Int.reduceMod, Int.reduceLT, Int.reduceLE, Int.reduceEq, Int.reduceNe, Int.reduceGT, Int.reduceGE, Int.reduceToNat, String.reduceEq, String.reduceNe, and_false, false_and, ↓dCallF_eq, ↓dCallK_eq, ↓dxMake_eq, Option.isSome_map, ↓callA_eq, ↓dForS_eq, ↓dWhileS_eq, ↓dLc_eq, ↓dSeq_ap, ↓dTidy_ap, ↓dTidyN_ap, seqE_nx, seqE_rt, seqE_bk, seqE_ct, seqE_ex, tidyE_nx, tidyE_rt, tidyE_bk, tidyE_ct, tidyE_ex, tidyNE_nx, tidyNE_rt, tidyNE_bk, tidyNE_ct, tidyNE_ex, loopE_nx, loopE_rt, loopE_bk, loopE_ct, loopE_ex, ↓fE_nx, ↓fE_rt, ↓exSome, ↓rdS_ap, ↓fSort_ap, goE_nx, goE_rt, goE_bk, goE_ct, goE_ex, decide_eq_false_iff_not, ite_not, e1]
  refine eqD_same rfl (no _) (q := ?_)
  simp -dsimp -implicitDefEqProofs only [↓dNext.eq_1, ↓dBreak.eq_1, ↓dCont.eq_1, ↓dNever.eq_1, ↓dDrop.eq_1, ↓dRet.eq_1, ↓dRetN.eq_1, ↓dIf.eq_1, ↓dSet.eq_1, ↓dFrz.eq_1, ↓dUnp.eq_1, ↓dRetV.eq_1, ↓dAug.eq_1, ↓dSetI.eq_1, ↓dDelI.eq_1, ↓dFldS.eq_1, ↓dFldA.eq_1, ↓setAt.eq_1, ↓delAt.eq_1, ↓fldAt.eq_1, ↓dP.eq_1, ↓dPT.eq_1, ↓dPC.eq_1, ↓dPI.eq_1, ↓dXnil.eq_1, ↓dXcons.eq_1, ↓dxOp.eq_1, ↓dxOpL.eq_1, ↓dxUn.eq_1, ↓dxTst.eq_1, ↓truD.eq_1, ↓dxTru.eq_1, ↓dxAndT.eq_1, ↓dxOrT.eq_1, ↓dxNotT.eq_1, ↓dxAndE.eq_1, ↓dxOrE.eq_1, ↓dxNotE.eq_1, ↓dxIfE.eq_1, ↓dxTup.eq_1, ↓dxLst.eq_1, ↓dxCB.eq_1, ↓dxCall.eq_1, ↓dxMethP.eq_1, ↓dxMethV.eq_1, ↓dxMethN.eq_1, ↓dxAppP.eq_1, ↓dxAppV.eq_1, dxAppP.isL, ↓appAt.eq_1, ↓nmPl.eq_1, nmAt, ↓nmArg.eq_1, isOb, ↓dVar.eq_1, ↓dK.eq_1, ↓dOp.eq_1, ↓dUn.eq_1, ↓dNil.eq_1, ↓dCons.eq_1, ↓dCnil.eq_1, ↓dCcons.eq_1, ↓dCall.eq_1, ↓dTupD.eq_1, ↓dLstD.eq_1, ↓dTst.eq_1, ↓dTru.eq_1, ↓dAndT.eq_1, ↓dOrT.eq_1, ↓dNotT.eq_1, ↓dAndE.eq_1, ↓dOrE.eq_1, ↓dNotE.eq_1, ↓dIfE.eq_1, ↓dNewK.eq_1, ↓dFld.eq_1, ↓dYes.eq_1, ↓dIsi.eq_1, dTy, isiB, ↓dI.eq_1, ↓dIC.eq_1, ↓dAdd.eq_1, ↓dEq.eq_1, ↓dNe.eq_1, dIs, ↓dLtI.eq_1, ↓dLt.eq_1, ↓dLtB.eq_1, ↓dSub.eq_1, ↓dMul.eq_1, ↓dFdiv.eq_1, ↓dMod.eq_1, ↓dPow.eq_1, ↓dLe.eq_1, ↓dGt.eq_1, ↓dGe.eq_1, ↓dAddI.eq_1, ↓dNeg.eq_1, ↓dMulA.eq_1, ↓dInA.eq_1, ↓dInD.eq_1, ↓dIn.eq_1, keyIn, ↓dIxA.eq_1, ↓dGetD.eq_1, ↓dIx.eq_1, ↓dSl.eq_1, ↓dOnone.eq_1, ↓dOsome.eq_1, ↓dL1_ap, ↓dL2_ap, ↓dL1Z_ap, ↓fLen_ap, ↓fAbs_ap, ↓fInt_ap, ↓fStr_ap, ↓fMax_ap, ↓fMin_ap, ↓fList_ap, ↓fTup_ap, ↓fLenZ.eq_1, ↓fListZ.eq_1, ↓fSum_ap, ↓fAny_ap, ↓fAll_ap, ↓dpVar.eq_1, ↓dpFld.eq_1, ↓dpaNil.eq_1, ↓dpaP.eq_1, ↓dpaD.eq_1, ↓dPPA.eq_1, ↓dxaNil.eq_1, ↓dxaV.eq_1, ↓dxaD.eq_1, ↓dxaN.eq_1, ↓dgName.eq_1, ↓dgNil.eq_1, ↓dgCons_ap, ↓dgTup_ap, ↓dItems.eq_1, ↓dXItems.eq_1, ↓itemsD.eq_1, Z.own, Z.data, S.data, Z.dicv, S.dicv, Z.items, S.items, Z.mems, S.mems, Z.ownL, Z.dk, S.dk, Z.keep, Z.fin, kindT, keyD, keyT, keysD, keyA, atP, S.at, S.kids, S.wth, SF.pos, SF.get, SF.set, SF.len, SF.labs, SF.app, S.put, putP, repl, kill, killS, backM, ghM, argT, args, lendR, backR, apartAll, npre, apart, S.noT, S.tru, S.live, wipeS, List.getElem?_cons_zero, List.getElem?_cons_succ, List.getElem?_nil, List.set_cons_zero, List.set_cons_succ, List.cons_append, List.nil_append, List.replicate, List.length_cons, List.length_nil, List.map_cons, List.map_nil, List.drop_succ_cons, List.drop_zero, List.all_cons, List.all_nil, List.tail_cons, List.getD, Option.map_some, Option.map_none, Option.isSome_some, Option.isSome_none, Option.some.injEq, Bool.and_true, Bool.true_and, Bool.not_true, Bool.not_false, Bool.false_eq_true, Bool.and_self, Bool.or_false, Bool.false_or, if_true, if_false, ite_true, ite_false, and_true, true_and, true_or, or_true, decide_eq_true_eq, decide_true, decide_false, Bool.not_eq_true', Bool.not_eq_eq_eq_not, decide_not, not_false_eq_true, not_true_eq_false, ↓reduceIte, natlit, atI_lit, ↓dPre.eq_1, ↓fT_nx, ↓fT_rt, ↓fT_ex, Nat.reduceAdd, Int.reduceNeg, ↓eqD_int, ↓eqD_str, ↓eqD_bool, ↓dRng1.eq_1, ↓dRng2.eq_1, inV_ints, inV_strs, inV_int1, inV_str1, inV_nil, flat_ints, flat_strs, flatD, vOf, lookS, lookI, lookP, dropS, dropI, dropP, Nat.sub_self, List.replicate_zero, Option.getD_some, Option.getD_none, reduceCtorEq, List.append_nil, str_lit, sz_0, sz_1, sz_2, sz_3, sz_4, sz_5, sz_6, sz_7, sz_8, sz_9, sz_10, sz_11, sz_12, sz_13, sz_14, sz_15, sz_16, sz_17, sz_18, sz_19, sz_20, sz_21, sz_22, sz_23, sz_24, Nat.reduceSub, Nat.reduceMul, Nat.reduceDiv, Nat.reduceMod, Nat.reduceLT, Nat.reduceLeDiff, Nat.reduceEqDiff, Nat.reduceGT, Nat.reduceBEq, Int.reduceAdd, Int.reduceSub, Int.reduceMul, Int.reduceDiv, Int.reduceMod, Int.reduceLT, Int.reduceLE, Int.reduceEq, Int.reduceNe, Int.reduceGT, Int.reduceGE, Int.reduceToNat, String.reduceEq, String.reduceNe, and_false, false_and, ↓dCallF_eq, ↓dCallK_eq, ↓dxMake_eq, Option.isSome_map, ↓callA_eq, ↓dForS_eq, ↓dWhileS_eq, ↓dLc_eq, ↓dSeq_ap, ↓dTidy_ap, ↓dTidyN_ap, seqE_nx, seqE_rt, seqE_bk, seqE_ct, seqE_ex, tidyE_nx, tidyE_rt, tidyE_bk, tidyE_ct, tidyE_ex, tidyNE_nx, tidyNE_rt, tidyNE_bk, tidyNE_ct, tidyNE_ex, loopE_nx, loopE_rt, loopE_bk, loopE_ct, loopE_ex, ↓fE_nx, ↓fE_rt, ↓exSome, ↓rdS_ap, ↓fSort_ap, goE_nx, goE_rt, goE_bk, goE_ct, goE_ex, decide_eq_false_iff_not, ite_not, b__law_one_L94]
  refine callF_of (cl_next_end ?_)
  simp -dsimp -implicitDefEqProofs only [↓dNext.eq_1, ↓dBreak.eq_1, ↓dCont.eq_1, ↓dNever.eq_1, ↓dDrop.eq_1, ↓dRet.eq_1, ↓dRetN.eq_1, ↓dIf.eq_1, ↓dSet.eq_1, ↓dFrz.eq_1, ↓dUnp.eq_1, ↓dRetV.eq_1, ↓dAug.eq_1, ↓dSetI.eq_1, ↓dDelI.eq_1, ↓dFldS.eq_1, ↓dFldA.eq_1, ↓setAt.eq_1, ↓delAt.eq_1, ↓fldAt.eq_1, ↓dP.eq_1, ↓dPT.eq_1, ↓dPC.eq_1, ↓dPI.eq_1, ↓dXnil.eq_1, ↓dXcons.eq_1, ↓dxOp.eq_1, ↓dxOpL.eq_1, ↓dxUn.eq_1, ↓dxTst.eq_1, ↓truD.eq_1, ↓dxTru.eq_1, ↓dxAndT.eq_1, ↓dxOrT.eq_1, ↓dxNotT.eq_1, ↓dxAndE.eq_1, ↓dxOrE.eq_1, ↓dxNotE.eq_1, ↓dxIfE.eq_1, ↓dxTup.eq_1, ↓dxLst.eq_1, ↓dxCB.eq_1, ↓dxCall.eq_1, ↓dxMethP.eq_1, ↓dxMethV.eq_1, ↓dxMethN.eq_1, ↓dxAppP.eq_1, ↓dxAppV.eq_1, dxAppP.isL, ↓appAt.eq_1, ↓nmPl.eq_1, nmAt, ↓nmArg.eq_1, isOb, ↓dVar.eq_1, ↓dK.eq_1, ↓dOp.eq_1, ↓dUn.eq_1, ↓dNil.eq_1, ↓dCons.eq_1, ↓dCnil.eq_1, ↓dCcons.eq_1, ↓dCall.eq_1, ↓dTupD.eq_1, ↓dLstD.eq_1, ↓dTst.eq_1, ↓dTru.eq_1, ↓dAndT.eq_1, ↓dOrT.eq_1, ↓dNotT.eq_1, ↓dAndE.eq_1, ↓dOrE.eq_1, ↓dNotE.eq_1, ↓dIfE.eq_1, ↓dNewK.eq_1, ↓dFld.eq_1, ↓dYes.eq_1, ↓dIsi.eq_1, dTy, isiB, ↓dI.eq_1, ↓dIC.eq_1, ↓dAdd.eq_1, ↓dEq.eq_1, ↓dNe.eq_1, dIs, ↓dLtI.eq_1, ↓dLt.eq_1, ↓dLtB.eq_1, ↓dSub.eq_1, ↓dMul.eq_1, ↓dFdiv.eq_1, ↓dMod.eq_1, ↓dPow.eq_1, ↓dLe.eq_1, ↓dGt.eq_1, ↓dGe.eq_1, ↓dAddI.eq_1, ↓dNeg.eq_1, ↓dMulA.eq_1, ↓dInA.eq_1, ↓dInD.eq_1, ↓dIn.eq_1, keyIn, ↓dIxA.eq_1, ↓dGetD.eq_1, ↓dIx.eq_1, ↓dSl.eq_1, ↓dOnone.eq_1, ↓dOsome.eq_1, ↓dL1_ap, ↓dL2_ap, ↓dL1Z_ap, ↓fLen_ap, ↓fAbs_ap, ↓fInt_ap, ↓fStr_ap, ↓fMax_ap, ↓fMin_ap, ↓fList_ap, ↓fTup_ap, ↓fLenZ.eq_1, ↓fListZ.eq_1, ↓fSum_ap, ↓fAny_ap, ↓fAll_ap, ↓dpVar.eq_1, ↓dpFld.eq_1, ↓dpaNil.eq_1, ↓dpaP.eq_1, ↓dpaD.eq_1, ↓dPPA.eq_1, ↓dxaNil.eq_1, ↓dxaV.eq_1, ↓dxaD.eq_1, ↓dxaN.eq_1, ↓dgName.eq_1, ↓dgNil.eq_1, ↓dgCons_ap, ↓dgTup_ap, ↓dItems.eq_1, ↓dXItems.eq_1, ↓itemsD.eq_1, Z.own, Z.data, S.data, Z.dicv, S.dicv, Z.items, S.items, Z.mems, S.mems, Z.ownL, Z.dk, S.dk, Z.keep, Z.fin, kindT, keyD, keyT, keysD, keyA, atP, S.at, S.kids, S.wth, SF.pos, SF.get, SF.set, SF.len, SF.labs, SF.app, S.put, putP, repl, kill, killS, backM, ghM, argT, args, lendR, backR, apartAll, npre, apart, S.noT, S.tru, S.live, wipeS, List.getElem?_cons_zero, List.getElem?_cons_succ, List.getElem?_nil, List.set_cons_zero, List.set_cons_succ, List.cons_append, List.nil_append, List.replicate, List.length_cons, List.length_nil, List.map_cons, List.map_nil, List.drop_succ_cons, List.drop_zero, List.all_cons, List.all_nil, List.tail_cons, List.getD, Option.map_some, Option.map_none, Option.isSome_some, Option.isSome_none, Option.some.injEq, Bool.and_true, Bool.true_and, Bool.not_true, Bool.not_false, Bool.false_eq_true, Bool.and_self, Bool.or_false, Bool.false_or, if_true, if_false, ite_true, ite_false, and_true, true_and, true_or, or_true, decide_eq_true_eq, decide_true, decide_false, Bool.not_eq_true', Bool.not_eq_eq_eq_not, decide_not, not_false_eq_true, not_true_eq_false, ↓reduceIte, natlit, atI_lit, ↓dPre.eq_1, ↓fT_nx, ↓fT_rt, ↓fT_ex, Nat.reduceAdd, Int.reduceNeg, ↓eqD_int, ↓eqD_str, ↓eqD_bool, ↓dRng1.eq_1, ↓dRng2.eq_1, inV_ints, inV_strs, inV_int1, inV_str1, inV_nil, flat_ints, flat_strs, flatD, vOf, lookS, lookI, lookP, dropS, dropI, dropP, Nat.sub_self, List.replicate_zero, Option.getD_some, Option.getD_none, reduceCtorEq, List.append_nil, str_lit, sz_0, sz_1, sz_2, sz_3, sz_4, sz_5, sz_6, sz_7, sz_8, sz_9, sz_10, sz_11, sz_12, sz_13, sz_14, sz_15, sz_16, sz_17, sz_18, sz_19, sz_20, sz_21, sz_22, sz_23, sz_24, Nat.reduceSub, Nat.reduceMul, Nat.reduceDiv, Nat.reduceMod, Nat.reduceLT, Nat.reduceLeDiff, Nat.reduceEqDiff, Nat.reduceGT, Nat.reduceBEq, Int.reduceAdd, Int.reduceSub, Int.reduceMul, Int.reduceDiv, Int.reduceMod, Int.reduceLT, Int.reduceLE, Int.reduceEq, Int.reduceNe, Int.reduceGT, Int.reduceGE, Int.reduceToNat, String.reduceEq, String.reduceNe, and_false, false_and, ↓dCallF_eq, ↓dCallK_eq, ↓dxMake_eq, Option.isSome_map, ↓callA_eq, ↓dForS_eq, ↓dWhileS_eq, ↓dLc_eq, ↓dSeq_ap, ↓dTidy_ap, ↓dTidyN_ap, seqE_nx, seqE_rt, seqE_bk, seqE_ct, seqE_ex, tidyE_nx, tidyE_rt, tidyE_bk, tidyE_ct, tidyE_ex, tidyNE_nx, tidyNE_rt, tidyNE_bk, tidyNE_ct, tidyNE_ex, loopE_nx, loopE_rt, loopE_bk, loopE_ct, loopE_ex, ↓fE_nx, ↓fE_rt, ↓exSome, ↓rdS_ap, ↓fSort_ap, goE_nx, goE_rt, goE_bk, goE_ct, goE_ex, decide_eq_false_iff_not, ite_not]
  refine callF_of (cl__law_first (ss := ["bound", "running"]) ?_)
  simp -dsimp -implicitDefEqProofs only [↓dNext.eq_1, ↓dBreak.eq_1, ↓dCont.eq_1, ↓dNever.eq_1, ↓dDrop.eq_1, ↓dRet.eq_1, ↓dRetN.eq_1, ↓dIf.eq_1, ↓dSet.eq_1, ↓dFrz.eq_1, ↓dUnp.eq_1, ↓dRetV.eq_1, ↓dAug.eq_1, ↓dSetI.eq_1, ↓dDelI.eq_1, ↓dFldS.eq_1, ↓dFldA.eq_1, ↓setAt.eq_1, ↓delAt.eq_1, ↓fldAt.eq_1, ↓dP.eq_1, ↓dPT.eq_1, ↓dPC.eq_1, ↓dPI.eq_1, ↓dXnil.eq_1, ↓dXcons.eq_1, ↓dxOp.eq_1, ↓dxOpL.eq_1, ↓dxUn.eq_1, ↓dxTst.eq_1, ↓truD.eq_1, ↓dxTru.eq_1, ↓dxAndT.eq_1, ↓dxOrT.eq_1, ↓dxNotT.eq_1, ↓dxAndE.eq_1, ↓dxOrE.eq_1, ↓dxNotE.eq_1, ↓dxIfE.eq_1, ↓dxTup.eq_1, ↓dxLst.eq_1, ↓dxCB.eq_1, ↓dxCall.eq_1, ↓dxMethP.eq_1, ↓dxMethV.eq_1, ↓dxMethN.eq_1, ↓dxAppP.eq_1, ↓dxAppV.eq_1, dxAppP.isL, ↓appAt.eq_1, ↓nmPl.eq_1, nmAt, ↓nmArg.eq_1, isOb, ↓dVar.eq_1, ↓dK.eq_1, ↓dOp.eq_1, ↓dUn.eq_1, ↓dNil.eq_1, ↓dCons.eq_1, ↓dCnil.eq_1, ↓dCcons.eq_1, ↓dCall.eq_1, ↓dTupD.eq_1, ↓dLstD.eq_1, ↓dTst.eq_1, ↓dTru.eq_1, ↓dAndT.eq_1, ↓dOrT.eq_1, ↓dNotT.eq_1, ↓dAndE.eq_1, ↓dOrE.eq_1, ↓dNotE.eq_1, ↓dIfE.eq_1, ↓dNewK.eq_1, ↓dFld.eq_1, ↓dYes.eq_1, ↓dIsi.eq_1, dTy, isiB, ↓dI.eq_1, ↓dIC.eq_1, ↓dAdd.eq_1, ↓dEq.eq_1, ↓dNe.eq_1, dIs, ↓dLtI.eq_1, ↓dLt.eq_1, ↓dLtB.eq_1, ↓dSub.eq_1, ↓dMul.eq_1, ↓dFdiv.eq_1, ↓dMod.eq_1, ↓dPow.eq_1, ↓dLe.eq_1, ↓dGt.eq_1, ↓dGe.eq_1, ↓dAddI.eq_1, ↓dNeg.eq_1, ↓dMulA.eq_1, ↓dInA.eq_1, ↓dInD.eq_1, ↓dIn.eq_1, keyIn, ↓dIxA.eq_1, ↓dGetD.eq_1, ↓dIx.eq_1, ↓dSl.eq_1, ↓dOnone.eq_1, ↓dOsome.eq_1, ↓dL1_ap, ↓dL2_ap, ↓dL1Z_ap, ↓fLen_ap, ↓fAbs_ap, ↓fInt_ap, ↓fStr_ap, ↓fMax_ap, ↓fMin_ap, ↓fList_ap, ↓fTup_ap, ↓fLenZ.eq_1, ↓fListZ.eq_1, ↓fSum_ap, ↓fAny_ap, ↓fAll_ap, ↓dpVar.eq_1, ↓dpFld.eq_1, ↓dpaNil.eq_1, ↓dpaP.eq_1, ↓dpaD.eq_1, ↓dPPA.eq_1, ↓dxaNil.eq_1, ↓dxaV.eq_1, ↓dxaD.eq_1, ↓dxaN.eq_1, ↓dgName.eq_1, ↓dgNil.eq_1, ↓dgCons_ap, ↓dgTup_ap, ↓dItems.eq_1, ↓dXItems.eq_1, ↓itemsD.eq_1, Z.own, Z.data, S.data, Z.dicv, S.dicv, Z.items, S.items, Z.mems, S.mems, Z.ownL, Z.dk, S.dk, Z.keep, Z.fin, kindT, keyD, keyT, keysD, keyA, atP, S.at, S.kids, S.wth, SF.pos, SF.get, SF.set, SF.len, SF.labs, SF.app, S.put, putP, repl, kill, killS, backM, ghM, argT, args, lendR, backR, apartAll, npre, apart, S.noT, S.tru, S.live, wipeS, List.getElem?_cons_zero, List.getElem?_cons_succ, List.getElem?_nil, List.set_cons_zero, List.set_cons_succ, List.cons_append, List.nil_append, List.replicate, List.length_cons, List.length_nil, List.map_cons, List.map_nil, List.drop_succ_cons, List.drop_zero, List.all_cons, List.all_nil, List.tail_cons, List.getD, Option.map_some, Option.map_none, Option.isSome_some, Option.isSome_none, Option.some.injEq, Bool.and_true, Bool.true_and, Bool.not_true, Bool.not_false, Bool.false_eq_true, Bool.and_self, Bool.or_false, Bool.false_or, if_true, if_false, ite_true, ite_false, and_true, true_and, true_or, or_true, decide_eq_true_eq, decide_true, decide_false, Bool.not_eq_true', Bool.not_eq_eq_eq_not, decide_not, not_false_eq_true, not_true_eq_false, ↓reduceIte, natlit, atI_lit, ↓dPre.eq_1, ↓fT_nx, ↓fT_rt, ↓fT_ex, Nat.reduceAdd, Int.reduceNeg, ↓eqD_int, ↓eqD_str, ↓eqD_bool, ↓dRng1.eq_1, ↓dRng2.eq_1, inV_ints, inV_strs, inV_int1, inV_str1, inV_nil, flat_ints, flat_strs, flatD, vOf, lookS, lookI, lookP, dropS, dropI, dropP, Nat.sub_self, List.replicate_zero, Option.getD_some, Option.getD_none, reduceCtorEq, List.append_nil, str_lit, sz_0, sz_1, sz_2, sz_3, sz_4, sz_5, sz_6, sz_7, sz_8, sz_9, sz_10, sz_11, sz_12, sz_13, sz_14, sz_15, sz_16, sz_17, sz_18, sz_19, sz_20, sz_21, sz_22, sz_23, sz_24, Nat.reduceSub, Nat.reduceMul, Nat.reduceDiv, Nat.reduceMod, Nat.reduceLT, Nat.reduceLeDiff, Nat.reduceEqDiff, Nat.reduceGT, Nat.reduceBEq, Int.reduceAdd, Int.reduceSub, Int.reduceMul, Int.reduceDiv, Int.reduceMod, Int.reduceLT, Int.reduceLE, Int.reduceEq, Int.reduceNe, Int.reduceGT, Int.reduceGE, Int.reduceToNat, String.reduceEq, String.reduceNe, and_false, false_and, ↓dCallF_eq, ↓dCallK_eq, ↓dxMake_eq, Option.isSome_map, ↓callA_eq, ↓dForS_eq, ↓dWhileS_eq, ↓dLc_eq, ↓dSeq_ap, ↓dTidy_ap, ↓dTidyN_ap, seqE_nx, seqE_rt, seqE_bk, seqE_ct, seqE_ex, tidyE_nx, tidyE_rt, tidyE_bk, tidyE_ct, tidyE_ex, tidyNE_nx, tidyNE_rt, tidyNE_bk, tidyNE_ct, tidyNE_ex, loopE_nx, loopE_rt, loopE_bk, loopE_ct, loopE_ex, ↓fE_nx, ↓fE_rt, ↓exSome, ↓rdS_ap, ↓fSort_ap, goE_nx, goE_rt, goE_bk, goE_ct, goE_ex, decide_eq_false_iff_not, ite_not, e2]
  exact eqD_same rfl (no _) (q := h)
def b_law_L108 : dS := (dIf (dPT (dTst (dOp dEq (dOp dIxA (dVar 9) (dK (.int 2))) (dK (.int 0))))) (dDrop (dxAppP (dpVar 8) (dOp dIxA (dOp dIxA (dVar 2) (dVar 3)) (dK (.int 1))))) dNext)
def b_law_L106 : dS := (dSeq (dIf (dPT (dTst (dOp dEq (dOp dIxA (dVar 9) (dK (.int 1))) (dK (.int 0))))) (dDrop (dxAppP (dpVar 7) (dOp dIxA (dOp dIxA (dVar 2) (dVar 3)) (dK (.int 2))))) dNext) b_law_L108)
def b_law_L104 : dS := (dSeq (dIf (dPT (dAndT (dTst (dOp dEq (dOp dIxA (dVar 9) (dK (.int 0))) (dK (.int 0)))) (dTst (dOp dEq (dOp dIxA (dOp dIxA (dVar 2) (dVar 3)) (dK (.int 0))) (dK (.str "task")))))) (dDrop (dxMethP 0 F_Runs_begin dd_Runs_begin (dpVar 6) (dpaD (dOp dIxA (dOp dIxA (dVar 2) (dVar 3)) (dK (.int 1))) (dpaD (dK (.int 5)) dpaNil)))) dNext) b_law_L106)
def b_law_B102 : dS := dTidy [3, 9] ((dSeq (dSet 9 (dP (dCallF F__law_digits dd__law_digits (dCcons (dVar 0) (dCcons (dOp dAdd (dK (.int 31)) (dVar 3)) (dCcons (dLstD (dCcons (dK (.int 4)) (dCcons (dK (.int 4)) (dCcons (dK (.int 4)) dCnil)))) dCnil)))))) (dFrz 9 b_law_L104)))
def b_law_B112 : dS := dTidy [12] ((dIf (dxNotT (dxTru (dxCall F__law_one dd__law_one (dPPA (dpaD (dVar 2) (dpaD (dVar 11) (dpaD (dVar 12) (dpaP (dpVar 6) (dpaD (dVar 7) (dpaD (dVar 8) dpaNil)))))))))) (dRet (dP (dK (.bool false)))) dNext))
def b_law_B111 : dS := dTidy [11, 12] ((dPre [1, 3, 5, 9, 12] (dFor (dPI (dItems (dLstD (dCcons (dK (.int 1)) (dCcons (dK (.int 2)) (dCcons (dK (.int 3)) dCnil)))))) (dgName 12) b_law_B112)))
def b_law_L115 : dS := (dRet (dxAndE (dP (dOp dEq (dVar 2) (dVar 4))) (dxOp dEq (dxMethP 0 F_Runs_slots dd_Runs_slots (dpVar 6) dpaNil) (dP (dVar 10)))))
def b_law_L111 : dS := (dSeq (dPre [1, 3, 5, 9, 11, 12] (dFor (dPI (dItems (dLstD (dCcons (dK (.str "w1")) (dCcons (dK (.str "w2")) (dCcons (dK (.str "w10")) (dCcons (dK (.str "w")) dCnil))))))) (dgName 11) b_law_B111)) b_law_L115)
def b_law_L110 : dS := (dSeq (dSet 10 (dxMethP 0 F_Runs_slots dd_Runs_slots (dpVar 6) dpaNil)) (dFrz 10 b_law_L111))
def b_law_L102 : dS := (dSeq (dPre [3, 5, 9, 10, 11, 12] (dFor (dPI (dRng1 (dCons (dVar 1) dNil))) (dgName 3) b_law_B102)) (dFrz 8 (dFrz 7 b_law_L110)))
def b_law_L101 : dS := (dSeq (dSet 8 (dP (dLstD dCnil))) b_law_L102)
def b_law_L100 : dS := (dSeq (dSet 7 (dP (dLstD dCnil))) b_law_L101)
def b_law_L99 : dS := (dSeq (dSet 6 (dxMake 0 F_Runs___init__ dd_Runs___init__ dxaNil)) b_law_L100)
def b_law_L98 : dS := (dSeq (dSet 4 (dP (dLc (dItems (dVar 2)) (dgName 5) dYes (dVar 5) [5]))) (dFrz 4 b_law_L99))
def b_law_L97 : dS := (dSeq (dSet 2 (dP (dLc (dRng1 (dCons (dVar 1) dNil)) (dgName 3) dYes (dCallF F__law_entry dd__law_entry (dCcons (dVar 0) (dCcons (dOp dAdd (dK (.int 1)) (dVar 3)) dCnil))) [3]))) (dFrz 2 b_law_L98))
def b_law : dS := (dSeq (dSet 1 (dP (dOp dIxA (dCallF F__law_digits dd__law_digits (dCcons (dVar 0) (dCcons (dK (.int 0)) (dCcons (dLstD (dCcons (dK (.int 31)) dCnil)) dCnil)))) (dK (.int 0))))) b_law_L97)

abbrev SL (ns : List Int) (sz : Int) (es : List Ent) (k : S) (xs : List (Str × Int)) (cs : List Int) (hs : List Str) (use sl : S) : List S := [.v (scrD ns), .v (.int sz), .v (.list (es.map encE)), k, .v (.list (es.map encE)), .no, runs xs, .l (cs.map .int), .l (hs.map .str), use, sl, .no, .no]
def nameE : Ent → Str
  | .node n _ _ _ => n
  | .task t => t.name
def bornE : Ent → Int
  | .node _ b _ _ => b
  | .task t => t.born
theorem enc_at1 (e : Ent) : ∃ k v w : D, encE e = .tuple [k, .str (nameE e), .int (bornE e), v, w] := by
  cases e
  · exact ⟨_, _, _, rfl⟩
  · exact ⟨_, _, _, rfl⟩
section
variable {E : DE} {ns : List Int} {sz k u0 u1 u2 : Int} {es : List Ent} {e : Ent} {xs : List (Str × Int)} {cs : List Int} {hs : List Str}
theorem l13 (he : atI (es.map encE) k = some (encE e)) (hl : hs.length ≤ 1000) (h : ∀ hs' : List Str, hs'.length ≤ hs.length + 1 → E.nx (SL ns sz es (.v (.int k)) xs cs hs' (.v (.list [.int u0, .int u1, .int u2])) .no)) :
    b_law_L108 E (SL ns sz es (.v (.int k)) xs cs hs (.v (.list [.int u0, .int u1, .int u2])) .no) := by
  obtain ⟨kk, v, w, ev⟩ := enc_at1 e
  rw [ev] at he
  by_cases c : u2 = 0
  · subst c
    simp -dsimp -implicitDefEqProofs only [↓dNext.eq_1, ↓dBreak.eq_1, ↓dCont.eq_1, ↓dNever.eq_1, ↓dDrop.eq_1, ↓dRet.eq_1, ↓dRetN.eq_1, ↓dIf.eq_1, ↓dSet.eq_1, ↓dFrz.eq_1, ↓dUnp.eq_1, ↓dRetV.eq_1, ↓dAug.eq_1, ↓dSetI.eq_1, ↓dDelI.eq_1, ↓dFldS.eq_1, ↓dFldA.eq_1, ↓setAt.eq_1, ↓delAt.eq_1, ↓fldAt.eq_1, ↓dP.eq_1, ↓dPT.eq_1, ↓dPC.eq_1, ↓dPI.eq_1, ↓dXnil.eq_1, ↓dXcons.eq_1, ↓dxOp.eq_1, ↓dxOpL.eq_1, ↓dxUn.eq_1, ↓dxTst.eq_1, ↓truD.eq_1, ↓dxTru.eq_1, ↓dxAndT.eq_1, ↓dxOrT.eq_1, ↓dxNotT.eq_1, ↓dxAndE.eq_1, ↓dxOrE.eq_1, ↓dxNotE.eq_1, ↓dxIfE.eq_1, ↓dxTup.eq_1, ↓dxLst.eq_1, ↓dxCB.eq_1, ↓dxCall.eq_1, ↓dxMethP.eq_1, ↓dxMethV.eq_1, ↓dxMethN.eq_1, ↓dxAppP.eq_1, ↓dxAppV.eq_1, dxAppP.isL, ↓appAt.eq_1, ↓nmPl.eq_1, nmAt, ↓nmArg.eq_1, isOb, ↓dVar.eq_1, ↓dK.eq_1, ↓dOp.eq_1, ↓dUn.eq_1, ↓dNil.eq_1, ↓dCons.eq_1, ↓dCnil.eq_1, ↓dCcons.eq_1, ↓dCall.eq_1, ↓dTupD.eq_1, ↓dLstD.eq_1, ↓dTst.eq_1, ↓dTru.eq_1, ↓dAndT.eq_1, ↓dOrT.eq_1, ↓dNotT.eq_1, ↓dAndE.eq_1, ↓dOrE.eq_1, ↓dNotE.eq_1, ↓dIfE.eq_1, ↓dNewK.eq_1, ↓dFld.eq_1, ↓dYes.eq_1, ↓dIsi.eq_1, dTy, isiB, ↓dI.eq_1, ↓dIC.eq_1, ↓dAdd.eq_1, ↓dEq.eq_1, ↓dNe.eq_1, dIs, ↓dLtI.eq_1, ↓dLt.eq_1, ↓dLtB.eq_1, ↓dSub.eq_1, ↓dMul.eq_1, ↓dFdiv.eq_1, ↓dMod.eq_1, ↓dPow.eq_1, ↓dLe.eq_1, ↓dGt.eq_1, ↓dGe.eq_1, ↓dAddI.eq_1, ↓dNeg.eq_1, ↓dMulA.eq_1, ↓dInA.eq_1, ↓dInD.eq_1, ↓dIn.eq_1, keyIn, ↓dIxA.eq_1, ↓dGetD.eq_1, ↓dIx.eq_1, ↓dSl.eq_1, ↓dOnone.eq_1, ↓dOsome.eq_1, ↓dL1_ap, ↓dL2_ap, ↓dL1Z_ap, ↓fLen_ap, ↓fAbs_ap, ↓fInt_ap, ↓fStr_ap, ↓fMax_ap, ↓fMin_ap, ↓fList_ap, ↓fTup_ap, ↓fLenZ.eq_1, ↓fListZ.eq_1, ↓fSum_ap, ↓fAny_ap, ↓fAll_ap, ↓dpVar.eq_1, ↓dpFld.eq_1, ↓dpaNil.eq_1, ↓dpaP.eq_1, ↓dpaD.eq_1, ↓dPPA.eq_1, ↓dxaNil.eq_1, ↓dxaV.eq_1, ↓dxaD.eq_1, ↓dxaN.eq_1, ↓dgName.eq_1, ↓dgNil.eq_1, ↓dgCons_ap, ↓dgTup_ap, ↓dItems.eq_1, ↓dXItems.eq_1, ↓itemsD.eq_1, Z.own, Z.data, S.data, Z.dicv, S.dicv, Z.items, S.items, Z.mems, S.mems, Z.ownL, Z.dk, S.dk, Z.keep, Z.fin, kindT, keyD, keyT, keysD, keyA, atP, S.at, S.kids, S.wth, SF.pos, SF.get, SF.set, SF.len, SF.labs, SF.app, S.put, putP, repl, kill, killS, backM, ghM, argT, args, lendR, backR, apartAll, npre, apart, S.noT, S.tru, S.live, wipeS, List.getElem?_cons_zero, List.getElem?_cons_succ, List.getElem?_nil, List.set_cons_zero, List.set_cons_succ, List.cons_append, List.nil_append, List.replicate, List.length_cons, List.length_nil, List.map_cons, List.map_nil, List.drop_succ_cons, List.drop_zero, List.all_cons, List.all_nil, List.tail_cons, List.getD, Option.map_some, Option.map_none, Option.isSome_some, Option.isSome_none, Option.some.injEq, Bool.and_true, Bool.true_and, Bool.not_true, Bool.not_false, Bool.false_eq_true, Bool.and_self, Bool.or_false, Bool.false_or, if_true, if_false, ite_true, ite_false, and_true, true_and, true_or, or_true, decide_eq_true_eq, decide_true, decide_false, Bool.not_eq_true', Bool.not_eq_eq_eq_not, decide_not, not_false_eq_true, not_true_eq_false, ↓reduceIte, natlit, atI_lit, ↓dPre.eq_1, ↓fT_nx, ↓fT_rt, ↓fT_ex, Nat.reduceAdd, Int.reduceNeg, ↓eqD_int, ↓eqD_str, ↓eqD_bool, ↓dRng1.eq_1, ↓dRng2.eq_1, inV_ints, inV_strs, inV_int1, inV_str1, inV_nil, flat_ints, flat_strs, flatD, vOf, lookS, lookI, lookP, dropS, dropI, dropP, Nat.sub_self, List.replicate_zero, Option.getD_some, Option.getD_none, reduceCtorEq, List.append_nil, str_lit, sz_0, sz_1, sz_2, sz_3, sz_4, sz_5, sz_6, sz_7, sz_8, sz_9, sz_10, sz_11, sz_12, sz_13, sz_14, sz_15, sz_16, sz_17, sz_18, sz_19, sz_20, sz_21, sz_22, sz_23, sz_24, Nat.reduceSub, Nat.reduceMul, Nat.reduceDiv, Nat.reduceMod, Nat.reduceLT, Nat.reduceLeDiff, Nat.reduceEqDiff, Nat.reduceGT, Nat.reduceBEq, Int.reduceAdd, Int.reduceSub, Int.reduceMul, Int.reduceDiv, Int.reduceMod, Int.reduceLT, Int.reduceLE, Int.reduceEq, Int.reduceNe, Int.reduceGT, Int.reduceGE, Int.reduceToNat, String.reduceEq, String.reduceNe, and_false, false_and, ↓dCallF_eq, ↓dCallK_eq, ↓dxMake_eq, Option.isSome_map, ↓callA_eq, ↓dForS_eq, ↓dWhileS_eq, ↓dLc_eq, ↓dSeq_ap, ↓dTidy_ap, ↓dTidyN_ap, seqE_nx, seqE_rt, seqE_bk, seqE_ct, seqE_ex, tidyE_nx, tidyE_rt, tidyE_bk, tidyE_ct, tidyE_ex, tidyNE_nx, tidyNE_rt, tidyNE_bk, tidyNE_ct, tidyNE_ex, loopE_nx, loopE_rt, loopE_bk, loopE_ct, loopE_ex, ↓fE_nx, ↓fE_rt, ↓exSome, ↓rdS_ap, ↓fSort_ap, goE_nx, goE_rt, goE_bk, goE_ct, goE_ex, decide_eq_false_iff_not, ite_not, b_law_L108, he]
    refine ⟨szm (by omega), ?_⟩
    have := h (hs ++ [nameE e]) (by simp)
    simp only [SL, List.map_append, List.map_cons, List.map_nil] at this
    exact this
  · simp -dsimp -implicitDefEqProofs only [↓dNext.eq_1, ↓dBreak.eq_1, ↓dCont.eq_1, ↓dNever.eq_1, ↓dDrop.eq_1, ↓dRet.eq_1, ↓dRetN.eq_1, ↓dIf.eq_1, ↓dSet.eq_1, ↓dFrz.eq_1, ↓dUnp.eq_1, ↓dRetV.eq_1, ↓dAug.eq_1, ↓dSetI.eq_1, ↓dDelI.eq_1, ↓dFldS.eq_1, ↓dFldA.eq_1, ↓setAt.eq_1, ↓delAt.eq_1, ↓fldAt.eq_1, ↓dP.eq_1, ↓dPT.eq_1, ↓dPC.eq_1, ↓dPI.eq_1, ↓dXnil.eq_1, ↓dXcons.eq_1, ↓dxOp.eq_1, ↓dxOpL.eq_1, ↓dxUn.eq_1, ↓dxTst.eq_1, ↓truD.eq_1, ↓dxTru.eq_1, ↓dxAndT.eq_1, ↓dxOrT.eq_1, ↓dxNotT.eq_1, ↓dxAndE.eq_1, ↓dxOrE.eq_1, ↓dxNotE.eq_1, ↓dxIfE.eq_1, ↓dxTup.eq_1, ↓dxLst.eq_1, ↓dxCB.eq_1, ↓dxCall.eq_1, ↓dxMethP.eq_1, ↓dxMethV.eq_1, ↓dxMethN.eq_1, ↓dxAppP.eq_1, ↓dxAppV.eq_1, dxAppP.isL, ↓appAt.eq_1, ↓nmPl.eq_1, nmAt, ↓nmArg.eq_1, isOb, ↓dVar.eq_1, ↓dK.eq_1, ↓dOp.eq_1, ↓dUn.eq_1, ↓dNil.eq_1, ↓dCons.eq_1, ↓dCnil.eq_1, ↓dCcons.eq_1, ↓dCall.eq_1, ↓dTupD.eq_1, ↓dLstD.eq_1, ↓dTst.eq_1, ↓dTru.eq_1, ↓dAndT.eq_1, ↓dOrT.eq_1, ↓dNotT.eq_1, ↓dAndE.eq_1, ↓dOrE.eq_1, ↓dNotE.eq_1, ↓dIfE.eq_1, ↓dNewK.eq_1, ↓dFld.eq_1, ↓dYes.eq_1, ↓dIsi.eq_1, dTy, isiB, ↓dI.eq_1, ↓dIC.eq_1, ↓dAdd.eq_1, ↓dEq.eq_1, ↓dNe.eq_1, dIs, ↓dLtI.eq_1, ↓dLt.eq_1, ↓dLtB.eq_1, ↓dSub.eq_1, ↓dMul.eq_1, ↓dFdiv.eq_1, ↓dMod.eq_1, ↓dPow.eq_1, ↓dLe.eq_1, ↓dGt.eq_1, ↓dGe.eq_1, ↓dAddI.eq_1, ↓dNeg.eq_1, ↓dMulA.eq_1, ↓dInA.eq_1, ↓dInD.eq_1, ↓dIn.eq_1, keyIn, ↓dIxA.eq_1, ↓dGetD.eq_1, ↓dIx.eq_1, ↓dSl.eq_1, ↓dOnone.eq_1, ↓dOsome.eq_1, ↓dL1_ap, ↓dL2_ap, ↓dL1Z_ap, ↓fLen_ap, ↓fAbs_ap, ↓fInt_ap, ↓fStr_ap, ↓fMax_ap, ↓fMin_ap, ↓fList_ap, ↓fTup_ap, ↓fLenZ.eq_1, ↓fListZ.eq_1, ↓fSum_ap, ↓fAny_ap, ↓fAll_ap, ↓dpVar.eq_1, ↓dpFld.eq_1, ↓dpaNil.eq_1, ↓dpaP.eq_1, ↓dpaD.eq_1, ↓dPPA.eq_1, ↓dxaNil.eq_1, ↓dxaV.eq_1, ↓dxaD.eq_1, ↓dxaN.eq_1, ↓dgName.eq_1, ↓dgNil.eq_1, ↓dgCons_ap, ↓dgTup_ap, ↓dItems.eq_1, ↓dXItems.eq_1, ↓itemsD.eq_1, Z.own, Z.data, S.data, Z.dicv, S.dicv, Z.items, S.items, Z.mems, S.mems, Z.ownL, Z.dk, S.dk, Z.keep, Z.fin, kindT, keyD, keyT, keysD, keyA, atP, S.at, S.kids, S.wth, SF.pos, SF.get, SF.set, SF.len, SF.labs, SF.app, S.put, putP, repl, kill, killS, backM, ghM, argT, args, lendR, backR, apartAll, npre, apart, S.noT, S.tru, S.live, wipeS, List.getElem?_cons_zero, List.getElem?_cons_succ, List.getElem?_nil, List.set_cons_zero, List.set_cons_succ, List.cons_append, List.nil_append, List.replicate, List.length_cons, List.length_nil, List.map_cons, List.map_nil, List.drop_succ_cons, List.drop_zero, List.all_cons, List.all_nil, List.tail_cons, List.getD, Option.map_some, Option.map_none, Option.isSome_some, Option.isSome_none, Option.some.injEq, Bool.and_true, Bool.true_and, Bool.not_true, Bool.not_false, Bool.false_eq_true, Bool.and_self, Bool.or_false, Bool.false_or, if_true, if_false, ite_true, ite_false, and_true, true_and, true_or, or_true, decide_eq_true_eq, decide_true, decide_false, Bool.not_eq_true', Bool.not_eq_eq_eq_not, decide_not, not_false_eq_true, not_true_eq_false, ↓reduceIte, natlit, atI_lit, ↓dPre.eq_1, ↓fT_nx, ↓fT_rt, ↓fT_ex, Nat.reduceAdd, Int.reduceNeg, ↓eqD_int, ↓eqD_str, ↓eqD_bool, ↓dRng1.eq_1, ↓dRng2.eq_1, inV_ints, inV_strs, inV_int1, inV_str1, inV_nil, flat_ints, flat_strs, flatD, vOf, lookS, lookI, lookP, dropS, dropI, dropP, Nat.sub_self, List.replicate_zero, Option.getD_some, Option.getD_none, reduceCtorEq, List.append_nil, str_lit, sz_0, sz_1, sz_2, sz_3, sz_4, sz_5, sz_6, sz_7, sz_8, sz_9, sz_10, sz_11, sz_12, sz_13, sz_14, sz_15, sz_16, sz_17, sz_18, sz_19, sz_20, sz_21, sz_22, sz_23, sz_24, Nat.reduceSub, Nat.reduceMul, Nat.reduceDiv, Nat.reduceMod, Nat.reduceLT, Nat.reduceLeDiff, Nat.reduceEqDiff, Nat.reduceGT, Nat.reduceBEq, Int.reduceAdd, Int.reduceSub, Int.reduceMul, Int.reduceDiv, Int.reduceMod, Int.reduceLT, Int.reduceLE, Int.reduceEq, Int.reduceNe, Int.reduceGT, Int.reduceGE, Int.reduceToNat, String.reduceEq, String.reduceNe, and_false, false_and, ↓dCallF_eq, ↓dCallK_eq, ↓dxMake_eq, Option.isSome_map, ↓callA_eq, ↓dForS_eq, ↓dWhileS_eq, ↓dLc_eq, ↓dSeq_ap, ↓dTidy_ap, ↓dTidyN_ap, seqE_nx, seqE_rt, seqE_bk, seqE_ct, seqE_ex, tidyE_nx, tidyE_rt, tidyE_bk, tidyE_ct, tidyE_ex, tidyNE_nx, tidyNE_rt, tidyNE_bk, tidyNE_ct, tidyNE_ex, loopE_nx, loopE_rt, loopE_bk, loopE_ct, loopE_ex, ↓fE_nx, ↓fE_rt, ↓exSome, ↓rdS_ap, ↓fSort_ap, goE_nx, goE_rt, goE_bk, goE_ct, goE_ex, decide_eq_false_iff_not, ite_not, b_law_L108, c]
    exact h hs (by omega)
theorem l11 (he : atI (es.map encE) k = some (encE e)) (hl : hs.length ≤ 1000) (hc : cs.length ≤ 1000) (h : ∀ (cs' : List Int) (hs' : List Str), cs'.length ≤ cs.length + 1 → hs'.length ≤ hs.length + 1 → E.nx (SL ns sz es (.v (.int k)) xs cs' hs' (.v (.list [.int u0, .int u1, .int u2])) .no)) :
    b_law_L106 E (SL ns sz es (.v (.int k)) xs cs hs (.v (.list [.int u0, .int u1, .int u2])) .no) := by
  have he0 := he
  obtain ⟨kk, v, w, ev⟩ := enc_at1 e
  rw [ev] at he
  by_cases c : u1 = 0
  · subst c
    simp -dsimp -implicitDefEqProofs only [↓dNext.eq_1, ↓dBreak.eq_1, ↓dCont.eq_1, ↓dNever.eq_1, ↓dDrop.eq_1, ↓dRet.eq_1, ↓dRetN.eq_1, ↓dIf.eq_1, ↓dSet.eq_1, ↓dFrz.eq_1, ↓dUnp.eq_1, ↓dRetV.eq_1, ↓dAug.eq_1, ↓dSetI.eq_1, ↓dDelI.eq_1, ↓dFldS.eq_1, ↓dFldA.eq_1, ↓setAt.eq_1, ↓delAt.eq_1, ↓fldAt.eq_1, ↓dP.eq_1, ↓dPT.eq_1, ↓dPC.eq_1, ↓dPI.eq_1, ↓dXnil.eq_1, ↓dXcons.eq_1, ↓dxOp.eq_1, ↓dxOpL.eq_1, ↓dxUn.eq_1, ↓dxTst.eq_1, ↓truD.eq_1, ↓dxTru.eq_1, ↓dxAndT.eq_1, ↓dxOrT.eq_1, ↓dxNotT.eq_1, ↓dxAndE.eq_1, ↓dxOrE.eq_1, ↓dxNotE.eq_1, ↓dxIfE.eq_1, ↓dxTup.eq_1, ↓dxLst.eq_1, ↓dxCB.eq_1, ↓dxCall.eq_1, ↓dxMethP.eq_1, ↓dxMethV.eq_1, ↓dxMethN.eq_1, ↓dxAppP.eq_1, ↓dxAppV.eq_1, dxAppP.isL, ↓appAt.eq_1, ↓nmPl.eq_1, nmAt, ↓nmArg.eq_1, isOb, ↓dVar.eq_1, ↓dK.eq_1, ↓dOp.eq_1, ↓dUn.eq_1, ↓dNil.eq_1, ↓dCons.eq_1, ↓dCnil.eq_1, ↓dCcons.eq_1, ↓dCall.eq_1, ↓dTupD.eq_1, ↓dLstD.eq_1, ↓dTst.eq_1, ↓dTru.eq_1, ↓dAndT.eq_1, ↓dOrT.eq_1, ↓dNotT.eq_1, ↓dAndE.eq_1, ↓dOrE.eq_1, ↓dNotE.eq_1, ↓dIfE.eq_1, ↓dNewK.eq_1, ↓dFld.eq_1, ↓dYes.eq_1, ↓dIsi.eq_1, dTy, isiB, ↓dI.eq_1, ↓dIC.eq_1, ↓dAdd.eq_1, ↓dEq.eq_1, ↓dNe.eq_1, dIs, ↓dLtI.eq_1, ↓dLt.eq_1, ↓dLtB.eq_1, ↓dSub.eq_1, ↓dMul.eq_1, ↓dFdiv.eq_1, ↓dMod.eq_1, ↓dPow.eq_1, ↓dLe.eq_1, ↓dGt.eq_1, ↓dGe.eq_1, ↓dAddI.eq_1, ↓dNeg.eq_1, ↓dMulA.eq_1, ↓dInA.eq_1, ↓dInD.eq_1, ↓dIn.eq_1, keyIn, ↓dIxA.eq_1, ↓dGetD.eq_1, ↓dIx.eq_1, ↓dSl.eq_1, ↓dOnone.eq_1, ↓dOsome.eq_1, ↓dL1_ap, ↓dL2_ap, ↓dL1Z_ap, ↓fLen_ap, ↓fAbs_ap, ↓fInt_ap, ↓fStr_ap, ↓fMax_ap, ↓fMin_ap, ↓fList_ap, ↓fTup_ap, ↓fLenZ.eq_1, ↓fListZ.eq_1, ↓fSum_ap, ↓fAny_ap, ↓fAll_ap, ↓dpVar.eq_1, ↓dpFld.eq_1, ↓dpaNil.eq_1, ↓dpaP.eq_1, ↓dpaD.eq_1, ↓dPPA.eq_1, ↓dxaNil.eq_1, ↓dxaV.eq_1, ↓dxaD.eq_1, ↓dxaN.eq_1, ↓dgName.eq_1, ↓dgNil.eq_1, ↓dgCons_ap, ↓dgTup_ap, ↓dItems.eq_1, ↓dXItems.eq_1, ↓itemsD.eq_1, Z.own, Z.data, S.data, Z.dicv, S.dicv, Z.items, S.items, Z.mems, S.mems, Z.ownL, Z.dk, S.dk, Z.keep, Z.fin, kindT, keyD, keyT, keysD, keyA, atP, S.at, S.kids, S.wth, SF.pos, SF.get, SF.set, SF.len, SF.labs, SF.app, S.put, putP, repl, kill, killS, backM, ghM, argT, args, lendR, backR, apartAll, npre, apart, S.noT, S.tru, S.live, wipeS, List.getElem?_cons_zero, List.getElem?_cons_succ, List.getElem?_nil, List.set_cons_zero, List.set_cons_succ, List.cons_append, List.nil_append, List.replicate, List.length_cons, List.length_nil, List.map_cons, List.map_nil, List.drop_succ_cons, List.drop_zero, List.all_cons, List.all_nil, List.tail_cons, List.getD, Option.map_some, Option.map_none, Option.isSome_some, Option.isSome_none, Option.some.injEq, Bool.and_true, Bool.true_and, Bool.not_true, Bool.not_false, Bool.false_eq_true, Bool.and_self, Bool.or_false, Bool.false_or, if_true, if_false, ite_true, ite_false, and_true, true_and, true_or, or_true, decide_eq_true_eq, decide_true, decide_false, Bool.not_eq_true', Bool.not_eq_eq_eq_not, decide_not, not_false_eq_true, not_true_eq_false, ↓reduceIte, natlit, atI_lit, ↓dPre.eq_1, ↓fT_nx, ↓fT_rt, ↓fT_ex, Nat.reduceAdd, Int.reduceNeg, ↓eqD_int, ↓eqD_str, ↓eqD_bool, ↓dRng1.eq_1, ↓dRng2.eq_1, inV_ints, inV_strs, inV_int1, inV_str1, inV_nil, flat_ints, flat_strs, flatD, vOf, lookS, lookI, lookP, dropS, dropI, dropP, Nat.sub_self, List.replicate_zero, Option.getD_some, Option.getD_none, reduceCtorEq, List.append_nil, str_lit, sz_0, sz_1, sz_2, sz_3, sz_4, sz_5, sz_6, sz_7, sz_8, sz_9, sz_10, sz_11, sz_12, sz_13, sz_14, sz_15, sz_16, sz_17, sz_18, sz_19, sz_20, sz_21, sz_22, sz_23, sz_24, Nat.reduceSub, Nat.reduceMul, Nat.reduceDiv, Nat.reduceMod, Nat.reduceLT, Nat.reduceLeDiff, Nat.reduceEqDiff, Nat.reduceGT, Nat.reduceBEq, Int.reduceAdd, Int.reduceSub, Int.reduceMul, Int.reduceDiv, Int.reduceMod, Int.reduceLT, Int.reduceLE, Int.reduceEq, Int.reduceNe, Int.reduceGT, Int.reduceGE, Int.reduceToNat, String.reduceEq, String.reduceNe, and_false, false_and, ↓dCallF_eq, ↓dCallK_eq, ↓dxMake_eq, Option.isSome_map, ↓callA_eq, ↓dForS_eq, ↓dWhileS_eq, ↓dLc_eq, ↓dSeq_ap, ↓dTidy_ap, ↓dTidyN_ap, seqE_nx, seqE_rt, seqE_bk, seqE_ct, seqE_ex, tidyE_nx, tidyE_rt, tidyE_bk, tidyE_ct, tidyE_ex, tidyNE_nx, tidyNE_rt, tidyNE_bk, tidyNE_ct, tidyNE_ex, loopE_nx, loopE_rt, loopE_bk, loopE_ct, loopE_ex, ↓fE_nx, ↓fE_rt, ↓exSome, ↓rdS_ap, ↓fSort_ap, goE_nx, goE_rt, goE_bk, goE_ct, goE_ex, decide_eq_false_iff_not, ite_not, b_law_L106, he]
    refine ⟨szm (by omega), ?_⟩
    have := l13 (E := E) (ns := ns) (sz := sz) (xs := xs) (cs := cs ++ [bornE e]) (u0 := u0) (u1 := 0) (u2 := u2) he0 hl fun hs' a => h _ hs' (by simp) a
    simp only [SL, List.map_append, List.map_cons, List.map_nil] at this
    exact this
  · simp -dsimp -implicitDefEqProofs only [↓dNext.eq_1, ↓dBreak.eq_1, ↓dCont.eq_1, ↓dNever.eq_1, ↓dDrop.eq_1, ↓dRet.eq_1, ↓dRetN.eq_1, ↓dIf.eq_1, ↓dSet.eq_1, ↓dFrz.eq_1, ↓dUnp.eq_1, ↓dRetV.eq_1, ↓dAug.eq_1, ↓dSetI.eq_1, ↓dDelI.eq_1, ↓dFldS.eq_1, ↓dFldA.eq_1, ↓setAt.eq_1, ↓delAt.eq_1, ↓fldAt.eq_1, ↓dP.eq_1, ↓dPT.eq_1, ↓dPC.eq_1, ↓dPI.eq_1, ↓dXnil.eq_1, ↓dXcons.eq_1, ↓dxOp.eq_1, ↓dxOpL.eq_1, ↓dxUn.eq_1, ↓dxTst.eq_1, ↓truD.eq_1, ↓dxTru.eq_1, ↓dxAndT.eq_1, ↓dxOrT.eq_1, ↓dxNotT.eq_1, ↓dxAndE.eq_1, ↓dxOrE.eq_1, ↓dxNotE.eq_1, ↓dxIfE.eq_1, ↓dxTup.eq_1, ↓dxLst.eq_1, ↓dxCB.eq_1, ↓dxCall.eq_1, ↓dxMethP.eq_1, ↓dxMethV.eq_1, ↓dxMethN.eq_1, ↓dxAppP.eq_1, ↓dxAppV.eq_1, dxAppP.isL, ↓appAt.eq_1, ↓nmPl.eq_1, nmAt, ↓nmArg.eq_1, isOb, ↓dVar.eq_1, ↓dK.eq_1, ↓dOp.eq_1, ↓dUn.eq_1, ↓dNil.eq_1, ↓dCons.eq_1, ↓dCnil.eq_1, ↓dCcons.eq_1, ↓dCall.eq_1, ↓dTupD.eq_1, ↓dLstD.eq_1, ↓dTst.eq_1, ↓dTru.eq_1, ↓dAndT.eq_1, ↓dOrT.eq_1, ↓dNotT.eq_1, ↓dAndE.eq_1, ↓dOrE.eq_1, ↓dNotE.eq_1, ↓dIfE.eq_1, ↓dNewK.eq_1, ↓dFld.eq_1, ↓dYes.eq_1, ↓dIsi.eq_1, dTy, isiB, ↓dI.eq_1, ↓dIC.eq_1, ↓dAdd.eq_1, ↓dEq.eq_1, ↓dNe.eq_1, dIs, ↓dLtI.eq_1, ↓dLt.eq_1, ↓dLtB.eq_1, ↓dSub.eq_1, ↓dMul.eq_1, ↓dFdiv.eq_1, ↓dMod.eq_1, ↓dPow.eq_1, ↓dLe.eq_1, ↓dGt.eq_1, ↓dGe.eq_1, ↓dAddI.eq_1, ↓dNeg.eq_1, ↓dMulA.eq_1, ↓dInA.eq_1, ↓dInD.eq_1, ↓dIn.eq_1, keyIn, ↓dIxA.eq_1, ↓dGetD.eq_1, ↓dIx.eq_1, ↓dSl.eq_1, ↓dOnone.eq_1, ↓dOsome.eq_1, ↓dL1_ap, ↓dL2_ap, ↓dL1Z_ap, ↓fLen_ap, ↓fAbs_ap, ↓fInt_ap, ↓fStr_ap, ↓fMax_ap, ↓fMin_ap, ↓fList_ap, ↓fTup_ap, ↓fLenZ.eq_1, ↓fListZ.eq_1, ↓fSum_ap, ↓fAny_ap, ↓fAll_ap, ↓dpVar.eq_1, ↓dpFld.eq_1, ↓dpaNil.eq_1, ↓dpaP.eq_1, ↓dpaD.eq_1, ↓dPPA.eq_1, ↓dxaNil.eq_1, ↓dxaV.eq_1, ↓dxaD.eq_1, ↓dxaN.eq_1, ↓dgName.eq_1, ↓dgNil.eq_1, ↓dgCons_ap, ↓dgTup_ap, ↓dItems.eq_1, ↓dXItems.eq_1, ↓itemsD.eq_1, Z.own, Z.data, S.data, Z.dicv, S.dicv, Z.items, S.items, Z.mems, S.mems, Z.ownL, Z.dk, S.dk, Z.keep, Z.fin, kindT, keyD, keyT, keysD, keyA, atP, S.at, S.kids, S.wth, SF.pos, SF.get, SF.set, SF.len, SF.labs, SF.app, S.put, putP, repl, kill, killS, backM, ghM, argT, args, lendR, backR, apartAll, npre, apart, S.noT, S.tru, S.live, wipeS, List.getElem?_cons_zero, List.getElem?_cons_succ, List.getElem?_nil, List.set_cons_zero, List.set_cons_succ, List.cons_append, List.nil_append, List.replicate, List.length_cons, List.length_nil, List.map_cons, List.map_nil, List.drop_succ_cons, List.drop_zero, List.all_cons, List.all_nil, List.tail_cons, List.getD, Option.map_some, Option.map_none, Option.isSome_some, Option.isSome_none, Option.some.injEq, Bool.and_true, Bool.true_and, Bool.not_true, Bool.not_false, Bool.false_eq_true, Bool.and_self, Bool.or_false, Bool.false_or, if_true, if_false, ite_true, ite_false, and_true, true_and, true_or, or_true, decide_eq_true_eq, decide_true, decide_false, Bool.not_eq_true', Bool.not_eq_eq_eq_not, decide_not, not_false_eq_true, not_true_eq_false, ↓reduceIte, natlit, atI_lit, ↓dPre.eq_1, ↓fT_nx, ↓fT_rt, ↓fT_ex, Nat.reduceAdd, Int.reduceNeg, ↓eqD_int, ↓eqD_str, ↓eqD_bool, ↓dRng1.eq_1, ↓dRng2.eq_1, inV_ints, inV_strs, inV_int1, inV_str1, inV_nil, flat_ints, flat_strs, flatD, vOf, lookS, lookI, lookP, dropS, dropI, dropP, Nat.sub_self, List.replicate_zero, Option.getD_some, Option.getD_none, reduceCtorEq, List.append_nil, str_lit, sz_0, sz_1, sz_2, sz_3, sz_4, sz_5, sz_6, sz_7, sz_8, sz_9, sz_10, sz_11, sz_12, sz_13, sz_14, sz_15, sz_16, sz_17, sz_18, sz_19, sz_20, sz_21, sz_22, sz_23, sz_24, Nat.reduceSub, Nat.reduceMul, Nat.reduceDiv, Nat.reduceMod, Nat.reduceLT, Nat.reduceLeDiff, Nat.reduceEqDiff, Nat.reduceGT, Nat.reduceBEq, Int.reduceAdd, Int.reduceSub, Int.reduceMul, Int.reduceDiv, Int.reduceMod, Int.reduceLT, Int.reduceLE, Int.reduceEq, Int.reduceNe, Int.reduceGT, Int.reduceGE, Int.reduceToNat, String.reduceEq, String.reduceNe, and_false, false_and, ↓dCallF_eq, ↓dCallK_eq, ↓dxMake_eq, Option.isSome_map, ↓callA_eq, ↓dForS_eq, ↓dWhileS_eq, ↓dLc_eq, ↓dSeq_ap, ↓dTidy_ap, ↓dTidyN_ap, seqE_nx, seqE_rt, seqE_bk, seqE_ct, seqE_ex, tidyE_nx, tidyE_rt, tidyE_bk, tidyE_ct, tidyE_ex, tidyNE_nx, tidyNE_rt, tidyNE_bk, tidyNE_ct, tidyNE_ex, loopE_nx, loopE_rt, loopE_bk, loopE_ct, loopE_ex, ↓fE_nx, ↓fE_rt, ↓exSome, ↓rdS_ap, ↓fSort_ap, goE_nx, goE_rt, goE_bk, goE_ct, goE_ex, decide_eq_false_iff_not, ite_not, b_law_L106, c]
    exact l13 he0 hl fun hs' a => h _ hs' (by omega) a
theorem l9 (oe : OkE e) (he : atI (es.map encE) k = some (encE e)) (hl : hs.length ≤ 1000) (hc : cs.length ≤ 1000) (hx : xs.length < 100) (h : ∀ (xs' : List (Str × Int)) (cs' : List Int) (hs' : List Str), (xs'.length ≤ xs.length + 1 ∧ ((∀ p ∈ xs, p.2 ≠ 0 ∧ PyData.strOk p.1 = true) → ∀ p ∈ xs', p.2 ≠ 0 ∧ PyData.strOk p.1 = true)) → cs'.length ≤ cs.length + 1 → hs'.length ≤ hs.length + 1 → E.nx (SL ns sz es (.v (.int k)) xs' cs' hs' (.v (.list [.int u0, .int u1, .int u2])) .no)) :
    b_law_L104 E (SL ns sz es (.v (.int k)) xs cs hs (.v (.list [.int u0, .int u1, .int u2])) .no) := by
  have rest := fun (xs' : List (Str × Int)) (q : xs'.length ≤ xs.length + 1 ∧ ((∀ p ∈ xs, p.2 ≠ 0 ∧ PyData.strOk p.1 = true) → ∀ p ∈ xs', p.2 ≠ 0 ∧ PyData.strOk p.1 = true)) => l11 (E := E) (ns := ns) (sz := sz) (xs := xs') (u0 := u0) (u1 := u1) (u2 := u2) he hl hc fun cs' hs' a b => h _ cs' hs' q a b
  have same := rest xs ⟨by omega, fun z => z⟩
  by_cases c : u0 = 0
  · subst c
    cases e with
    | node n b r l =>
      simp -dsimp -implicitDefEqProofs only [↓dNext.eq_1, ↓dBreak.eq_1, ↓dCont.eq_1, ↓dNever.eq_1, ↓dDrop.eq_1, ↓dRet.eq_1, ↓dRetN.eq_1, ↓dIf.eq_1, ↓dSet.eq_1, ↓dFrz.eq_1, ↓dUnp.eq_1, ↓dRetV.eq_1, ↓dAug.eq_1, ↓dSetI.eq_1, ↓dDelI.eq_1, ↓dFldS.eq_1, ↓dFldA.eq_1, ↓setAt.eq_1, ↓delAt.eq_1, ↓fldAt.eq_1, ↓dP.eq_1, ↓dPT.eq_1, ↓dPC.eq_1, ↓dPI.eq_1, ↓dXnil.eq_1, ↓dXcons.eq_1, ↓dxOp.eq_1, ↓dxOpL.eq_1, ↓dxUn.eq_1, ↓dxTst.eq_1, ↓truD.eq_1, ↓dxTru.eq_1, ↓dxAndT.eq_1, ↓dxOrT.eq_1, ↓dxNotT.eq_1, ↓dxAndE.eq_1, ↓dxOrE.eq_1, ↓dxNotE.eq_1, ↓dxIfE.eq_1, ↓dxTup.eq_1, ↓dxLst.eq_1, ↓dxCB.eq_1, ↓dxCall.eq_1, ↓dxMethP.eq_1, ↓dxMethV.eq_1, ↓dxMethN.eq_1, ↓dxAppP.eq_1, ↓dxAppV.eq_1, dxAppP.isL, ↓appAt.eq_1, ↓nmPl.eq_1, nmAt, ↓nmArg.eq_1, isOb, ↓dVar.eq_1, ↓dK.eq_1, ↓dOp.eq_1, ↓dUn.eq_1, ↓dNil.eq_1, ↓dCons.eq_1, ↓dCnil.eq_1, ↓dCcons.eq_1, ↓dCall.eq_1, ↓dTupD.eq_1, ↓dLstD.eq_1, ↓dTst.eq_1, ↓dTru.eq_1, ↓dAndT.eq_1, ↓dOrT.eq_1, ↓dNotT.eq_1, ↓dAndE.eq_1, ↓dOrE.eq_1, ↓dNotE.eq_1, ↓dIfE.eq_1, ↓dNewK.eq_1, ↓dFld.eq_1, ↓dYes.eq_1, ↓dIsi.eq_1, dTy, isiB, ↓dI.eq_1, ↓dIC.eq_1, ↓dAdd.eq_1, ↓dEq.eq_1, ↓dNe.eq_1, dIs, ↓dLtI.eq_1, ↓dLt.eq_1, ↓dLtB.eq_1, ↓dSub.eq_1, ↓dMul.eq_1, ↓dFdiv.eq_1, ↓dMod.eq_1, ↓dPow.eq_1, ↓dLe.eq_1, ↓dGt.eq_1, ↓dGe.eq_1, ↓dAddI.eq_1, ↓dNeg.eq_1, ↓dMulA.eq_1, ↓dInA.eq_1, ↓dInD.eq_1, ↓dIn.eq_1, keyIn, ↓dIxA.eq_1, ↓dGetD.eq_1, ↓dIx.eq_1, ↓dSl.eq_1, ↓dOnone.eq_1, ↓dOsome.eq_1, ↓dL1_ap, ↓dL2_ap, ↓dL1Z_ap, ↓fLen_ap, ↓fAbs_ap, ↓fInt_ap, ↓fStr_ap, ↓fMax_ap, ↓fMin_ap, ↓fList_ap, ↓fTup_ap, ↓fLenZ.eq_1, ↓fListZ.eq_1, ↓fSum_ap, ↓fAny_ap, ↓fAll_ap, ↓dpVar.eq_1, ↓dpFld.eq_1, ↓dpaNil.eq_1, ↓dpaP.eq_1, ↓dpaD.eq_1, ↓dPPA.eq_1, ↓dxaNil.eq_1, ↓dxaV.eq_1, ↓dxaD.eq_1, ↓dxaN.eq_1, ↓dgName.eq_1, ↓dgNil.eq_1, ↓dgCons_ap, ↓dgTup_ap, ↓dItems.eq_1, ↓dXItems.eq_1, ↓itemsD.eq_1, Z.own, Z.data, S.data, Z.dicv, S.dicv, Z.items, S.items, Z.mems, S.mems, Z.ownL, Z.dk, S.dk, Z.keep, Z.fin, kindT, keyD, keyT, keysD, keyA, atP, S.at, S.kids, S.wth, SF.pos, SF.get, SF.set, SF.len, SF.labs, SF.app, S.put, putP, repl, kill, killS, backM, ghM, argT, args, lendR, backR, apartAll, npre, apart, S.noT, S.tru, S.live, wipeS, List.getElem?_cons_zero, List.getElem?_cons_succ, List.getElem?_nil, List.set_cons_zero, List.set_cons_succ, List.cons_append, List.nil_append, List.replicate, List.length_cons, List.length_nil, List.map_cons, List.map_nil, List.drop_succ_cons, List.drop_zero, List.all_cons, List.all_nil, List.tail_cons, List.getD, Option.map_some, Option.map_none, Option.isSome_some, Option.isSome_none, Option.some.injEq, Bool.and_true, Bool.true_and, Bool.not_true, Bool.not_false, Bool.false_eq_true, Bool.and_self, Bool.or_false, Bool.false_or, if_true, if_false, ite_true, ite_false, and_true, true_and, true_or, or_true, decide_eq_true_eq, decide_true, decide_false, Bool.not_eq_true', Bool.not_eq_eq_eq_not, decide_not, not_false_eq_true, not_true_eq_false, ↓reduceIte, natlit, atI_lit, ↓dPre.eq_1, ↓fT_nx, ↓fT_rt, ↓fT_ex, Nat.reduceAdd, Int.reduceNeg, ↓eqD_int, ↓eqD_str, ↓eqD_bool, ↓dRng1.eq_1, ↓dRng2.eq_1, inV_ints, inV_strs, inV_int1, inV_str1, inV_nil, flat_ints, flat_strs, flatD, vOf, lookS, lookI, lookP, dropS, dropI, dropP, Nat.sub_self, List.replicate_zero, Option.getD_some, Option.getD_none, reduceCtorEq, List.append_nil, str_lit, sz_0, sz_1, sz_2, sz_3, sz_4, sz_5, sz_6, sz_7, sz_8, sz_9, sz_10, sz_11, sz_12, sz_13, sz_14, sz_15, sz_16, sz_17, sz_18, sz_19, sz_20, sz_21, sz_22, sz_23, sz_24, Nat.reduceSub, Nat.reduceMul, Nat.reduceDiv, Nat.reduceMod, Nat.reduceLT, Nat.reduceLeDiff, Nat.reduceEqDiff, Nat.reduceGT, Nat.reduceBEq, Int.reduceAdd, Int.reduceSub, Int.reduceMul, Int.reduceDiv, Int.reduceMod, Int.reduceLT, Int.reduceLE, Int.reduceEq, Int.reduceNe, Int.reduceGT, Int.reduceGE, Int.reduceToNat, String.reduceEq, String.reduceNe, and_false, false_and, ↓dCallF_eq, ↓dCallK_eq, ↓dxMake_eq, Option.isSome_map, ↓callA_eq, ↓dForS_eq, ↓dWhileS_eq, ↓dLc_eq, ↓dSeq_ap, ↓dTidy_ap, ↓dTidyN_ap, seqE_nx, seqE_rt, seqE_bk, seqE_ct, seqE_ex, tidyE_nx, tidyE_rt, tidyE_bk, tidyE_ct, tidyE_ex, tidyNE_nx, tidyNE_rt, tidyNE_bk, tidyNE_ct, tidyNE_ex, loopE_nx, loopE_rt, loopE_bk, loopE_ct, loopE_ex, ↓fE_nx, ↓fE_rt, ↓exSome, ↓rdS_ap, ↓fSort_ap, goE_nx, goE_rt, goE_bk, goE_ct, goE_ex, decide_eq_false_iff_not, ite_not, b_law_L104, he, encE]
      exact same
    | task t =>
      simp -dsimp -implicitDefEqProofs only [↓dNext.eq_1, ↓dBreak.eq_1, ↓dCont.eq_1, ↓dNever.eq_1, ↓dDrop.eq_1, ↓dRet.eq_1, ↓dRetN.eq_1, ↓dIf.eq_1, ↓dSet.eq_1, ↓dFrz.eq_1, ↓dUnp.eq_1, ↓dRetV.eq_1, ↓dAug.eq_1, ↓dSetI.eq_1, ↓dDelI.eq_1, ↓dFldS.eq_1, ↓dFldA.eq_1, ↓setAt.eq_1, ↓delAt.eq_1, ↓fldAt.eq_1, ↓dP.eq_1, ↓dPT.eq_1, ↓dPC.eq_1, ↓dPI.eq_1, ↓dXnil.eq_1, ↓dXcons.eq_1, ↓dxOp.eq_1, ↓dxOpL.eq_1, ↓dxUn.eq_1, ↓dxTst.eq_1, ↓truD.eq_1, ↓dxTru.eq_1, ↓dxAndT.eq_1, ↓dxOrT.eq_1, ↓dxNotT.eq_1, ↓dxAndE.eq_1, ↓dxOrE.eq_1, ↓dxNotE.eq_1, ↓dxIfE.eq_1, ↓dxTup.eq_1, ↓dxLst.eq_1, ↓dxCB.eq_1, ↓dxCall.eq_1, ↓dxMethP.eq_1, ↓dxMethV.eq_1, ↓dxMethN.eq_1, ↓dxAppP.eq_1, ↓dxAppV.eq_1, dxAppP.isL, ↓appAt.eq_1, ↓nmPl.eq_1, nmAt, ↓nmArg.eq_1, isOb, ↓dVar.eq_1, ↓dK.eq_1, ↓dOp.eq_1, ↓dUn.eq_1, ↓dNil.eq_1, ↓dCons.eq_1, ↓dCnil.eq_1, ↓dCcons.eq_1, ↓dCall.eq_1, ↓dTupD.eq_1, ↓dLstD.eq_1, ↓dTst.eq_1, ↓dTru.eq_1, ↓dAndT.eq_1, ↓dOrT.eq_1, ↓dNotT.eq_1, ↓dAndE.eq_1, ↓dOrE.eq_1, ↓dNotE.eq_1, ↓dIfE.eq_1, ↓dNewK.eq_1, ↓dFld.eq_1, ↓dYes.eq_1, ↓dIsi.eq_1, dTy, isiB, ↓dI.eq_1, ↓dIC.eq_1, ↓dAdd.eq_1, ↓dEq.eq_1, ↓dNe.eq_1, dIs, ↓dLtI.eq_1, ↓dLt.eq_1, ↓dLtB.eq_1, ↓dSub.eq_1, ↓dMul.eq_1, ↓dFdiv.eq_1, ↓dMod.eq_1, ↓dPow.eq_1, ↓dLe.eq_1, ↓dGt.eq_1, ↓dGe.eq_1, ↓dAddI.eq_1, ↓dNeg.eq_1, ↓dMulA.eq_1, ↓dInA.eq_1, ↓dInD.eq_1, ↓dIn.eq_1, keyIn, ↓dIxA.eq_1, ↓dGetD.eq_1, ↓dIx.eq_1, ↓dSl.eq_1, ↓dOnone.eq_1, ↓dOsome.eq_1, ↓dL1_ap, ↓dL2_ap, ↓dL1Z_ap, ↓fLen_ap, ↓fAbs_ap, ↓fInt_ap, ↓fStr_ap, ↓fMax_ap, ↓fMin_ap, ↓fList_ap, ↓fTup_ap, ↓fLenZ.eq_1, ↓fListZ.eq_1, ↓fSum_ap, ↓fAny_ap, ↓fAll_ap, ↓dpVar.eq_1, ↓dpFld.eq_1, ↓dpaNil.eq_1, ↓dpaP.eq_1, ↓dpaD.eq_1, ↓dPPA.eq_1, ↓dxaNil.eq_1, ↓dxaV.eq_1, ↓dxaD.eq_1, ↓dxaN.eq_1, ↓dgName.eq_1, ↓dgNil.eq_1, ↓dgCons_ap, ↓dgTup_ap, ↓dItems.eq_1, ↓dXItems.eq_1, ↓itemsD.eq_1, Z.own, Z.data, S.data, Z.dicv, S.dicv, Z.items, S.items, Z.mems, S.mems, Z.ownL, Z.dk, S.dk, Z.keep, Z.fin, kindT, keyD, keyT, keysD, keyA, atP, S.at, S.kids, S.wth, SF.pos, SF.get, SF.set, SF.len, SF.labs, SF.app, S.put, putP, repl, kill, killS, backM, ghM, argT, args, lendR, backR, apartAll, npre, apart, S.noT, S.tru, S.live, wipeS, List.getElem?_cons_zero, List.getElem?_cons_succ, List.getElem?_nil, List.set_cons_zero, List.set_cons_succ, List.cons_append, List.nil_append, List.replicate, List.length_cons, List.length_nil, List.map_cons, List.map_nil, List.drop_succ_cons, List.drop_zero, List.all_cons, List.all_nil, List.tail_cons, List.getD, Option.map_some, Option.map_none, Option.isSome_some, Option.isSome_none, Option.some.injEq, Bool.and_true, Bool.true_and, Bool.not_true, Bool.not_false, Bool.false_eq_true, Bool.and_self, Bool.or_false, Bool.false_or, if_true, if_false, ite_true, ite_false, and_true, true_and, true_or, or_true, decide_eq_true_eq, decide_true, decide_false, Bool.not_eq_true', Bool.not_eq_eq_eq_not, decide_not, not_false_eq_true, not_true_eq_false, ↓reduceIte, natlit, atI_lit, ↓dPre.eq_1, ↓fT_nx, ↓fT_rt, ↓fT_ex, Nat.reduceAdd, Int.reduceNeg, ↓eqD_int, ↓eqD_str, ↓eqD_bool, ↓dRng1.eq_1, ↓dRng2.eq_1, inV_ints, inV_strs, inV_int1, inV_str1, inV_nil, flat_ints, flat_strs, flatD, vOf, lookS, lookI, lookP, dropS, dropI, dropP, Nat.sub_self, List.replicate_zero, Option.getD_some, Option.getD_none, reduceCtorEq, List.append_nil, str_lit, sz_0, sz_1, sz_2, sz_3, sz_4, sz_5, sz_6, sz_7, sz_8, sz_9, sz_10, sz_11, sz_12, sz_13, sz_14, sz_15, sz_16, sz_17, sz_18, sz_19, sz_20, sz_21, sz_22, sz_23, sz_24, Nat.reduceSub, Nat.reduceMul, Nat.reduceDiv, Nat.reduceMod, Nat.reduceLT, Nat.reduceLeDiff, Nat.reduceEqDiff, Nat.reduceGT, Nat.reduceBEq, Int.reduceAdd, Int.reduceSub, Int.reduceMul, Int.reduceDiv, Int.reduceMod, Int.reduceLT, Int.reduceLE, Int.reduceEq, Int.reduceNe, Int.reduceGT, Int.reduceGE, Int.reduceToNat, String.reduceEq, String.reduceNe, and_false, false_and, ↓dCallF_eq, ↓dCallK_eq, ↓dxMake_eq, Option.isSome_map, ↓callA_eq, ↓dForS_eq, ↓dWhileS_eq, ↓dLc_eq, ↓dSeq_ap, ↓dTidy_ap, ↓dTidyN_ap, seqE_nx, seqE_rt, seqE_bk, seqE_ct, seqE_ex, tidyE_nx, tidyE_rt, tidyE_bk, tidyE_ct, tidyE_ex, tidyNE_nx, tidyNE_rt, tidyNE_bk, tidyNE_ct, tidyNE_ex, loopE_nx, loopE_rt, loopE_bk, loopE_ct, loopE_ex, ↓fE_nx, ↓fE_rt, ↓exSome, ↓rdS_ap, ↓fSort_ap, goE_nx, goE_rt, goE_bk, goE_ct, goE_ex, decide_eq_false_iff_not, ite_not, b_law_L104, he, encE]
      refine callS_of (by repeat' (first | exact True.intro | rfl | (refine ⟨?_, ?_⟩))) (cl_Runs_begin hx ?_)
      simp -dsimp -implicitDefEqProofs only [↓dNext.eq_1, ↓dBreak.eq_1, ↓dCont.eq_1, ↓dNever.eq_1, ↓dDrop.eq_1, ↓dRet.eq_1, ↓dRetN.eq_1, ↓dIf.eq_1, ↓dSet.eq_1, ↓dFrz.eq_1, ↓dUnp.eq_1, ↓dRetV.eq_1, ↓dAug.eq_1, ↓dSetI.eq_1, ↓dDelI.eq_1, ↓dFldS.eq_1, ↓dFldA.eq_1, ↓setAt.eq_1, ↓delAt.eq_1, ↓fldAt.eq_1, ↓dP.eq_1, ↓dPT.eq_1, ↓dPC.eq_1, ↓dPI.eq_1, ↓dXnil.eq_1, ↓dXcons.eq_1, ↓dxOp.eq_1, ↓dxOpL.eq_1, ↓dxUn.eq_1, ↓dxTst.eq_1, ↓truD.eq_1, ↓dxTru.eq_1, ↓dxAndT.eq_1, ↓dxOrT.eq_1, ↓dxNotT.eq_1, ↓dxAndE.eq_1, ↓dxOrE.eq_1, ↓dxNotE.eq_1, ↓dxIfE.eq_1, ↓dxTup.eq_1, ↓dxLst.eq_1, ↓dxCB.eq_1, ↓dxCall.eq_1, ↓dxMethP.eq_1, ↓dxMethV.eq_1, ↓dxMethN.eq_1, ↓dxAppP.eq_1, ↓dxAppV.eq_1, dxAppP.isL, ↓appAt.eq_1, ↓nmPl.eq_1, nmAt, ↓nmArg.eq_1, isOb, ↓dVar.eq_1, ↓dK.eq_1, ↓dOp.eq_1, ↓dUn.eq_1, ↓dNil.eq_1, ↓dCons.eq_1, ↓dCnil.eq_1, ↓dCcons.eq_1, ↓dCall.eq_1, ↓dTupD.eq_1, ↓dLstD.eq_1, ↓dTst.eq_1, ↓dTru.eq_1, ↓dAndT.eq_1, ↓dOrT.eq_1, ↓dNotT.eq_1, ↓dAndE.eq_1, ↓dOrE.eq_1, ↓dNotE.eq_1, ↓dIfE.eq_1, ↓dNewK.eq_1, ↓dFld.eq_1, ↓dYes.eq_1, ↓dIsi.eq_1, dTy, isiB, ↓dI.eq_1, ↓dIC.eq_1, ↓dAdd.eq_1, ↓dEq.eq_1, ↓dNe.eq_1, dIs, ↓dLtI.eq_1, ↓dLt.eq_1, ↓dLtB.eq_1, ↓dSub.eq_1, ↓dMul.eq_1, ↓dFdiv.eq_1, ↓dMod.eq_1, ↓dPow.eq_1, ↓dLe.eq_1, ↓dGt.eq_1, ↓dGe.eq_1, ↓dAddI.eq_1, ↓dNeg.eq_1, ↓dMulA.eq_1, ↓dInA.eq_1, ↓dInD.eq_1, ↓dIn.eq_1, keyIn, ↓dIxA.eq_1, ↓dGetD.eq_1, ↓dIx.eq_1, ↓dSl.eq_1, ↓dOnone.eq_1, ↓dOsome.eq_1, ↓dL1_ap, ↓dL2_ap, ↓dL1Z_ap, ↓fLen_ap, ↓fAbs_ap, ↓fInt_ap, ↓fStr_ap, ↓fMax_ap, ↓fMin_ap, ↓fList_ap, ↓fTup_ap, ↓fLenZ.eq_1, ↓fListZ.eq_1, ↓fSum_ap, ↓fAny_ap, ↓fAll_ap, ↓dpVar.eq_1, ↓dpFld.eq_1, ↓dpaNil.eq_1, ↓dpaP.eq_1, ↓dpaD.eq_1, ↓dPPA.eq_1, ↓dxaNil.eq_1, ↓dxaV.eq_1, ↓dxaD.eq_1, ↓dxaN.eq_1, ↓dgName.eq_1, ↓dgNil.eq_1, ↓dgCons_ap, ↓dgTup_ap, ↓dItems.eq_1, ↓dXItems.eq_1, ↓itemsD.eq_1, Z.own, Z.data, S.data, Z.dicv, S.dicv, Z.items, S.items, Z.mems, S.mems, Z.ownL, Z.dk, S.dk, Z.keep, Z.fin, kindT, keyD, keyT, keysD, keyA, atP, S.at, S.kids, S.wth, SF.pos, SF.get, SF.set, SF.len, SF.labs, SF.app, S.put, putP, repl, kill, killS, backM, ghM, argT, args, lendR, backR, apartAll, npre, apart, S.noT, S.tru, S.live, wipeS, List.getElem?_cons_zero, List.getElem?_cons_succ, List.getElem?_nil, List.set_cons_zero, List.set_cons_succ, List.cons_append, List.nil_append, List.replicate, List.length_cons, List.length_nil, List.map_cons, List.map_nil, List.drop_succ_cons, List.drop_zero, List.all_cons, List.all_nil, List.tail_cons, List.getD, Option.map_some, Option.map_none, Option.isSome_some, Option.isSome_none, Option.some.injEq, Bool.and_true, Bool.true_and, Bool.not_true, Bool.not_false, Bool.false_eq_true, Bool.and_self, Bool.or_false, Bool.false_or, if_true, if_false, ite_true, ite_false, and_true, true_and, true_or, or_true, decide_eq_true_eq, decide_true, decide_false, Bool.not_eq_true', Bool.not_eq_eq_eq_not, decide_not, not_false_eq_true, not_true_eq_false, ↓reduceIte, natlit, atI_lit, ↓dPre.eq_1, ↓fT_nx, ↓fT_rt, ↓fT_ex, Nat.reduceAdd, Int.reduceNeg, ↓eqD_int, ↓eqD_str, ↓eqD_bool, ↓dRng1.eq_1, ↓dRng2.eq_1, inV_ints, inV_strs, inV_int1, inV_str1, inV_nil, flat_ints, flat_strs, flatD, vOf, lookS, lookI, lookP, dropS, dropI, dropP, Nat.sub_self, List.replicate_zero, Option.getD_some, Option.getD_none, reduceCtorEq, List.append_nil, str_lit, sz_0, sz_1, sz_2, sz_3, sz_4, sz_5, sz_6, sz_7, sz_8, sz_9, sz_10, sz_11, sz_12, sz_13, sz_14, sz_15, sz_16, sz_17, sz_18, sz_19, sz_20, sz_21, sz_22, sz_23, sz_24, Nat.reduceSub, Nat.reduceMul, Nat.reduceDiv, Nat.reduceMod, Nat.reduceLT, Nat.reduceLeDiff, Nat.reduceEqDiff, Nat.reduceGT, Nat.reduceBEq, Int.reduceAdd, Int.reduceSub, Int.reduceMul, Int.reduceDiv, Int.reduceMod, Int.reduceLT, Int.reduceLE, Int.reduceEq, Int.reduceNe, Int.reduceGT, Int.reduceGE, Int.reduceToNat, String.reduceEq, String.reduceNe, and_false, false_and, ↓dCallF_eq, ↓dCallK_eq, ↓dxMake_eq, Option.isSome_map, ↓callA_eq, ↓dForS_eq, ↓dWhileS_eq, ↓dLc_eq, ↓dSeq_ap, ↓dTidy_ap, ↓dTidyN_ap, seqE_nx, seqE_rt, seqE_bk, seqE_ct, seqE_ex, tidyE_nx, tidyE_rt, tidyE_bk, tidyE_ct, tidyE_ex, tidyNE_nx, tidyNE_rt, tidyNE_bk, tidyNE_ct, tidyNE_ex, loopE_nx, loopE_rt, loopE_bk, loopE_ct, loopE_ex, ↓fE_nx, ↓fE_rt, ↓exSome, ↓rdS_ap, ↓fSort_ap, goE_nx, goE_rt, goE_bk, goE_ct, goE_ex, decide_eq_false_iff_not, ite_not]
      have := rest (aput xs t.name 5) ⟨aput_len, fun z p hp => ?_⟩
      · exact this
      · unfold aput at hp
        split at hp
        · obtain ⟨q, hq, rfl⟩ := List.mem_map.mp hp
          split
          · exact ⟨(by decide : (5 : Int) ≠ 0), (z q hq).2⟩
          · exact z q hq
        · rcases List.mem_append.mp hp with hp | hp
          · exact z p hp
          · rw [List.mem_singleton.mp hp]; exact ⟨(by decide : (5 : Int) ≠ 0), oe.name⟩
  · simp -dsimp -implicitDefEqProofs only [↓dNext.eq_1, ↓dBreak.eq_1, ↓dCont.eq_1, ↓dNever.eq_1, ↓dDrop.eq_1, ↓dRet.eq_1, ↓dRetN.eq_1, ↓dIf.eq_1, ↓dSet.eq_1, ↓dFrz.eq_1, ↓dUnp.eq_1, ↓dRetV.eq_1, ↓dAug.eq_1, ↓dSetI.eq_1, ↓dDelI.eq_1, ↓dFldS.eq_1, ↓dFldA.eq_1, ↓setAt.eq_1, ↓delAt.eq_1, ↓fldAt.eq_1, ↓dP.eq_1, ↓dPT.eq_1, ↓dPC.eq_1, ↓dPI.eq_1, ↓dXnil.eq_1, ↓dXcons.eq_1, ↓dxOp.eq_1, ↓dxOpL.eq_1, ↓dxUn.eq_1, ↓dxTst.eq_1, ↓truD.eq_1, ↓dxTru.eq_1, ↓dxAndT.eq_1, ↓dxOrT.eq_1, ↓dxNotT.eq_1, ↓dxAndE.eq_1, ↓dxOrE.eq_1, ↓dxNotE.eq_1, ↓dxIfE.eq_1, ↓dxTup.eq_1, ↓dxLst.eq_1, ↓dxCB.eq_1, ↓dxCall.eq_1, ↓dxMethP.eq_1, ↓dxMethV.eq_1, ↓dxMethN.eq_1, ↓dxAppP.eq_1, ↓dxAppV.eq_1, dxAppP.isL, ↓appAt.eq_1, ↓nmPl.eq_1, nmAt, ↓nmArg.eq_1, isOb, ↓dVar.eq_1, ↓dK.eq_1, ↓dOp.eq_1, ↓dUn.eq_1, ↓dNil.eq_1, ↓dCons.eq_1, ↓dCnil.eq_1, ↓dCcons.eq_1, ↓dCall.eq_1, ↓dTupD.eq_1, ↓dLstD.eq_1, ↓dTst.eq_1, ↓dTru.eq_1, ↓dAndT.eq_1, ↓dOrT.eq_1, ↓dNotT.eq_1, ↓dAndE.eq_1, ↓dOrE.eq_1, ↓dNotE.eq_1, ↓dIfE.eq_1, ↓dNewK.eq_1, ↓dFld.eq_1, ↓dYes.eq_1, ↓dIsi.eq_1, dTy, isiB, ↓dI.eq_1, ↓dIC.eq_1, ↓dAdd.eq_1, ↓dEq.eq_1, ↓dNe.eq_1, dIs, ↓dLtI.eq_1, ↓dLt.eq_1, ↓dLtB.eq_1, ↓dSub.eq_1, ↓dMul.eq_1, ↓dFdiv.eq_1, ↓dMod.eq_1, ↓dPow.eq_1, ↓dLe.eq_1, ↓dGt.eq_1, ↓dGe.eq_1, ↓dAddI.eq_1, ↓dNeg.eq_1, ↓dMulA.eq_1, ↓dInA.eq_1, ↓dInD.eq_1, ↓dIn.eq_1, keyIn, ↓dIxA.eq_1, ↓dGetD.eq_1, ↓dIx.eq_1, ↓dSl.eq_1, ↓dOnone.eq_1, ↓dOsome.eq_1, ↓dL1_ap, ↓dL2_ap, ↓dL1Z_ap, ↓fLen_ap, ↓fAbs_ap, ↓fInt_ap, ↓fStr_ap, ↓fMax_ap, ↓fMin_ap, ↓fList_ap, ↓fTup_ap, ↓fLenZ.eq_1, ↓fListZ.eq_1, ↓fSum_ap, ↓fAny_ap, ↓fAll_ap, ↓dpVar.eq_1, ↓dpFld.eq_1, ↓dpaNil.eq_1, ↓dpaP.eq_1, ↓dpaD.eq_1, ↓dPPA.eq_1, ↓dxaNil.eq_1, ↓dxaV.eq_1, ↓dxaD.eq_1, ↓dxaN.eq_1, ↓dgName.eq_1, ↓dgNil.eq_1, ↓dgCons_ap, ↓dgTup_ap, ↓dItems.eq_1, ↓dXItems.eq_1, ↓itemsD.eq_1, Z.own, Z.data, S.data, Z.dicv, S.dicv, Z.items, S.items, Z.mems, S.mems, Z.ownL, Z.dk, S.dk, Z.keep, Z.fin, kindT, keyD, keyT, keysD, keyA, atP, S.at, S.kids, S.wth, SF.pos, SF.get, SF.set, SF.len, SF.labs, SF.app, S.put, putP, repl, kill, killS, backM, ghM, argT, args, lendR, backR, apartAll, npre, apart, S.noT, S.tru, S.live, wipeS, List.getElem?_cons_zero, List.getElem?_cons_succ, List.getElem?_nil, List.set_cons_zero, List.set_cons_succ, List.cons_append, List.nil_append, List.replicate, List.length_cons, List.length_nil, List.map_cons, List.map_nil, List.drop_succ_cons, List.drop_zero, List.all_cons, List.all_nil, List.tail_cons, List.getD, Option.map_some, Option.map_none, Option.isSome_some, Option.isSome_none, Option.some.injEq, Bool.and_true, Bool.true_and, Bool.not_true, Bool.not_false, Bool.false_eq_true, Bool.and_self, Bool.or_false, Bool.false_or, if_true, if_false, ite_true, ite_false, and_true, true_and, true_or, or_true, decide_eq_true_eq, decide_true, decide_false, Bool.not_eq_true', Bool.not_eq_eq_eq_not, decide_not, not_false_eq_true, not_true_eq_false, ↓reduceIte, natlit, atI_lit, ↓dPre.eq_1, ↓fT_nx, ↓fT_rt, ↓fT_ex, Nat.reduceAdd, Int.reduceNeg, ↓eqD_int, ↓eqD_str, ↓eqD_bool, ↓dRng1.eq_1, ↓dRng2.eq_1, inV_ints, inV_strs, inV_int1, inV_str1, inV_nil, flat_ints, flat_strs, flatD, vOf, lookS, lookI, lookP, dropS, dropI, dropP, Nat.sub_self, List.replicate_zero, Option.getD_some, Option.getD_none, reduceCtorEq, List.append_nil, str_lit, sz_0, sz_1, sz_2, sz_3, sz_4, sz_5, sz_6, sz_7, sz_8, sz_9, sz_10, sz_11, sz_12, sz_13, sz_14, sz_15, sz_16, sz_17, sz_18, sz_19, sz_20, sz_21, sz_22, sz_23, sz_24, Nat.reduceSub, Nat.reduceMul, Nat.reduceDiv, Nat.reduceMod, Nat.reduceLT, Nat.reduceLeDiff, Nat.reduceEqDiff, Nat.reduceGT, Nat.reduceBEq, Int.reduceAdd, Int.reduceSub, Int.reduceMul, Int.reduceDiv, Int.reduceMod, Int.reduceLT, Int.reduceLE, Int.reduceEq, Int.reduceNe, Int.reduceGT, Int.reduceGE, Int.reduceToNat, String.reduceEq, String.reduceNe, and_false, false_and, ↓dCallF_eq, ↓dCallK_eq, ↓dxMake_eq, Option.isSome_map, ↓callA_eq, ↓dForS_eq, ↓dWhileS_eq, ↓dLc_eq, ↓dSeq_ap, ↓dTidy_ap, ↓dTidyN_ap, seqE_nx, seqE_rt, seqE_bk, seqE_ct, seqE_ex, tidyE_nx, tidyE_rt, tidyE_bk, tidyE_ct, tidyE_ex, tidyNE_nx, tidyNE_rt, tidyNE_bk, tidyNE_ct, tidyNE_ex, loopE_nx, loopE_rt, loopE_bk, loopE_ct, loopE_ex, ↓fE_nx, ↓fE_rt, ↓exSome, ↓rdS_ap, ↓fSort_ap, goE_nx, goE_rt, goE_bk, goE_ct, goE_ex, decide_eq_false_iff_not, ite_not, b_law_L104, c]
    exact same
end
theorem sem_law : ∀ ρ Q Ed, F_lawT ρ Q Ed → ∀ g, b_law (fT m_law n_law.length g Q Ed) (argT m_law n_law.length g ρ) := by
  rintro ρ Q Ed ⟨ns, rfl, hl, h⟩ g
  have hp0 : 0 ≤ num ns 0 := num_nonneg ns _ (by omega)
  simp -dsimp -implicitDefEqProofs only [↓dNext.eq_1, ↓dBreak.eq_1, ↓dCont.eq_1, ↓dNever.eq_1, ↓dDrop.eq_1, ↓dRet.eq_1, ↓dRetN.eq_1, ↓dIf.eq_1, ↓dSet.eq_1, ↓dFrz.eq_1, ↓dUnp.eq_1, ↓dRetV.eq_1, ↓dAug.eq_1, ↓dSetI.eq_1, ↓dDelI.eq_1, ↓dFldS.eq_1, ↓dFldA.eq_1, ↓setAt.eq_1, ↓delAt.eq_1, ↓fldAt.eq_1, ↓dP.eq_1, ↓dPT.eq_1, ↓dPC.eq_1, ↓dPI.eq_1, ↓dXnil.eq_1, ↓dXcons.eq_1, ↓dxOp.eq_1, ↓dxOpL.eq_1, ↓dxUn.eq_1, ↓dxTst.eq_1, ↓truD.eq_1, ↓dxTru.eq_1, ↓dxAndT.eq_1, ↓dxOrT.eq_1, ↓dxNotT.eq_1, ↓dxAndE.eq_1, ↓dxOrE.eq_1, ↓dxNotE.eq_1, ↓dxIfE.eq_1, ↓dxTup.eq_1, ↓dxLst.eq_1, ↓dxCB.eq_1, ↓dxCall.eq_1, ↓dxMethP.eq_1, ↓dxMethV.eq_1, ↓dxMethN.eq_1, ↓dxAppP.eq_1, ↓dxAppV.eq_1, dxAppP.isL, ↓appAt.eq_1, ↓nmPl.eq_1, nmAt, ↓nmArg.eq_1, isOb, ↓dVar.eq_1, ↓dK.eq_1, ↓dOp.eq_1, ↓dUn.eq_1, ↓dNil.eq_1, ↓dCons.eq_1, ↓dCnil.eq_1, ↓dCcons.eq_1, ↓dCall.eq_1, ↓dTupD.eq_1, ↓dLstD.eq_1, ↓dTst.eq_1, ↓dTru.eq_1, ↓dAndT.eq_1, ↓dOrT.eq_1, ↓dNotT.eq_1, ↓dAndE.eq_1, ↓dOrE.eq_1, ↓dNotE.eq_1, ↓dIfE.eq_1, ↓dNewK.eq_1, ↓dFld.eq_1, ↓dYes.eq_1, ↓dIsi.eq_1, dTy, isiB, ↓dI.eq_1, ↓dIC.eq_1, ↓dAdd.eq_1, ↓dEq.eq_1, ↓dNe.eq_1, dIs, ↓dLtI.eq_1, ↓dLt.eq_1, ↓dLtB.eq_1, ↓dSub.eq_1, ↓dMul.eq_1, ↓dFdiv.eq_1, ↓dMod.eq_1, ↓dPow.eq_1, ↓dLe.eq_1, ↓dGt.eq_1, ↓dGe.eq_1, ↓dAddI.eq_1, ↓dNeg.eq_1, ↓dMulA.eq_1, ↓dInA.eq_1, ↓dInD.eq_1, ↓dIn.eq_1, keyIn, ↓dIxA.eq_1, ↓dGetD.eq_1, ↓dIx.eq_1, ↓dSl.eq_1, ↓dOnone.eq_1, ↓dOsome.eq_1, ↓dL1_ap, ↓dL2_ap, ↓dL1Z_ap, ↓fLen_ap, ↓fAbs_ap, ↓fInt_ap, ↓fStr_ap, ↓fMax_ap, ↓fMin_ap, ↓fList_ap, ↓fTup_ap, ↓fLenZ.eq_1, ↓fListZ.eq_1, ↓fSum_ap, ↓fAny_ap, ↓fAll_ap, ↓dpVar.eq_1, ↓dpFld.eq_1, ↓dpaNil.eq_1, ↓dpaP.eq_1, ↓dpaD.eq_1, ↓dPPA.eq_1, ↓dxaNil.eq_1, ↓dxaV.eq_1, ↓dxaD.eq_1, ↓dxaN.eq_1, ↓dgName.eq_1, ↓dgNil.eq_1, ↓dgCons_ap, ↓dgTup_ap, ↓dItems.eq_1, ↓dXItems.eq_1, ↓itemsD.eq_1, Z.own, Z.data, S.data, Z.dicv, S.dicv, Z.items, S.items, Z.mems, S.mems, Z.ownL, Z.dk, S.dk, Z.keep, Z.fin, kindT, keyD, keyT, keysD, keyA, atP, S.at, S.kids, S.wth, SF.pos, SF.get, SF.set, SF.len, SF.labs, SF.app, S.put, putP, repl, kill, killS, backM, ghM, argT, args, lendR, backR, apartAll, npre, apart, S.noT, S.tru, S.live, wipeS, List.getElem?_cons_zero, List.getElem?_cons_succ, List.getElem?_nil, List.set_cons_zero, List.set_cons_succ, List.cons_append, List.nil_append, List.replicate, List.length_cons, List.length_nil, List.map_cons, List.map_nil, List.drop_succ_cons, List.drop_zero, List.all_cons, List.all_nil, List.tail_cons, List.getD, Option.map_some, Option.map_none, Option.isSome_some, Option.isSome_none, Option.some.injEq, Bool.and_true, Bool.true_and, Bool.not_true, Bool.not_false, Bool.false_eq_true, Bool.and_self, Bool.or_false, Bool.false_or, if_true, if_false, ite_true, ite_false, and_true, true_and, true_or, or_true, decide_eq_true_eq, decide_true, decide_false, Bool.not_eq_true', Bool.not_eq_eq_eq_not, decide_not, not_false_eq_true, not_true_eq_false, ↓reduceIte, natlit, atI_lit, ↓dPre.eq_1, ↓fT_nx, ↓fT_rt, ↓fT_ex, Nat.reduceAdd, Int.reduceNeg, ↓eqD_int, ↓eqD_str, ↓eqD_bool, ↓dRng1.eq_1, ↓dRng2.eq_1, inV_ints, inV_strs, inV_int1, inV_str1, inV_nil, flat_ints, flat_strs, flatD, vOf, lookS, lookI, lookP, dropS, dropI, dropP, Nat.sub_self, List.replicate_zero, Option.getD_some, Option.getD_none, reduceCtorEq, List.append_nil, str_lit, sz_0, sz_1, sz_2, sz_3, sz_4, sz_5, sz_6, sz_7, sz_8, sz_9, sz_10, sz_11, sz_12, sz_13, sz_14, sz_15, sz_16, sz_17, sz_18, sz_19, sz_20, sz_21, sz_22, sz_23, sz_24, Nat.reduceSub, Nat.reduceMul, Nat.reduceDiv, Nat.reduceMod, Nat.reduceLT, Nat.reduceLeDiff, Nat.reduceEqDiff, Nat.reduceGT, Nat.reduceBEq, Int.reduceAdd, Int.reduceSub, Int.reduceMul, Int.reduceDiv, Int.reduceMod, Int.reduceLT, Int.reduceLE, Int.reduceEq, Int.reduceNe, Int.reduceGT, Int.reduceGE, Int.reduceToNat, String.reduceEq, String.reduceNe, and_false, false_and, ↓dCallF_eq, ↓dCallK_eq, ↓dxMake_eq, Option.isSome_map, ↓callA_eq, ↓dForS_eq, ↓dWhileS_eq, ↓dLc_eq, ↓dSeq_ap, ↓dTidy_ap, ↓dTidyN_ap, seqE_nx, seqE_rt, seqE_bk, seqE_ct, seqE_ex, tidyE_nx, tidyE_rt, tidyE_bk, tidyE_ct, tidyE_ex, tidyNE_nx, tidyNE_rt, tidyNE_bk, tidyNE_ct, tidyNE_ex, loopE_nx, loopE_rt, loopE_bk, loopE_ct, loopE_ex, ↓fE_nx, ↓fE_rt, ↓exSome, ↓rdS_ap, ↓fSort_ap, goE_nx, goE_rt, goE_bk, goE_ct, goE_ex, decide_eq_false_iff_not, ite_not, b_law]
  refine callF_of (cl__law_digits (sz := [31]) ⟨by omega, by omega⟩ (by decide) (by decide) ?_)
  simp -dsimp -implicitDefEqProofs only [↓dNext.eq_1, ↓dBreak.eq_1, ↓dCont.eq_1, ↓dNever.eq_1, ↓dDrop.eq_1, ↓dRet.eq_1, ↓dRetN.eq_1, ↓dIf.eq_1, ↓dSet.eq_1, ↓dFrz.eq_1, ↓dUnp.eq_1, ↓dRetV.eq_1, ↓dAug.eq_1, ↓dSetI.eq_1, ↓dDelI.eq_1, ↓dFldS.eq_1, ↓dFldA.eq_1, ↓setAt.eq_1, ↓delAt.eq_1, ↓fldAt.eq_1, ↓dP.eq_1, ↓dPT.eq_1, ↓dPC.eq_1, ↓dPI.eq_1, ↓dXnil.eq_1, ↓dXcons.eq_1, ↓dxOp.eq_1, ↓dxOpL.eq_1, ↓dxUn.eq_1, ↓dxTst.eq_1, ↓truD.eq_1, ↓dxTru.eq_1, ↓dxAndT.eq_1, ↓dxOrT.eq_1, ↓dxNotT.eq_1, ↓dxAndE.eq_1, ↓dxOrE.eq_1, ↓dxNotE.eq_1, ↓dxIfE.eq_1, ↓dxTup.eq_1, ↓dxLst.eq_1, ↓dxCB.eq_1, ↓dxCall.eq_1, ↓dxMethP.eq_1, ↓dxMethV.eq_1, ↓dxMethN.eq_1, ↓dxAppP.eq_1, ↓dxAppV.eq_1, dxAppP.isL, ↓appAt.eq_1, ↓nmPl.eq_1, nmAt, ↓nmArg.eq_1, isOb, ↓dVar.eq_1, ↓dK.eq_1, ↓dOp.eq_1, ↓dUn.eq_1, ↓dNil.eq_1, ↓dCons.eq_1, ↓dCnil.eq_1, ↓dCcons.eq_1, ↓dCall.eq_1, ↓dTupD.eq_1, ↓dLstD.eq_1, ↓dTst.eq_1, ↓dTru.eq_1, ↓dAndT.eq_1, ↓dOrT.eq_1, ↓dNotT.eq_1, ↓dAndE.eq_1, ↓dOrE.eq_1, ↓dNotE.eq_1, ↓dIfE.eq_1, ↓dNewK.eq_1, ↓dFld.eq_1, ↓dYes.eq_1, ↓dIsi.eq_1, dTy, isiB, ↓dI.eq_1, ↓dIC.eq_1, ↓dAdd.eq_1, ↓dEq.eq_1, ↓dNe.eq_1, dIs, ↓dLtI.eq_1, ↓dLt.eq_1, ↓dLtB.eq_1, ↓dSub.eq_1, ↓dMul.eq_1, ↓dFdiv.eq_1, ↓dMod.eq_1, ↓dPow.eq_1, ↓dLe.eq_1, ↓dGt.eq_1, ↓dGe.eq_1, ↓dAddI.eq_1, ↓dNeg.eq_1, ↓dMulA.eq_1, ↓dInA.eq_1, ↓dInD.eq_1, ↓dIn.eq_1, keyIn, ↓dIxA.eq_1, ↓dGetD.eq_1, ↓dIx.eq_1, ↓dSl.eq_1, ↓dOnone.eq_1, ↓dOsome.eq_1, ↓dL1_ap, ↓dL2_ap, ↓dL1Z_ap, ↓fLen_ap, ↓fAbs_ap, ↓fInt_ap, ↓fStr_ap, ↓fMax_ap, ↓fMin_ap, ↓fList_ap, ↓fTup_ap, ↓fLenZ.eq_1, ↓fListZ.eq_1, ↓fSum_ap, ↓fAny_ap, ↓fAll_ap, ↓dpVar.eq_1, ↓dpFld.eq_1, ↓dpaNil.eq_1, ↓dpaP.eq_1, ↓dpaD.eq_1, ↓dPPA.eq_1, ↓dxaNil.eq_1, ↓dxaV.eq_1, ↓dxaD.eq_1, ↓dxaN.eq_1, ↓dgName.eq_1, ↓dgNil.eq_1, ↓dgCons_ap, ↓dgTup_ap, ↓dItems.eq_1, ↓dXItems.eq_1, ↓itemsD.eq_1, Z.own, Z.data, S.data, Z.dicv, S.dicv, Z.items, S.items, Z.mems, S.mems, Z.ownL, Z.dk, S.dk, Z.keep, Z.fin, kindT, keyD, keyT, keysD, keyA, atP, S.at, S.kids, S.wth, SF.pos, SF.get, SF.set, SF.len, SF.labs, SF.app, S.put, putP, repl, kill, killS, backM, ghM, argT, args, lendR, backR, apartAll, npre, apart, S.noT, S.tru, S.live, wipeS, List.getElem?_cons_zero, List.getElem?_cons_succ, List.getElem?_nil, List.set_cons_zero, List.set_cons_succ, List.cons_append, List.nil_append, List.replicate, List.length_cons, List.length_nil, List.map_cons, List.map_nil, List.drop_succ_cons, List.drop_zero, List.all_cons, List.all_nil, List.tail_cons, List.getD, Option.map_some, Option.map_none, Option.isSome_some, Option.isSome_none, Option.some.injEq, Bool.and_true, Bool.true_and, Bool.not_true, Bool.not_false, Bool.false_eq_true, Bool.and_self, Bool.or_false, Bool.false_or, if_true, if_false, ite_true, ite_false, and_true, true_and, true_or, or_true, decide_eq_true_eq, decide_true, decide_false, Bool.not_eq_true', Bool.not_eq_eq_eq_not, decide_not, not_false_eq_true, not_true_eq_false, ↓reduceIte, natlit, atI_lit, ↓dPre.eq_1, ↓fT_nx, ↓fT_rt, ↓fT_ex, Nat.reduceAdd, Int.reduceNeg, ↓eqD_int, ↓eqD_str, ↓eqD_bool, ↓dRng1.eq_1, ↓dRng2.eq_1, inV_ints, inV_strs, inV_int1, inV_str1, inV_nil, flat_ints, flat_strs, flatD, vOf, lookS, lookI, lookP, dropS, dropI, dropP, Nat.sub_self, List.replicate_zero, Option.getD_some, Option.getD_none, reduceCtorEq, List.append_nil, str_lit, sz_0, sz_1, sz_2, sz_3, sz_4, sz_5, sz_6, sz_7, sz_8, sz_9, sz_10, sz_11, sz_12, sz_13, sz_14, sz_15, sz_16, sz_17, sz_18, sz_19, sz_20, sz_21, sz_22, sz_23, sz_24, Nat.reduceSub, Nat.reduceMul, Nat.reduceDiv, Nat.reduceMod, Nat.reduceLT, Nat.reduceLeDiff, Nat.reduceEqDiff, Nat.reduceGT, Nat.reduceBEq, Int.reduceAdd, Int.reduceSub, Int.reduceMul, Int.reduceDiv, Int.reduceMod, Int.reduceLT, Int.reduceLE, Int.reduceEq, Int.reduceNe, Int.reduceGT, Int.reduceGE, Int.reduceToNat, String.reduceEq, String.reduceNe, and_false, false_and, ↓dCallF_eq, ↓dCallK_eq, ↓dxMake_eq, Option.isSome_map, ↓callA_eq, ↓dForS_eq, ↓dWhileS_eq, ↓dLc_eq, ↓dSeq_ap, ↓dTidy_ap, ↓dTidyN_ap, seqE_nx, seqE_rt, seqE_bk, seqE_ct, seqE_ex, tidyE_nx, tidyE_rt, tidyE_bk, tidyE_ct, tidyE_ex, tidyNE_nx, tidyNE_rt, tidyNE_bk, tidyNE_ct, tidyNE_ex, loopE_nx, loopE_rt, loopE_bk, loopE_ct, loopE_ex, ↓fE_nx, ↓fE_rt, ↓exSome, ↓rdS_ap, ↓fSort_ap, goE_nx, goE_rt, goE_bk, goE_ct, goE_ex, decide_eq_false_iff_not, ite_not, digs, b_law_L97]
  have b0 : 0 ≤ num ns 0 % 31 ∧ num ns 0 % 31 < 31 := by omega
  generalize num ns 0 % 31 = sz at b0 ⊢
  refine ⟨⟨by omega, by omega⟩, ?_⟩
  rw [upFrom_eq]
  refine lc_eachS _ (fun i : Nat => encE (entry ns (1 + (0 + (i : Int))))) (by rw [List.length_range]; omega) (fun i hi R1 k1 => ?_) ?_
  · have hi := List.mem_range.mp hi
    simp -dsimp -implicitDefEqProofs only [↓dNext.eq_1, ↓dBreak.eq_1, ↓dCont.eq_1, ↓dNever.eq_1, ↓dDrop.eq_1, ↓dRet.eq_1, ↓dRetN.eq_1, ↓dIf.eq_1, ↓dSet.eq_1, ↓dFrz.eq_1, ↓dUnp.eq_1, ↓dRetV.eq_1, ↓dAug.eq_1, ↓dSetI.eq_1, ↓dDelI.eq_1, ↓dFldS.eq_1, ↓dFldA.eq_1, ↓setAt.eq_1, ↓delAt.eq_1, ↓fldAt.eq_1, ↓dP.eq_1, ↓dPT.eq_1, ↓dPC.eq_1, ↓dPI.eq_1, ↓dXnil.eq_1, ↓dXcons.eq_1, ↓dxOp.eq_1, ↓dxOpL.eq_1, ↓dxUn.eq_1, ↓dxTst.eq_1, ↓truD.eq_1, ↓dxTru.eq_1, ↓dxAndT.eq_1, ↓dxOrT.eq_1, ↓dxNotT.eq_1, ↓dxAndE.eq_1, ↓dxOrE.eq_1, ↓dxNotE.eq_1, ↓dxIfE.eq_1, ↓dxTup.eq_1, ↓dxLst.eq_1, ↓dxCB.eq_1, ↓dxCall.eq_1, ↓dxMethP.eq_1, ↓dxMethV.eq_1, ↓dxMethN.eq_1, ↓dxAppP.eq_1, ↓dxAppV.eq_1, dxAppP.isL, ↓appAt.eq_1, ↓nmPl.eq_1, nmAt, ↓nmArg.eq_1, isOb, ↓dVar.eq_1, ↓dK.eq_1, ↓dOp.eq_1, ↓dUn.eq_1, ↓dNil.eq_1, ↓dCons.eq_1, ↓dCnil.eq_1, ↓dCcons.eq_1, ↓dCall.eq_1, ↓dTupD.eq_1, ↓dLstD.eq_1, ↓dTst.eq_1, ↓dTru.eq_1, ↓dAndT.eq_1, ↓dOrT.eq_1, ↓dNotT.eq_1, ↓dAndE.eq_1, ↓dOrE.eq_1, ↓dNotE.eq_1, ↓dIfE.eq_1, ↓dNewK.eq_1, ↓dFld.eq_1, ↓dYes.eq_1, ↓dIsi.eq_1, dTy, isiB, ↓dI.eq_1, ↓dIC.eq_1, ↓dAdd.eq_1, ↓dEq.eq_1, ↓dNe.eq_1, dIs, ↓dLtI.eq_1, ↓dLt.eq_1, ↓dLtB.eq_1, ↓dSub.eq_1, ↓dMul.eq_1, ↓dFdiv.eq_1, ↓dMod.eq_1, ↓dPow.eq_1, ↓dLe.eq_1, ↓dGt.eq_1, ↓dGe.eq_1, ↓dAddI.eq_1, ↓dNeg.eq_1, ↓dMulA.eq_1, ↓dInA.eq_1, ↓dInD.eq_1, ↓dIn.eq_1, keyIn, ↓dIxA.eq_1, ↓dGetD.eq_1, ↓dIx.eq_1, ↓dSl.eq_1, ↓dOnone.eq_1, ↓dOsome.eq_1, ↓dL1_ap, ↓dL2_ap, ↓dL1Z_ap, ↓fLen_ap, ↓fAbs_ap, ↓fInt_ap, ↓fStr_ap, ↓fMax_ap, ↓fMin_ap, ↓fList_ap, ↓fTup_ap, ↓fLenZ.eq_1, ↓fListZ.eq_1, ↓fSum_ap, ↓fAny_ap, ↓fAll_ap, ↓dpVar.eq_1, ↓dpFld.eq_1, ↓dpaNil.eq_1, ↓dpaP.eq_1, ↓dpaD.eq_1, ↓dPPA.eq_1, ↓dxaNil.eq_1, ↓dxaV.eq_1, ↓dxaD.eq_1, ↓dxaN.eq_1, ↓dgName.eq_1, ↓dgNil.eq_1, ↓dgCons_ap, ↓dgTup_ap, ↓dItems.eq_1, ↓dXItems.eq_1, ↓itemsD.eq_1, Z.own, Z.data, S.data, Z.dicv, S.dicv, Z.items, S.items, Z.mems, S.mems, Z.ownL, Z.dk, S.dk, Z.keep, Z.fin, kindT, keyD, keyT, keysD, keyA, atP, S.at, S.kids, S.wth, SF.pos, SF.get, SF.set, SF.len, SF.labs, SF.app, S.put, putP, repl, kill, killS, backM, ghM, argT, args, lendR, backR, apartAll, npre, apart, S.noT, S.tru, S.live, wipeS, List.getElem?_cons_zero, List.getElem?_cons_succ, List.getElem?_nil, List.set_cons_zero, List.set_cons_succ, List.cons_append, List.nil_append, List.replicate, List.length_cons, List.length_nil, List.map_cons, List.map_nil, List.drop_succ_cons, List.drop_zero, List.all_cons, List.all_nil, List.tail_cons, List.getD, Option.map_some, Option.map_none, Option.isSome_some, Option.isSome_none, Option.some.injEq, Bool.and_true, Bool.true_and, Bool.not_true, Bool.not_false, Bool.false_eq_true, Bool.and_self, Bool.or_false, Bool.false_or, if_true, if_false, ite_true, ite_false, and_true, true_and, true_or, or_true, decide_eq_true_eq, decide_true, decide_false, Bool.not_eq_true', Bool.not_eq_eq_eq_not, decide_not, not_false_eq_true, not_true_eq_false, ↓reduceIte, natlit, atI_lit, ↓dPre.eq_1, ↓fT_nx, ↓fT_rt, ↓fT_ex, Nat.reduceAdd, Int.reduceNeg, ↓eqD_int, ↓eqD_str, ↓eqD_bool, ↓dRng1.eq_1, ↓dRng2.eq_1, inV_ints, inV_strs, inV_int1, inV_str1, inV_nil, flat_ints, flat_strs, flatD, vOf, lookS, lookI, lookP, dropS, dropI, dropP, Nat.sub_self, List.replicate_zero, Option.getD_some, Option.getD_none, reduceCtorEq, List.append_nil, str_lit, sz_0, sz_1, sz_2, sz_3, sz_4, sz_5, sz_6, sz_7, sz_8, sz_9, sz_10, sz_11, sz_12, sz_13, sz_14, sz_15, sz_16, sz_17, sz_18, sz_19, sz_20, sz_21, sz_22, sz_23, sz_24, Nat.reduceSub, Nat.reduceMul, Nat.reduceDiv, Nat.reduceMod, Nat.reduceLT, Nat.reduceLeDiff, Nat.reduceEqDiff, Nat.reduceGT, Nat.reduceBEq, Int.reduceAdd, Int.reduceSub, Int.reduceMul, Int.reduceDiv, Int.reduceMod, Int.reduceLT, Int.reduceLE, Int.reduceEq, Int.reduceNe, Int.reduceGT, Int.reduceGE, Int.reduceToNat, String.reduceEq, String.reduceNe, and_false, false_and, ↓dCallF_eq, ↓dCallK_eq, ↓dxMake_eq, Option.isSome_map, ↓callA_eq, ↓dForS_eq, ↓dWhileS_eq, ↓dLc_eq, ↓dSeq_ap, ↓dTidy_ap, ↓dTidyN_ap, seqE_nx, seqE_rt, seqE_bk, seqE_ct, seqE_ex, tidyE_nx, tidyE_rt, tidyE_bk, tidyE_ct, tidyE_ex, tidyNE_nx, tidyNE_rt, tidyNE_bk, tidyNE_ct, tidyNE_ex, loopE_nx, loopE_rt, loopE_bk, loopE_ct, loopE_ex, ↓fE_nx, ↓fE_rt, ↓exSome, ↓rdS_ap, ↓fSort_ap, goE_nx, goE_rt, goE_bk, goE_ct, goE_ex, decide_eq_false_iff_not, ite_not]
    refine callF_of (cl__law_entry ⟨by omega, by omega⟩ ?_)
    simp -dsimp -implicitDefEqProofs only [↓dNext.eq_1, ↓dBreak.eq_1, ↓dCont.eq_1, ↓dNever.eq_1, ↓dDrop.eq_1, ↓dRet.eq_1, ↓dRetN.eq_1, ↓dIf.eq_1, ↓dSet.eq_1, ↓dFrz.eq_1, ↓dUnp.eq_1, ↓dRetV.eq_1, ↓dAug.eq_1, ↓dSetI.eq_1, ↓dDelI.eq_1, ↓dFldS.eq_1, ↓dFldA.eq_1, ↓setAt.eq_1, ↓delAt.eq_1, ↓fldAt.eq_1, ↓dP.eq_1, ↓dPT.eq_1, ↓dPC.eq_1, ↓dPI.eq_1, ↓dXnil.eq_1, ↓dXcons.eq_1, ↓dxOp.eq_1, ↓dxOpL.eq_1, ↓dxUn.eq_1, ↓dxTst.eq_1, ↓truD.eq_1, ↓dxTru.eq_1, ↓dxAndT.eq_1, ↓dxOrT.eq_1, ↓dxNotT.eq_1, ↓dxAndE.eq_1, ↓dxOrE.eq_1, ↓dxNotE.eq_1, ↓dxIfE.eq_1, ↓dxTup.eq_1, ↓dxLst.eq_1, ↓dxCB.eq_1, ↓dxCall.eq_1, ↓dxMethP.eq_1, ↓dxMethV.eq_1, ↓dxMethN.eq_1, ↓dxAppP.eq_1, ↓dxAppV.eq_1, dxAppP.isL, ↓appAt.eq_1, ↓nmPl.eq_1, nmAt, ↓nmArg.eq_1, isOb, ↓dVar.eq_1, ↓dK.eq_1, ↓dOp.eq_1, ↓dUn.eq_1, ↓dNil.eq_1, ↓dCons.eq_1, ↓dCnil.eq_1, ↓dCcons.eq_1, ↓dCall.eq_1, ↓dTupD.eq_1, ↓dLstD.eq_1, ↓dTst.eq_1, ↓dTru.eq_1, ↓dAndT.eq_1, ↓dOrT.eq_1, ↓dNotT.eq_1, ↓dAndE.eq_1, ↓dOrE.eq_1, ↓dNotE.eq_1, ↓dIfE.eq_1, ↓dNewK.eq_1, ↓dFld.eq_1, ↓dYes.eq_1, ↓dIsi.eq_1, dTy, isiB, ↓dI.eq_1, ↓dIC.eq_1, ↓dAdd.eq_1, ↓dEq.eq_1, ↓dNe.eq_1, dIs, ↓dLtI.eq_1, ↓dLt.eq_1, ↓dLtB.eq_1, ↓dSub.eq_1, ↓dMul.eq_1, ↓dFdiv.eq_1, ↓dMod.eq_1, ↓dPow.eq_1, ↓dLe.eq_1, ↓dGt.eq_1, ↓dGe.eq_1, ↓dAddI.eq_1, ↓dNeg.eq_1, ↓dMulA.eq_1, ↓dInA.eq_1, ↓dInD.eq_1, ↓dIn.eq_1, keyIn, ↓dIxA.eq_1, ↓dGetD.eq_1, ↓dIx.eq_1, ↓dSl.eq_1, ↓dOnone.eq_1, ↓dOsome.eq_1, ↓dL1_ap, ↓dL2_ap, ↓dL1Z_ap, ↓fLen_ap, ↓fAbs_ap, ↓fInt_ap, ↓fStr_ap, ↓fMax_ap, ↓fMin_ap, ↓fList_ap, ↓fTup_ap, ↓fLenZ.eq_1, ↓fListZ.eq_1, ↓fSum_ap, ↓fAny_ap, ↓fAll_ap, ↓dpVar.eq_1, ↓dpFld.eq_1, ↓dpaNil.eq_1, ↓dpaP.eq_1, ↓dpaD.eq_1, ↓dPPA.eq_1, ↓dxaNil.eq_1, ↓dxaV.eq_1, ↓dxaD.eq_1, ↓dxaN.eq_1, ↓dgName.eq_1, ↓dgNil.eq_1, ↓dgCons_ap, ↓dgTup_ap, ↓dItems.eq_1, ↓dXItems.eq_1, ↓itemsD.eq_1, Z.own, Z.data, S.data, Z.dicv, S.dicv, Z.items, S.items, Z.mems, S.mems, Z.ownL, Z.dk, S.dk, Z.keep, Z.fin, kindT, keyD, keyT, keysD, keyA, atP, S.at, S.kids, S.wth, SF.pos, SF.get, SF.set, SF.len, SF.labs, SF.app, S.put, putP, repl, kill, killS, backM, ghM, argT, args, lendR, backR, apartAll, npre, apart, S.noT, S.tru, S.live, wipeS, List.getElem?_cons_zero, List.getElem?_cons_succ, List.getElem?_nil, List.set_cons_zero, List.set_cons_succ, List.cons_append, List.nil_append, List.replicate, List.length_cons, List.length_nil, List.map_cons, List.map_nil, List.drop_succ_cons, List.drop_zero, List.all_cons, List.all_nil, List.tail_cons, List.getD, Option.map_some, Option.map_none, Option.isSome_some, Option.isSome_none, Option.some.injEq, Bool.and_true, Bool.true_and, Bool.not_true, Bool.not_false, Bool.false_eq_true, Bool.and_self, Bool.or_false, Bool.false_or, if_true, if_false, ite_true, ite_false, and_true, true_and, true_or, or_true, decide_eq_true_eq, decide_true, decide_false, Bool.not_eq_true', Bool.not_eq_eq_eq_not, decide_not, not_false_eq_true, not_true_eq_false, ↓reduceIte, natlit, atI_lit, ↓dPre.eq_1, ↓fT_nx, ↓fT_rt, ↓fT_ex, Nat.reduceAdd, Int.reduceNeg, ↓eqD_int, ↓eqD_str, ↓eqD_bool, ↓dRng1.eq_1, ↓dRng2.eq_1, inV_ints, inV_strs, inV_int1, inV_str1, inV_nil, flat_ints, flat_strs, flatD, vOf, lookS, lookI, lookP, dropS, dropI, dropP, Nat.sub_self, List.replicate_zero, Option.getD_some, Option.getD_none, reduceCtorEq, List.append_nil, str_lit, sz_0, sz_1, sz_2, sz_3, sz_4, sz_5, sz_6, sz_7, sz_8, sz_9, sz_10, sz_11, sz_12, sz_13, sz_14, sz_15, sz_16, sz_17, sz_18, sz_19, sz_20, sz_21, sz_22, sz_23, sz_24, Nat.reduceSub, Nat.reduceMul, Nat.reduceDiv, Nat.reduceMod, Nat.reduceLT, Nat.reduceLeDiff, Nat.reduceEqDiff, Nat.reduceGT, Nat.reduceBEq, Int.reduceAdd, Int.reduceSub, Int.reduceMul, Int.reduceDiv, Int.reduceMod, Int.reduceLT, Int.reduceLE, Int.reduceEq, Int.reduceNe, Int.reduceGT, Int.reduceGE, Int.reduceToNat, String.reduceEq, String.reduceNe, and_false, false_and, ↓dCallF_eq, ↓dCallK_eq, ↓dxMake_eq, Option.isSome_map, ↓callA_eq, ↓dForS_eq, ↓dWhileS_eq, ↓dLc_eq, ↓dSeq_ap, ↓dTidy_ap, ↓dTidyN_ap, seqE_nx, seqE_rt, seqE_bk, seqE_ct, seqE_ex, tidyE_nx, tidyE_rt, tidyE_bk, tidyE_ct, tidyE_ex, tidyNE_nx, tidyNE_rt, tidyNE_bk, tidyNE_ct, tidyNE_ex, loopE_nx, loopE_rt, loopE_bk, loopE_ct, loopE_ex, ↓fE_nx, ↓fE_rt, ↓exSome, ↓rdS_ap, ↓fSort_ap, goE_nx, goE_rt, goE_bk, goE_ct, goE_ex, decide_eq_false_iff_not, ite_not]
    exact k1
  generalize he : (List.range sz.toNat).map (fun i : Nat => entry ns (1 + (0 + (i : Int)))) = es
  have hes : (List.range sz.toNat).map (fun i : Nat => encE (entry ns (1 + (0 + (i : Int))))) = es.map encE := by rw [← he, List.map_map]; rfl
  have hel : es.length = sz.toNat := by rw [← he, List.length_map, List.length_range]
  have ho : ∀ e ∈ es, OkE e := fun e h => by
    rw [← he] at h
    obtain ⟨i, _, rfl⟩ := List.mem_map.mp h
    exact entry_ok _ _
  rw [hes]
  simp -dsimp -implicitDefEqProofs only [↓dNext.eq_1, ↓dBreak.eq_1, ↓dCont.eq_1, ↓dNever.eq_1, ↓dDrop.eq_1, ↓dRet.eq_1, ↓dRetN.eq_1, ↓dIf.eq_1, ↓dSet.eq_1, ↓dFrz.eq_1, ↓dUnp.eq_1, ↓dRetV.eq_1, ↓dAug.eq_1, ↓dSetI.eq_1, ↓dDelI.eq_1, ↓dFldS.eq_1, ↓dFldA.eq_1, ↓setAt.eq_1, ↓delAt.eq_1, ↓fldAt.eq_1, ↓dP.eq_1, ↓dPT.eq_1, ↓dPC.eq_1, ↓dPI.eq_1, ↓dXnil.eq_1, ↓dXcons.eq_1, ↓dxOp.eq_1, ↓dxOpL.eq_1, ↓dxUn.eq_1, ↓dxTst.eq_1, ↓truD.eq_1, ↓dxTru.eq_1, ↓dxAndT.eq_1, ↓dxOrT.eq_1, ↓dxNotT.eq_1, ↓dxAndE.eq_1, ↓dxOrE.eq_1, ↓dxNotE.eq_1, ↓dxIfE.eq_1, ↓dxTup.eq_1, ↓dxLst.eq_1, ↓dxCB.eq_1, ↓dxCall.eq_1, ↓dxMethP.eq_1, ↓dxMethV.eq_1, ↓dxMethN.eq_1, ↓dxAppP.eq_1, ↓dxAppV.eq_1, dxAppP.isL, ↓appAt.eq_1, ↓nmPl.eq_1, nmAt, ↓nmArg.eq_1, isOb, ↓dVar.eq_1, ↓dK.eq_1, ↓dOp.eq_1, ↓dUn.eq_1, ↓dNil.eq_1, ↓dCons.eq_1, ↓dCnil.eq_1, ↓dCcons.eq_1, ↓dCall.eq_1, ↓dTupD.eq_1, ↓dLstD.eq_1, ↓dTst.eq_1, ↓dTru.eq_1, ↓dAndT.eq_1, ↓dOrT.eq_1, ↓dNotT.eq_1, ↓dAndE.eq_1, ↓dOrE.eq_1, ↓dNotE.eq_1, ↓dIfE.eq_1, ↓dNewK.eq_1, ↓dFld.eq_1, ↓dYes.eq_1, ↓dIsi.eq_1, dTy, isiB, ↓dI.eq_1, ↓dIC.eq_1, ↓dAdd.eq_1, ↓dEq.eq_1, ↓dNe.eq_1, dIs, ↓dLtI.eq_1, ↓dLt.eq_1, ↓dLtB.eq_1, ↓dSub.eq_1, ↓dMul.eq_1, ↓dFdiv.eq_1, ↓dMod.eq_1, ↓dPow.eq_1, ↓dLe.eq_1, ↓dGt.eq_1, ↓dGe.eq_1, ↓dAddI.eq_1, ↓dNeg.eq_1, ↓dMulA.eq_1, ↓dInA.eq_1, ↓dInD.eq_1, ↓dIn.eq_1, keyIn, ↓dIxA.eq_1, ↓dGetD.eq_1, ↓dIx.eq_1, ↓dSl.eq_1, ↓dOnone.eq_1, ↓dOsome.eq_1, ↓dL1_ap, ↓dL2_ap, ↓dL1Z_ap, ↓fLen_ap, ↓fAbs_ap, ↓fInt_ap, ↓fStr_ap, ↓fMax_ap, ↓fMin_ap, ↓fList_ap, ↓fTup_ap, ↓fLenZ.eq_1, ↓fListZ.eq_1, ↓fSum_ap, ↓fAny_ap, ↓fAll_ap, ↓dpVar.eq_1, ↓dpFld.eq_1, ↓dpaNil.eq_1, ↓dpaP.eq_1, ↓dpaD.eq_1, ↓dPPA.eq_1, ↓dxaNil.eq_1, ↓dxaV.eq_1, ↓dxaD.eq_1, ↓dxaN.eq_1, ↓dgName.eq_1, ↓dgNil.eq_1, ↓dgCons_ap, ↓dgTup_ap, ↓dItems.eq_1, ↓dXItems.eq_1, ↓itemsD.eq_1, Z.own, Z.data, S.data, Z.dicv, S.dicv, Z.items, S.items, Z.mems, S.mems, Z.ownL, Z.dk, S.dk, Z.keep, Z.fin, kindT, keyD, keyT, keysD, keyA, atP, S.at, S.kids, S.wth, SF.pos, SF.get, SF.set, SF.len, SF.labs, SF.app, S.put, putP, repl, kill, killS, backM, ghM, argT, args, lendR, backR, apartAll, npre, apart, S.noT, S.tru, S.live, wipeS, List.getElem?_cons_zero, List.getElem?_cons_succ, List.getElem?_nil, List.set_cons_zero, List.set_cons_succ, List.cons_append, List.nil_append, List.replicate, List.length_cons, List.length_nil, List.map_cons, List.map_nil, List.drop_succ_cons, List.drop_zero, List.all_cons, List.all_nil, List.tail_cons, List.getD, Option.map_some, Option.map_none, Option.isSome_some, Option.isSome_none, Option.some.injEq, Bool.and_true, Bool.true_and, Bool.not_true, Bool.not_false, Bool.false_eq_true, Bool.and_self, Bool.or_false, Bool.false_or, if_true, if_false, ite_true, ite_false, and_true, true_and, true_or, or_true, decide_eq_true_eq, decide_true, decide_false, Bool.not_eq_true', Bool.not_eq_eq_eq_not, decide_not, not_false_eq_true, not_true_eq_false, ↓reduceIte, natlit, atI_lit, ↓dPre.eq_1, ↓fT_nx, ↓fT_rt, ↓fT_ex, Nat.reduceAdd, Int.reduceNeg, ↓eqD_int, ↓eqD_str, ↓eqD_bool, ↓dRng1.eq_1, ↓dRng2.eq_1, inV_ints, inV_strs, inV_int1, inV_str1, inV_nil, flat_ints, flat_strs, flatD, vOf, lookS, lookI, lookP, dropS, dropI, dropP, Nat.sub_self, List.replicate_zero, Option.getD_some, Option.getD_none, reduceCtorEq, List.append_nil, str_lit, sz_0, sz_1, sz_2, sz_3, sz_4, sz_5, sz_6, sz_7, sz_8, sz_9, sz_10, sz_11, sz_12, sz_13, sz_14, sz_15, sz_16, sz_17, sz_18, sz_19, sz_20, sz_21, sz_22, sz_23, sz_24, Nat.reduceSub, Nat.reduceMul, Nat.reduceDiv, Nat.reduceMod, Nat.reduceLT, Nat.reduceLeDiff, Nat.reduceEqDiff, Nat.reduceGT, Nat.reduceBEq, Int.reduceAdd, Int.reduceSub, Int.reduceMul, Int.reduceDiv, Int.reduceMod, Int.reduceLT, Int.reduceLE, Int.reduceEq, Int.reduceNe, Int.reduceGT, Int.reduceGE, Int.reduceToNat, String.reduceEq, String.reduceNe, and_false, false_and, ↓dCallF_eq, ↓dCallK_eq, ↓dxMake_eq, Option.isSome_map, ↓callA_eq, ↓dForS_eq, ↓dWhileS_eq, ↓dLc_eq, ↓dSeq_ap, ↓dTidy_ap, ↓dTidyN_ap, seqE_nx, seqE_rt, seqE_bk, seqE_ct, seqE_ex, tidyE_nx, tidyE_rt, tidyE_bk, tidyE_ct, tidyE_ex, tidyNE_nx, tidyNE_rt, tidyNE_bk, tidyNE_ct, tidyNE_ex, loopE_nx, loopE_rt, loopE_bk, loopE_ct, loopE_ex, ↓fE_nx, ↓fE_rt, ↓exSome, ↓rdS_ap, ↓fSort_ap, goE_nx, goE_rt, goE_bk, goE_ct, goE_ex, decide_eq_false_iff_not, ite_not, b_law_L98]
  refine lc_eachS encE encE (by omega) (fun e _ R1 k1 => by simp -dsimp -implicitDefEqProofs only [↓dNext.eq_1, ↓dBreak.eq_1, ↓dCont.eq_1, ↓dNever.eq_1, ↓dDrop.eq_1, ↓dRet.eq_1, ↓dRetN.eq_1, ↓dIf.eq_1, ↓dSet.eq_1, ↓dFrz.eq_1, ↓dUnp.eq_1, ↓dRetV.eq_1, ↓dAug.eq_1, ↓dSetI.eq_1, ↓dDelI.eq_1, ↓dFldS.eq_1, ↓dFldA.eq_1, ↓setAt.eq_1, ↓delAt.eq_1, ↓fldAt.eq_1, ↓dP.eq_1, ↓dPT.eq_1, ↓dPC.eq_1, ↓dPI.eq_1, ↓dXnil.eq_1, ↓dXcons.eq_1, ↓dxOp.eq_1, ↓dxOpL.eq_1, ↓dxUn.eq_1, ↓dxTst.eq_1, ↓truD.eq_1, ↓dxTru.eq_1, ↓dxAndT.eq_1, ↓dxOrT.eq_1, ↓dxNotT.eq_1, ↓dxAndE.eq_1, ↓dxOrE.eq_1, ↓dxNotE.eq_1, ↓dxIfE.eq_1, ↓dxTup.eq_1, ↓dxLst.eq_1, ↓dxCB.eq_1, ↓dxCall.eq_1, ↓dxMethP.eq_1, ↓dxMethV.eq_1, ↓dxMethN.eq_1, ↓dxAppP.eq_1, ↓dxAppV.eq_1, dxAppP.isL, ↓appAt.eq_1, ↓nmPl.eq_1, nmAt, ↓nmArg.eq_1, isOb, ↓dVar.eq_1, ↓dK.eq_1, ↓dOp.eq_1, ↓dUn.eq_1, ↓dNil.eq_1, ↓dCons.eq_1, ↓dCnil.eq_1, ↓dCcons.eq_1, ↓dCall.eq_1, ↓dTupD.eq_1, ↓dLstD.eq_1, ↓dTst.eq_1, ↓dTru.eq_1, ↓dAndT.eq_1, ↓dOrT.eq_1, ↓dNotT.eq_1, ↓dAndE.eq_1, ↓dOrE.eq_1, ↓dNotE.eq_1, ↓dIfE.eq_1, ↓dNewK.eq_1, ↓dFld.eq_1, ↓dYes.eq_1, ↓dIsi.eq_1, dTy, isiB, ↓dI.eq_1, ↓dIC.eq_1, ↓dAdd.eq_1, ↓dEq.eq_1, ↓dNe.eq_1, dIs, ↓dLtI.eq_1, ↓dLt.eq_1, ↓dLtB.eq_1, ↓dSub.eq_1, ↓dMul.eq_1, ↓dFdiv.eq_1, ↓dMod.eq_1, ↓dPow.eq_1, ↓dLe.eq_1, ↓dGt.eq_1, ↓dGe.eq_1, ↓dAddI.eq_1, ↓dNeg.eq_1, ↓dMulA.eq_1, ↓dInA.eq_1, ↓dInD.eq_1, ↓dIn.eq_1, keyIn, ↓dIxA.eq_1, ↓dGetD.eq_1, ↓dIx.eq_1, ↓dSl.eq_1, ↓dOnone.eq_1, ↓dOsome.eq_1, ↓dL1_ap, ↓dL2_ap, ↓dL1Z_ap, ↓fLen_ap, ↓fAbs_ap, ↓fInt_ap, ↓fStr_ap, ↓fMax_ap, ↓fMin_ap, ↓fList_ap, ↓fTup_ap, ↓fLenZ.eq_1, ↓fListZ.eq_1, ↓fSum_ap, ↓fAny_ap, ↓fAll_ap, ↓dpVar.eq_1, ↓dpFld.eq_1, ↓dpaNil.eq_1, ↓dpaP.eq_1, ↓dpaD.eq_1, ↓dPPA.eq_1, ↓dxaNil.eq_1, ↓dxaV.eq_1, ↓dxaD.eq_1, ↓dxaN.eq_1, ↓dgName.eq_1, ↓dgNil.eq_1, ↓dgCons_ap, ↓dgTup_ap, ↓dItems.eq_1, ↓dXItems.eq_1, ↓itemsD.eq_1, Z.own, Z.data, S.data, Z.dicv, S.dicv, Z.items, S.items, Z.mems, S.mems, Z.ownL, Z.dk, S.dk, Z.keep, Z.fin, kindT, keyD, keyT, keysD, keyA, atP, S.at, S.kids, S.wth, SF.pos, SF.get, SF.set, SF.len, SF.labs, SF.app, S.put, putP, repl, kill, killS, backM, ghM, argT, args, lendR, backR, apartAll, npre, apart, S.noT, S.tru, S.live, wipeS, List.getElem?_cons_zero, List.getElem?_cons_succ, List.getElem?_nil, List.set_cons_zero, List.set_cons_succ, List.cons_append, List.nil_append, List.replicate, List.length_cons, List.length_nil, List.map_cons, List.map_nil, List.drop_succ_cons, List.drop_zero, List.all_cons, List.all_nil, List.tail_cons, List.getD, Option.map_some, Option.map_none, Option.isSome_some, Option.isSome_none, Option.some.injEq, Bool.and_true, Bool.true_and, Bool.not_true, Bool.not_false, Bool.false_eq_true, Bool.and_self, Bool.or_false, Bool.false_or, if_true, if_false, ite_true, ite_false, and_true, true_and, true_or, or_true, decide_eq_true_eq, decide_true, decide_false, Bool.not_eq_true', Bool.not_eq_eq_eq_not, decide_not, not_false_eq_true, not_true_eq_false, ↓reduceIte, natlit, atI_lit, ↓dPre.eq_1, ↓fT_nx, ↓fT_rt, ↓fT_ex, Nat.reduceAdd, Int.reduceNeg, ↓eqD_int, ↓eqD_str, ↓eqD_bool, ↓dRng1.eq_1, ↓dRng2.eq_1, inV_ints, inV_strs, inV_int1, inV_str1, inV_nil, flat_ints, flat_strs, flatD, vOf, lookS, lookI, lookP, dropS, dropI, dropP, Nat.sub_self, List.replicate_zero, Option.getD_some, Option.getD_none, reduceCtorEq, List.append_nil, str_lit, sz_0, sz_1, sz_2, sz_3, sz_4, sz_5, sz_6, sz_7, sz_8, sz_9, sz_10, sz_11, sz_12, sz_13, sz_14, sz_15, sz_16, sz_17, sz_18, sz_19, sz_20, sz_21, sz_22, sz_23, sz_24, Nat.reduceSub, Nat.reduceMul, Nat.reduceDiv, Nat.reduceMod, Nat.reduceLT, Nat.reduceLeDiff, Nat.reduceEqDiff, Nat.reduceGT, Nat.reduceBEq, Int.reduceAdd, Int.reduceSub, Int.reduceMul, Int.reduceDiv, Int.reduceMod, Int.reduceLT, Int.reduceLE, Int.reduceEq, Int.reduceNe, Int.reduceGT, Int.reduceGE, Int.reduceToNat, String.reduceEq, String.reduceNe, and_false, false_and, ↓dCallF_eq, ↓dCallK_eq, ↓dxMake_eq, Option.isSome_map, ↓callA_eq, ↓dForS_eq, ↓dWhileS_eq, ↓dLc_eq, ↓dSeq_ap, ↓dTidy_ap, ↓dTidyN_ap, seqE_nx, seqE_rt, seqE_bk, seqE_ct, seqE_ex, tidyE_nx, tidyE_rt, tidyE_bk, tidyE_ct, tidyE_ex, tidyNE_nx, tidyNE_rt, tidyNE_bk, tidyNE_ct, tidyNE_ex, loopE_nx, loopE_rt, loopE_bk, loopE_ct, loopE_ex, ↓fE_nx, ↓fE_rt, ↓exSome, ↓rdS_ap, ↓fSort_ap, goE_nx, goE_rt, goE_bk, goE_ct, goE_ex, decide_eq_false_iff_not, ite_not]; exact k1) ?_
  simp -dsimp -implicitDefEqProofs only [↓dNext.eq_1, ↓dBreak.eq_1, ↓dCont.eq_1, ↓dNever.eq_1, ↓dDrop.eq_1, ↓dRet.eq_1, ↓dRetN.eq_1, ↓dIf.eq_1, ↓dSet.eq_1, ↓dFrz.eq_1, ↓dUnp.eq_1, ↓dRetV.eq_1, ↓dAug.eq_1, ↓dSetI.eq_1, ↓dDelI.eq_1, ↓dFldS.eq_1, ↓dFldA.eq_1, ↓setAt.eq_1, ↓delAt.eq_1, ↓fldAt.eq_1, ↓dP.eq_1, ↓dPT.eq_1, ↓dPC.eq_1, ↓dPI.eq_1, ↓dXnil.eq_1, ↓dXcons.eq_1, ↓dxOp.eq_1, ↓dxOpL.eq_1, ↓dxUn.eq_1, ↓dxTst.eq_1, ↓truD.eq_1, ↓dxTru.eq_1, ↓dxAndT.eq_1, ↓dxOrT.eq_1, ↓dxNotT.eq_1, ↓dxAndE.eq_1, ↓dxOrE.eq_1, ↓dxNotE.eq_1, ↓dxIfE.eq_1, ↓dxTup.eq_1, ↓dxLst.eq_1, ↓dxCB.eq_1, ↓dxCall.eq_1, ↓dxMethP.eq_1, ↓dxMethV.eq_1, ↓dxMethN.eq_1, ↓dxAppP.eq_1, ↓dxAppV.eq_1, dxAppP.isL, ↓appAt.eq_1, ↓nmPl.eq_1, nmAt, ↓nmArg.eq_1, isOb, ↓dVar.eq_1, ↓dK.eq_1, ↓dOp.eq_1, ↓dUn.eq_1, ↓dNil.eq_1, ↓dCons.eq_1, ↓dCnil.eq_1, ↓dCcons.eq_1, ↓dCall.eq_1, ↓dTupD.eq_1, ↓dLstD.eq_1, ↓dTst.eq_1, ↓dTru.eq_1, ↓dAndT.eq_1, ↓dOrT.eq_1, ↓dNotT.eq_1, ↓dAndE.eq_1, ↓dOrE.eq_1, ↓dNotE.eq_1, ↓dIfE.eq_1, ↓dNewK.eq_1, ↓dFld.eq_1, ↓dYes.eq_1, ↓dIsi.eq_1, dTy, isiB, ↓dI.eq_1, ↓dIC.eq_1, ↓dAdd.eq_1, ↓dEq.eq_1, ↓dNe.eq_1, dIs, ↓dLtI.eq_1, ↓dLt.eq_1, ↓dLtB.eq_1, ↓dSub.eq_1, ↓dMul.eq_1, ↓dFdiv.eq_1, ↓dMod.eq_1, ↓dPow.eq_1, ↓dLe.eq_1, ↓dGt.eq_1, ↓dGe.eq_1, ↓dAddI.eq_1, ↓dNeg.eq_1, ↓dMulA.eq_1, ↓dInA.eq_1, ↓dInD.eq_1, ↓dIn.eq_1, keyIn, ↓dIxA.eq_1, ↓dGetD.eq_1, ↓dIx.eq_1, ↓dSl.eq_1, ↓dOnone.eq_1, ↓dOsome.eq_1, ↓dL1_ap, ↓dL2_ap, ↓dL1Z_ap, ↓fLen_ap, ↓fAbs_ap, ↓fInt_ap, ↓fStr_ap, ↓fMax_ap, ↓fMin_ap, ↓fList_ap, ↓fTup_ap, ↓fLenZ.eq_1, ↓fListZ.eq_1, ↓fSum_ap, ↓fAny_ap, ↓fAll_ap, ↓dpVar.eq_1, ↓dpFld.eq_1, ↓dpaNil.eq_1, ↓dpaP.eq_1, ↓dpaD.eq_1, ↓dPPA.eq_1, ↓dxaNil.eq_1, ↓dxaV.eq_1, ↓dxaD.eq_1, ↓dxaN.eq_1, ↓dgName.eq_1, ↓dgNil.eq_1, ↓dgCons_ap, ↓dgTup_ap, ↓dItems.eq_1, ↓dXItems.eq_1, ↓itemsD.eq_1, Z.own, Z.data, S.data, Z.dicv, S.dicv, Z.items, S.items, Z.mems, S.mems, Z.ownL, Z.dk, S.dk, Z.keep, Z.fin, kindT, keyD, keyT, keysD, keyA, atP, S.at, S.kids, S.wth, SF.pos, SF.get, SF.set, SF.len, SF.labs, SF.app, S.put, putP, repl, kill, killS, backM, ghM, argT, args, lendR, backR, apartAll, npre, apart, S.noT, S.tru, S.live, wipeS, List.getElem?_cons_zero, List.getElem?_cons_succ, List.getElem?_nil, List.set_cons_zero, List.set_cons_succ, List.cons_append, List.nil_append, List.replicate, List.length_cons, List.length_nil, List.map_cons, List.map_nil, List.drop_succ_cons, List.drop_zero, List.all_cons, List.all_nil, List.tail_cons, List.getD, Option.map_some, Option.map_none, Option.isSome_some, Option.isSome_none, Option.some.injEq, Bool.and_true, Bool.true_and, Bool.not_true, Bool.not_false, Bool.false_eq_true, Bool.and_self, Bool.or_false, Bool.false_or, if_true, if_false, ite_true, ite_false, and_true, true_and, true_or, or_true, decide_eq_true_eq, decide_true, decide_false, Bool.not_eq_true', Bool.not_eq_eq_eq_not, decide_not, not_false_eq_true, not_true_eq_false, ↓reduceIte, natlit, atI_lit, ↓dPre.eq_1, ↓fT_nx, ↓fT_rt, ↓fT_ex, Nat.reduceAdd, Int.reduceNeg, ↓eqD_int, ↓eqD_str, ↓eqD_bool, ↓dRng1.eq_1, ↓dRng2.eq_1, inV_ints, inV_strs, inV_int1, inV_str1, inV_nil, flat_ints, flat_strs, flatD, vOf, lookS, lookI, lookP, dropS, dropI, dropP, Nat.sub_self, List.replicate_zero, Option.getD_some, Option.getD_none, reduceCtorEq, List.append_nil, str_lit, sz_0, sz_1, sz_2, sz_3, sz_4, sz_5, sz_6, sz_7, sz_8, sz_9, sz_10, sz_11, sz_12, sz_13, sz_14, sz_15, sz_16, sz_17, sz_18, sz_19, sz_20, sz_21, sz_22, sz_23, sz_24, Nat.reduceSub, Nat.reduceMul, Nat.reduceDiv, Nat.reduceMod, Nat.reduceLT, Nat.reduceLeDiff, Nat.reduceEqDiff, Nat.reduceGT, Nat.reduceBEq, Int.reduceAdd, Int.reduceSub, Int.reduceMul, Int.reduceDiv, Int.reduceMod, Int.reduceLT, Int.reduceLE, Int.reduceEq, Int.reduceNe, Int.reduceGT, Int.reduceGE, Int.reduceToNat, String.reduceEq, String.reduceNe, and_false, false_and, ↓dCallF_eq, ↓dCallK_eq, ↓dxMake_eq, Option.isSome_map, ↓callA_eq, ↓dForS_eq, ↓dWhileS_eq, ↓dLc_eq, ↓dSeq_ap, ↓dTidy_ap, ↓dTidyN_ap, seqE_nx, seqE_rt, seqE_bk, seqE_ct, seqE_ex, tidyE_nx, tidyE_rt, tidyE_bk, tidyE_ct, tidyE_ex, tidyNE_nx, tidyNE_rt, tidyNE_bk, tidyNE_ct, tidyNE_ex, loopE_nx, loopE_rt, loopE_bk, loopE_ct, loopE_ex, ↓fE_nx, ↓fE_rt, ↓exSome, ↓rdS_ap, ↓fSort_ap, goE_nx, goE_rt, goE_bk, goE_ct, goE_ex, decide_eq_false_iff_not, ite_not, b_law_L99]
  refine makeS_of (by repeat' (first | exact True.intro | rfl | (refine ⟨?_, ?_⟩))) (cl_Runs___init__ ?_)
  simp -dsimp -implicitDefEqProofs only [↓dNext.eq_1, ↓dBreak.eq_1, ↓dCont.eq_1, ↓dNever.eq_1, ↓dDrop.eq_1, ↓dRet.eq_1, ↓dRetN.eq_1, ↓dIf.eq_1, ↓dSet.eq_1, ↓dFrz.eq_1, ↓dUnp.eq_1, ↓dRetV.eq_1, ↓dAug.eq_1, ↓dSetI.eq_1, ↓dDelI.eq_1, ↓dFldS.eq_1, ↓dFldA.eq_1, ↓setAt.eq_1, ↓delAt.eq_1, ↓fldAt.eq_1, ↓dP.eq_1, ↓dPT.eq_1, ↓dPC.eq_1, ↓dPI.eq_1, ↓dXnil.eq_1, ↓dXcons.eq_1, ↓dxOp.eq_1, ↓dxOpL.eq_1, ↓dxUn.eq_1, ↓dxTst.eq_1, ↓truD.eq_1, ↓dxTru.eq_1, ↓dxAndT.eq_1, ↓dxOrT.eq_1, ↓dxNotT.eq_1, ↓dxAndE.eq_1, ↓dxOrE.eq_1, ↓dxNotE.eq_1, ↓dxIfE.eq_1, ↓dxTup.eq_1, ↓dxLst.eq_1, ↓dxCB.eq_1, ↓dxCall.eq_1, ↓dxMethP.eq_1, ↓dxMethV.eq_1, ↓dxMethN.eq_1, ↓dxAppP.eq_1, ↓dxAppV.eq_1, dxAppP.isL, ↓appAt.eq_1, ↓nmPl.eq_1, nmAt, ↓nmArg.eq_1, isOb, ↓dVar.eq_1, ↓dK.eq_1, ↓dOp.eq_1, ↓dUn.eq_1, ↓dNil.eq_1, ↓dCons.eq_1, ↓dCnil.eq_1, ↓dCcons.eq_1, ↓dCall.eq_1, ↓dTupD.eq_1, ↓dLstD.eq_1, ↓dTst.eq_1, ↓dTru.eq_1, ↓dAndT.eq_1, ↓dOrT.eq_1, ↓dNotT.eq_1, ↓dAndE.eq_1, ↓dOrE.eq_1, ↓dNotE.eq_1, ↓dIfE.eq_1, ↓dNewK.eq_1, ↓dFld.eq_1, ↓dYes.eq_1, ↓dIsi.eq_1, dTy, isiB, ↓dI.eq_1, ↓dIC.eq_1, ↓dAdd.eq_1, ↓dEq.eq_1, ↓dNe.eq_1, dIs, ↓dLtI.eq_1, ↓dLt.eq_1, ↓dLtB.eq_1, ↓dSub.eq_1, ↓dMul.eq_1, ↓dFdiv.eq_1, ↓dMod.eq_1, ↓dPow.eq_1, ↓dLe.eq_1, ↓dGt.eq_1, ↓dGe.eq_1, ↓dAddI.eq_1, ↓dNeg.eq_1, ↓dMulA.eq_1, ↓dInA.eq_1, ↓dInD.eq_1, ↓dIn.eq_1, keyIn, ↓dIxA.eq_1, ↓dGetD.eq_1, ↓dIx.eq_1, ↓dSl.eq_1, ↓dOnone.eq_1, ↓dOsome.eq_1, ↓dL1_ap, ↓dL2_ap, ↓dL1Z_ap, ↓fLen_ap, ↓fAbs_ap, ↓fInt_ap, ↓fStr_ap, ↓fMax_ap, ↓fMin_ap, ↓fList_ap, ↓fTup_ap, ↓fLenZ.eq_1, ↓fListZ.eq_1, ↓fSum_ap, ↓fAny_ap, ↓fAll_ap, ↓dpVar.eq_1, ↓dpFld.eq_1, ↓dpaNil.eq_1, ↓dpaP.eq_1, ↓dpaD.eq_1, ↓dPPA.eq_1, ↓dxaNil.eq_1, ↓dxaV.eq_1, ↓dxaD.eq_1, ↓dxaN.eq_1, ↓dgName.eq_1, ↓dgNil.eq_1, ↓dgCons_ap, ↓dgTup_ap, ↓dItems.eq_1, ↓dXItems.eq_1, ↓itemsD.eq_1, Z.own, Z.data, S.data, Z.dicv, S.dicv, Z.items, S.items, Z.mems, S.mems, Z.ownL, Z.dk, S.dk, Z.keep, Z.fin, kindT, keyD, keyT, keysD, keyA, atP, S.at, S.kids, S.wth, SF.pos, SF.get, SF.set, SF.len, SF.labs, SF.app, S.put, putP, repl, kill, killS, backM, ghM, argT, args, lendR, backR, apartAll, npre, apart, S.noT, S.tru, S.live, wipeS, List.getElem?_cons_zero, List.getElem?_cons_succ, List.getElem?_nil, List.set_cons_zero, List.set_cons_succ, List.cons_append, List.nil_append, List.replicate, List.length_cons, List.length_nil, List.map_cons, List.map_nil, List.drop_succ_cons, List.drop_zero, List.all_cons, List.all_nil, List.tail_cons, List.getD, Option.map_some, Option.map_none, Option.isSome_some, Option.isSome_none, Option.some.injEq, Bool.and_true, Bool.true_and, Bool.not_true, Bool.not_false, Bool.false_eq_true, Bool.and_self, Bool.or_false, Bool.false_or, if_true, if_false, ite_true, ite_false, and_true, true_and, true_or, or_true, decide_eq_true_eq, decide_true, decide_false, Bool.not_eq_true', Bool.not_eq_eq_eq_not, decide_not, not_false_eq_true, not_true_eq_false, ↓reduceIte, natlit, atI_lit, ↓dPre.eq_1, ↓fT_nx, ↓fT_rt, ↓fT_ex, Nat.reduceAdd, Int.reduceNeg, ↓eqD_int, ↓eqD_str, ↓eqD_bool, ↓dRng1.eq_1, ↓dRng2.eq_1, inV_ints, inV_strs, inV_int1, inV_str1, inV_nil, flat_ints, flat_strs, flatD, vOf, lookS, lookI, lookP, dropS, dropI, dropP, Nat.sub_self, List.replicate_zero, Option.getD_some, Option.getD_none, reduceCtorEq, List.append_nil, str_lit, sz_0, sz_1, sz_2, sz_3, sz_4, sz_5, sz_6, sz_7, sz_8, sz_9, sz_10, sz_11, sz_12, sz_13, sz_14, sz_15, sz_16, sz_17, sz_18, sz_19, sz_20, sz_21, sz_22, sz_23, sz_24, Nat.reduceSub, Nat.reduceMul, Nat.reduceDiv, Nat.reduceMod, Nat.reduceLT, Nat.reduceLeDiff, Nat.reduceEqDiff, Nat.reduceGT, Nat.reduceBEq, Int.reduceAdd, Int.reduceSub, Int.reduceMul, Int.reduceDiv, Int.reduceMod, Int.reduceLT, Int.reduceLE, Int.reduceEq, Int.reduceNe, Int.reduceGT, Int.reduceGE, Int.reduceToNat, String.reduceEq, String.reduceNe, and_false, false_and, ↓dCallF_eq, ↓dCallK_eq, ↓dxMake_eq, Option.isSome_map, ↓callA_eq, ↓dForS_eq, ↓dWhileS_eq, ↓dLc_eq, ↓dSeq_ap, ↓dTidy_ap, ↓dTidyN_ap, seqE_nx, seqE_rt, seqE_bk, seqE_ct, seqE_ex, tidyE_nx, tidyE_rt, tidyE_bk, tidyE_ct, tidyE_ex, tidyNE_nx, tidyNE_rt, tidyNE_bk, tidyNE_ct, tidyNE_ex, loopE_nx, loopE_rt, loopE_bk, loopE_ct, loopE_ex, ↓fE_nx, ↓fE_rt, ↓exSome, ↓rdS_ap, ↓fSort_ap, goE_nx, goE_rt, goE_bk, goE_ct, goE_ex, decide_eq_false_iff_not, ite_not, b_law_L100, b_law_L101, b_law_L102]
  refine ⟨⟨by omega, by omega⟩, ?_⟩
  refine for_up (σ := List (Str × Int) × List Int × List Str) (fun a => SL ns sz es .no a.1 a.2.1 a.2.2 .no .no) (fun i a => (a.1.length ≤ i ∧ ∀ p ∈ a.1, p.2 ≠ 0 ∧ PyData.strOk p.1 = true) ∧ a.2.1.length ≤ i ∧ a.2.2.length ≤ i) ([], [], []) rfl ⟨⟨Nat.le_refl _, fun _ h => nomatch h⟩, Nat.le_refl _, Nat.le_refl _⟩ ?_ ?_
  · rintro i ⟨xs, cs, hs⟩ hi ⟨⟨p1, p2⟩, p3, p4⟩ N hN
    have hil : i < es.length := by omega
    have he : atI (es.map encE) (0 + (i : Int)) = some (encE es[i]) := by
      rw [Int.zero_add]
      refine atI_nat ?_
      rw [List.getElem?_map, List.getElem?_eq_getElem hil]
      rfl
    simp -dsimp -implicitDefEqProofs only [↓dNext.eq_1, ↓dBreak.eq_1, ↓dCont.eq_1, ↓dNever.eq_1, ↓dDrop.eq_1, ↓dRet.eq_1, ↓dRetN.eq_1, ↓dIf.eq_1, ↓dSet.eq_1, ↓dFrz.eq_1, ↓dUnp.eq_1, ↓dRetV.eq_1, ↓dAug.eq_1, ↓dSetI.eq_1, ↓dDelI.eq_1, ↓dFldS.eq_1, ↓dFldA.eq_1, ↓setAt.eq_1, ↓delAt.eq_1, ↓fldAt.eq_1, ↓dP.eq_1, ↓dPT.eq_1, ↓dPC.eq_1, ↓dPI.eq_1, ↓dXnil.eq_1, ↓dXcons.eq_1, ↓dxOp.eq_1, ↓dxOpL.eq_1, ↓dxUn.eq_1, ↓dxTst.eq_1, ↓truD.eq_1, ↓dxTru.eq_1, ↓dxAndT.eq_1, ↓dxOrT.eq_1, ↓dxNotT.eq_1, ↓dxAndE.eq_1, ↓dxOrE.eq_1, ↓dxNotE.eq_1, ↓dxIfE.eq_1, ↓dxTup.eq_1, ↓dxLst.eq_1, ↓dxCB.eq_1, ↓dxCall.eq_1, ↓dxMethP.eq_1, ↓dxMethV.eq_1, ↓dxMethN.eq_1, ↓dxAppP.eq_1, ↓dxAppV.eq_1, dxAppP.isL, ↓appAt.eq_1, ↓nmPl.eq_1, nmAt, ↓nmArg.eq_1, isOb, ↓dVar.eq_1, ↓dK.eq_1, ↓dOp.eq_1, ↓dUn.eq_1, ↓dNil.eq_1, ↓dCons.eq_1, ↓dCnil.eq_1, ↓dCcons.eq_1, ↓dCall.eq_1, ↓dTupD.eq_1, ↓dLstD.eq_1, ↓dTst.eq_1, ↓dTru.eq_1, ↓dAndT.eq_1, ↓dOrT.eq_1, ↓dNotT.eq_1, ↓dAndE.eq_1, ↓dOrE.eq_1, ↓dNotE.eq_1, ↓dIfE.eq_1, ↓dNewK.eq_1, ↓dFld.eq_1, ↓dYes.eq_1, ↓dIsi.eq_1, dTy, isiB, ↓dI.eq_1, ↓dIC.eq_1, ↓dAdd.eq_1, ↓dEq.eq_1, ↓dNe.eq_1, dIs, ↓dLtI.eq_1, ↓dLt.eq_1, ↓dLtB.eq_1, ↓dSub.eq_1, ↓dMul.eq_1, ↓dFdiv.eq_1, ↓dMod.eq_1, ↓dPow.eq_1, ↓dLe.eq_1, ↓dGt.eq_1, ↓dGe.eq_1, ↓dAddI.eq_1, ↓dNeg.eq_1, ↓dMulA.eq_1, ↓dInA.eq_1, ↓dInD.eq_1, ↓dIn.eq_1, keyIn, ↓dIxA.eq_1, ↓dGetD.eq_1, ↓dIx.eq_1, ↓dSl.eq_1, ↓dOnone.eq_1, ↓dOsome.eq_1, ↓dL1_ap, ↓dL2_ap, ↓dL1Z_ap, ↓fLen_ap, ↓fAbs_ap, ↓fInt_ap, ↓fStr_ap, ↓fMax_ap, ↓fMin_ap, ↓fList_ap, ↓fTup_ap, ↓fLenZ.eq_1, ↓fListZ.eq_1, ↓fSum_ap, ↓fAny_ap, ↓fAll_ap, ↓dpVar.eq_1, ↓dpFld.eq_1, ↓dpaNil.eq_1, ↓dpaP.eq_1, ↓dpaD.eq_1, ↓dPPA.eq_1, ↓dxaNil.eq_1, ↓dxaV.eq_1, ↓dxaD.eq_1, ↓dxaN.eq_1, ↓dgName.eq_1, ↓dgNil.eq_1, ↓dgCons_ap, ↓dgTup_ap, ↓dItems.eq_1, ↓dXItems.eq_1, ↓itemsD.eq_1, Z.own, Z.data, S.data, Z.dicv, S.dicv, Z.items, S.items, Z.mems, S.mems, Z.ownL, Z.dk, S.dk, Z.keep, Z.fin, kindT, keyD, keyT, keysD, keyA, atP, S.at, S.kids, S.wth, SF.pos, SF.get, SF.set, SF.len, SF.labs, SF.app, S.put, putP, repl, kill, killS, backM, ghM, argT, args, lendR, backR, apartAll, npre, apart, S.noT, S.tru, S.live, wipeS, List.getElem?_cons_zero, List.getElem?_cons_succ, List.getElem?_nil, List.set_cons_zero, List.set_cons_succ, List.cons_append, List.nil_append, List.replicate, List.length_cons, List.length_nil, List.map_cons, List.map_nil, List.drop_succ_cons, List.drop_zero, List.all_cons, List.all_nil, List.tail_cons, List.getD, Option.map_some, Option.map_none, Option.isSome_some, Option.isSome_none, Option.some.injEq, Bool.and_true, Bool.true_and, Bool.not_true, Bool.not_false, Bool.false_eq_true, Bool.and_self, Bool.or_false, Bool.false_or, if_true, if_false, ite_true, ite_false, and_true, true_and, true_or, or_true, decide_eq_true_eq, decide_true, decide_false, Bool.not_eq_true', Bool.not_eq_eq_eq_not, decide_not, not_false_eq_true, not_true_eq_false, ↓reduceIte, natlit, atI_lit, ↓dPre.eq_1, ↓fT_nx, ↓fT_rt, ↓fT_ex, Nat.reduceAdd, Int.reduceNeg, ↓eqD_int, ↓eqD_str, ↓eqD_bool, ↓dRng1.eq_1, ↓dRng2.eq_1, inV_ints, inV_strs, inV_int1, inV_str1, inV_nil, flat_ints, flat_strs, flatD, vOf, lookS, lookI, lookP, dropS, dropI, dropP, Nat.sub_self, List.replicate_zero, Option.getD_some, Option.getD_none, reduceCtorEq, List.append_nil, str_lit, sz_0, sz_1, sz_2, sz_3, sz_4, sz_5, sz_6, sz_7, sz_8, sz_9, sz_10, sz_11, sz_12, sz_13, sz_14, sz_15, sz_16, sz_17, sz_18, sz_19, sz_20, sz_21, sz_22, sz_23, sz_24, Nat.reduceSub, Nat.reduceMul, Nat.reduceDiv, Nat.reduceMod, Nat.reduceLT, Nat.reduceLeDiff, Nat.reduceEqDiff, Nat.reduceGT, Nat.reduceBEq, Int.reduceAdd, Int.reduceSub, Int.reduceMul, Int.reduceDiv, Int.reduceMod, Int.reduceLT, Int.reduceLE, Int.reduceEq, Int.reduceNe, Int.reduceGT, Int.reduceGE, Int.reduceToNat, String.reduceEq, String.reduceNe, and_false, false_and, ↓dCallF_eq, ↓dCallK_eq, ↓dxMake_eq, Option.isSome_map, ↓callA_eq, ↓dForS_eq, ↓dWhileS_eq, ↓dLc_eq, ↓dSeq_ap, ↓dTidy_ap, ↓dTidyN_ap, seqE_nx, seqE_rt, seqE_bk, seqE_ct, seqE_ex, tidyE_nx, tidyE_rt, tidyE_bk, tidyE_ct, tidyE_ex, tidyNE_nx, tidyNE_rt, tidyNE_bk, tidyNE_ct, tidyNE_ex, loopE_nx, loopE_rt, loopE_bk, loopE_ct, loopE_ex, ↓fE_nx, ↓fE_rt, ↓exSome, ↓rdS_ap, ↓fSort_ap, goE_nx, goE_rt, goE_bk, goE_ct, goE_ex, decide_eq_false_iff_not, ite_not, b_law_B102]
    refine callF_of (cl__law_digits (sz := [4, 4, 4]) ⟨by omega, by omega⟩ (by decide) (by decide) ?_)
    simp -dsimp -implicitDefEqProofs only [↓dNext.eq_1, ↓dBreak.eq_1, ↓dCont.eq_1, ↓dNever.eq_1, ↓dDrop.eq_1, ↓dRet.eq_1, ↓dRetN.eq_1, ↓dIf.eq_1, ↓dSet.eq_1, ↓dFrz.eq_1, ↓dUnp.eq_1, ↓dRetV.eq_1, ↓dAug.eq_1, ↓dSetI.eq_1, ↓dDelI.eq_1, ↓dFldS.eq_1, ↓dFldA.eq_1, ↓setAt.eq_1, ↓delAt.eq_1, ↓fldAt.eq_1, ↓dP.eq_1, ↓dPT.eq_1, ↓dPC.eq_1, ↓dPI.eq_1, ↓dXnil.eq_1, ↓dXcons.eq_1, ↓dxOp.eq_1, ↓dxOpL.eq_1, ↓dxUn.eq_1, ↓dxTst.eq_1, ↓truD.eq_1, ↓dxTru.eq_1, ↓dxAndT.eq_1, ↓dxOrT.eq_1, ↓dxNotT.eq_1, ↓dxAndE.eq_1, ↓dxOrE.eq_1, ↓dxNotE.eq_1, ↓dxIfE.eq_1, ↓dxTup.eq_1, ↓dxLst.eq_1, ↓dxCB.eq_1, ↓dxCall.eq_1, ↓dxMethP.eq_1, ↓dxMethV.eq_1, ↓dxMethN.eq_1, ↓dxAppP.eq_1, ↓dxAppV.eq_1, dxAppP.isL, ↓appAt.eq_1, ↓nmPl.eq_1, nmAt, ↓nmArg.eq_1, isOb, ↓dVar.eq_1, ↓dK.eq_1, ↓dOp.eq_1, ↓dUn.eq_1, ↓dNil.eq_1, ↓dCons.eq_1, ↓dCnil.eq_1, ↓dCcons.eq_1, ↓dCall.eq_1, ↓dTupD.eq_1, ↓dLstD.eq_1, ↓dTst.eq_1, ↓dTru.eq_1, ↓dAndT.eq_1, ↓dOrT.eq_1, ↓dNotT.eq_1, ↓dAndE.eq_1, ↓dOrE.eq_1, ↓dNotE.eq_1, ↓dIfE.eq_1, ↓dNewK.eq_1, ↓dFld.eq_1, ↓dYes.eq_1, ↓dIsi.eq_1, dTy, isiB, ↓dI.eq_1, ↓dIC.eq_1, ↓dAdd.eq_1, ↓dEq.eq_1, ↓dNe.eq_1, dIs, ↓dLtI.eq_1, ↓dLt.eq_1, ↓dLtB.eq_1, ↓dSub.eq_1, ↓dMul.eq_1, ↓dFdiv.eq_1, ↓dMod.eq_1, ↓dPow.eq_1, ↓dLe.eq_1, ↓dGt.eq_1, ↓dGe.eq_1, ↓dAddI.eq_1, ↓dNeg.eq_1, ↓dMulA.eq_1, ↓dInA.eq_1, ↓dInD.eq_1, ↓dIn.eq_1, keyIn, ↓dIxA.eq_1, ↓dGetD.eq_1, ↓dIx.eq_1, ↓dSl.eq_1, ↓dOnone.eq_1, ↓dOsome.eq_1, ↓dL1_ap, ↓dL2_ap, ↓dL1Z_ap, ↓fLen_ap, ↓fAbs_ap, ↓fInt_ap, ↓fStr_ap, ↓fMax_ap, ↓fMin_ap, ↓fList_ap, ↓fTup_ap, ↓fLenZ.eq_1, ↓fListZ.eq_1, ↓fSum_ap, ↓fAny_ap, ↓fAll_ap, ↓dpVar.eq_1, ↓dpFld.eq_1, ↓dpaNil.eq_1, ↓dpaP.eq_1, ↓dpaD.eq_1, ↓dPPA.eq_1, ↓dxaNil.eq_1, ↓dxaV.eq_1, ↓dxaD.eq_1, ↓dxaN.eq_1, ↓dgName.eq_1, ↓dgNil.eq_1, ↓dgCons_ap, ↓dgTup_ap, ↓dItems.eq_1, ↓dXItems.eq_1, ↓itemsD.eq_1, Z.own, Z.data, S.data, Z.dicv, S.dicv, Z.items, S.items, Z.mems, S.mems, Z.ownL, Z.dk, S.dk, Z.keep, Z.fin, kindT, keyD, keyT, keysD, keyA, atP, S.at, S.kids, S.wth, SF.pos, SF.get, SF.set, SF.len, SF.labs, SF.app, S.put, putP, repl, kill, killS, backM, ghM, argT, args, lendR, backR, apartAll, npre, apart, S.noT, S.tru, S.live, wipeS, List.getElem?_cons_zero, List.getElem?_cons_succ, List.getElem?_nil, List.set_cons_zero, List.set_cons_succ, List.cons_append, List.nil_append, List.replicate, List.length_cons, List.length_nil, List.map_cons, List.map_nil, List.drop_succ_cons, List.drop_zero, List.all_cons, List.all_nil, List.tail_cons, List.getD, Option.map_some, Option.map_none, Option.isSome_some, Option.isSome_none, Option.some.injEq, Bool.and_true, Bool.true_and, Bool.not_true, Bool.not_false, Bool.false_eq_true, Bool.and_self, Bool.or_false, Bool.false_or, if_true, if_false, ite_true, ite_false, and_true, true_and, true_or, or_true, decide_eq_true_eq, decide_true, decide_false, Bool.not_eq_true', Bool.not_eq_eq_eq_not, decide_not, not_false_eq_true, not_true_eq_false, ↓reduceIte, natlit, atI_lit, ↓dPre.eq_1, ↓fT_nx, ↓fT_rt, ↓fT_ex, Nat.reduceAdd, Int.reduceNeg, ↓eqD_int, ↓eqD_str, ↓eqD_bool, ↓dRng1.eq_1, ↓dRng2.eq_1, inV_ints, inV_strs, inV_int1, inV_str1, inV_nil, flat_ints, flat_strs, flatD, vOf, lookS, lookI, lookP, dropS, dropI, dropP, Nat.sub_self, List.replicate_zero, Option.getD_some, Option.getD_none, reduceCtorEq, List.append_nil, str_lit, sz_0, sz_1, sz_2, sz_3, sz_4, sz_5, sz_6, sz_7, sz_8, sz_9, sz_10, sz_11, sz_12, sz_13, sz_14, sz_15, sz_16, sz_17, sz_18, sz_19, sz_20, sz_21, sz_22, sz_23, sz_24, Nat.reduceSub, Nat.reduceMul, Nat.reduceDiv, Nat.reduceMod, Nat.reduceLT, Nat.reduceLeDiff, Nat.reduceEqDiff, Nat.reduceGT, Nat.reduceBEq, Int.reduceAdd, Int.reduceSub, Int.reduceMul, Int.reduceDiv, Int.reduceMod, Int.reduceLT, Int.reduceLE, Int.reduceEq, Int.reduceNe, Int.reduceGT, Int.reduceGE, Int.reduceToNat, String.reduceEq, String.reduceNe, and_false, false_and, ↓dCallF_eq, ↓dCallK_eq, ↓dxMake_eq, Option.isSome_map, ↓callA_eq, ↓dForS_eq, ↓dWhileS_eq, ↓dLc_eq, ↓dSeq_ap, ↓dTidy_ap, ↓dTidyN_ap, seqE_nx, seqE_rt, seqE_bk, seqE_ct, seqE_ex, tidyE_nx, tidyE_rt, tidyE_bk, tidyE_ct, tidyE_ex, tidyNE_nx, tidyNE_rt, tidyNE_bk, tidyNE_ct, tidyNE_ex, loopE_nx, loopE_rt, loopE_bk, loopE_ct, loopE_ex, ↓fE_nx, ↓fE_rt, ↓exSome, ↓rdS_ap, ↓fSort_ap, goE_nx, goE_rt, goE_bk, goE_ct, goE_ex, decide_eq_false_iff_not, ite_not, digs]
    have p1' : xs.length ≤ i := p1
    have p3' : cs.length ≤ i := p3
    have p4' : hs.length ≤ i := p4
    refine l9 (ho _ (List.getElem_mem hil)) he (by omega) (by omega) (by omega) fun xs' cs' hs' a b c => ?_
    simp -dsimp -implicitDefEqProofs only [↓dNext.eq_1, ↓dBreak.eq_1, ↓dCont.eq_1, ↓dNever.eq_1, ↓dDrop.eq_1, ↓dRet.eq_1, ↓dRetN.eq_1, ↓dIf.eq_1, ↓dSet.eq_1, ↓dFrz.eq_1, ↓dUnp.eq_1, ↓dRetV.eq_1, ↓dAug.eq_1, ↓dSetI.eq_1, ↓dDelI.eq_1, ↓dFldS.eq_1, ↓dFldA.eq_1, ↓setAt.eq_1, ↓delAt.eq_1, ↓fldAt.eq_1, ↓dP.eq_1, ↓dPT.eq_1, ↓dPC.eq_1, ↓dPI.eq_1, ↓dXnil.eq_1, ↓dXcons.eq_1, ↓dxOp.eq_1, ↓dxOpL.eq_1, ↓dxUn.eq_1, ↓dxTst.eq_1, ↓truD.eq_1, ↓dxTru.eq_1, ↓dxAndT.eq_1, ↓dxOrT.eq_1, ↓dxNotT.eq_1, ↓dxAndE.eq_1, ↓dxOrE.eq_1, ↓dxNotE.eq_1, ↓dxIfE.eq_1, ↓dxTup.eq_1, ↓dxLst.eq_1, ↓dxCB.eq_1, ↓dxCall.eq_1, ↓dxMethP.eq_1, ↓dxMethV.eq_1, ↓dxMethN.eq_1, ↓dxAppP.eq_1, ↓dxAppV.eq_1, dxAppP.isL, ↓appAt.eq_1, ↓nmPl.eq_1, nmAt, ↓nmArg.eq_1, isOb, ↓dVar.eq_1, ↓dK.eq_1, ↓dOp.eq_1, ↓dUn.eq_1, ↓dNil.eq_1, ↓dCons.eq_1, ↓dCnil.eq_1, ↓dCcons.eq_1, ↓dCall.eq_1, ↓dTupD.eq_1, ↓dLstD.eq_1, ↓dTst.eq_1, ↓dTru.eq_1, ↓dAndT.eq_1, ↓dOrT.eq_1, ↓dNotT.eq_1, ↓dAndE.eq_1, ↓dOrE.eq_1, ↓dNotE.eq_1, ↓dIfE.eq_1, ↓dNewK.eq_1, ↓dFld.eq_1, ↓dYes.eq_1, ↓dIsi.eq_1, dTy, isiB, ↓dI.eq_1, ↓dIC.eq_1, ↓dAdd.eq_1, ↓dEq.eq_1, ↓dNe.eq_1, dIs, ↓dLtI.eq_1, ↓dLt.eq_1, ↓dLtB.eq_1, ↓dSub.eq_1, ↓dMul.eq_1, ↓dFdiv.eq_1, ↓dMod.eq_1, ↓dPow.eq_1, ↓dLe.eq_1, ↓dGt.eq_1, ↓dGe.eq_1, ↓dAddI.eq_1, ↓dNeg.eq_1, ↓dMulA.eq_1, ↓dInA.eq_1, ↓dInD.eq_1, ↓dIn.eq_1, keyIn, ↓dIxA.eq_1, ↓dGetD.eq_1, ↓dIx.eq_1, ↓dSl.eq_1, ↓dOnone.eq_1, ↓dOsome.eq_1, ↓dL1_ap, ↓dL2_ap, ↓dL1Z_ap, ↓fLen_ap, ↓fAbs_ap, ↓fInt_ap, ↓fStr_ap, ↓fMax_ap, ↓fMin_ap, ↓fList_ap, ↓fTup_ap, ↓fLenZ.eq_1, ↓fListZ.eq_1, ↓fSum_ap, ↓fAny_ap, ↓fAll_ap, ↓dpVar.eq_1, ↓dpFld.eq_1, ↓dpaNil.eq_1, ↓dpaP.eq_1, ↓dpaD.eq_1, ↓dPPA.eq_1, ↓dxaNil.eq_1, ↓dxaV.eq_1, ↓dxaD.eq_1, ↓dxaN.eq_1, ↓dgName.eq_1, ↓dgNil.eq_1, ↓dgCons_ap, ↓dgTup_ap, ↓dItems.eq_1, ↓dXItems.eq_1, ↓itemsD.eq_1, Z.own, Z.data, S.data, Z.dicv, S.dicv, Z.items, S.items, Z.mems, S.mems, Z.ownL, Z.dk, S.dk, Z.keep, Z.fin, kindT, keyD, keyT, keysD, keyA, atP, S.at, S.kids, S.wth, SF.pos, SF.get, SF.set, SF.len, SF.labs, SF.app, S.put, putP, repl, kill, killS, backM, ghM, argT, args, lendR, backR, apartAll, npre, apart, S.noT, S.tru, S.live, wipeS, List.getElem?_cons_zero, List.getElem?_cons_succ, List.getElem?_nil, List.set_cons_zero, List.set_cons_succ, List.cons_append, List.nil_append, List.replicate, List.length_cons, List.length_nil, List.map_cons, List.map_nil, List.drop_succ_cons, List.drop_zero, List.all_cons, List.all_nil, List.tail_cons, List.getD, Option.map_some, Option.map_none, Option.isSome_some, Option.isSome_none, Option.some.injEq, Bool.and_true, Bool.true_and, Bool.not_true, Bool.not_false, Bool.false_eq_true, Bool.and_self, Bool.or_false, Bool.false_or, if_true, if_false, ite_true, ite_false, and_true, true_and, true_or, or_true, decide_eq_true_eq, decide_true, decide_false, Bool.not_eq_true', Bool.not_eq_eq_eq_not, decide_not, not_false_eq_true, not_true_eq_false, ↓reduceIte, natlit, atI_lit, ↓dPre.eq_1, ↓fT_nx, ↓fT_rt, ↓fT_ex, Nat.reduceAdd, Int.reduceNeg, ↓eqD_int, ↓eqD_str, ↓eqD_bool, ↓dRng1.eq_1, ↓dRng2.eq_1, inV_ints, inV_strs, inV_int1, inV_str1, inV_nil, flat_ints, flat_strs, flatD, vOf, lookS, lookI, lookP, dropS, dropI, dropP, Nat.sub_self, List.replicate_zero, Option.getD_some, Option.getD_none, reduceCtorEq, List.append_nil, str_lit, sz_0, sz_1, sz_2, sz_3, sz_4, sz_5, sz_6, sz_7, sz_8, sz_9, sz_10, sz_11, sz_12, sz_13, sz_14, sz_15, sz_16, sz_17, sz_18, sz_19, sz_20, sz_21, sz_22, sz_23, sz_24, Nat.reduceSub, Nat.reduceMul, Nat.reduceDiv, Nat.reduceMod, Nat.reduceLT, Nat.reduceLeDiff, Nat.reduceEqDiff, Nat.reduceGT, Nat.reduceBEq, Int.reduceAdd, Int.reduceSub, Int.reduceMul, Int.reduceDiv, Int.reduceMod, Int.reduceLT, Int.reduceLE, Int.reduceEq, Int.reduceNe, Int.reduceGT, Int.reduceGE, Int.reduceToNat, String.reduceEq, String.reduceNe, and_false, false_and, ↓dCallF_eq, ↓dCallK_eq, ↓dxMake_eq, Option.isSome_map, ↓callA_eq, ↓dForS_eq, ↓dWhileS_eq, ↓dLc_eq, ↓dSeq_ap, ↓dTidy_ap, ↓dTidyN_ap, seqE_nx, seqE_rt, seqE_bk, seqE_ct, seqE_ex, tidyE_nx, tidyE_rt, tidyE_bk, tidyE_ct, tidyE_ex, tidyNE_nx, tidyNE_rt, tidyNE_bk, tidyNE_ct, tidyNE_ex, loopE_nx, loopE_rt, loopE_bk, loopE_ct, loopE_ex, ↓fE_nx, ↓fE_rt, ↓exSome, ↓rdS_ap, ↓fSort_ap, goE_nx, goE_rt, goE_bk, goE_ct, goE_ex, decide_eq_false_iff_not, ite_not]
    exact hN (xs', cs', hs') ⟨⟨by show xs'.length ≤ _; omega, a.2 p2⟩, by show cs'.length ≤ _; omega, by show hs'.length ≤ _; omega⟩
  rintro ⟨xs, cs, hs⟩ ⟨⟨p1, p2⟩, p3, p4⟩
  have p1' : xs.length ≤ sz.toNat := p1
  have hx : xs.length < 64 := by omega
  simp -dsimp -implicitDefEqProofs only [↓dNext.eq_1, ↓dBreak.eq_1, ↓dCont.eq_1, ↓dNever.eq_1, ↓dDrop.eq_1, ↓dRet.eq_1, ↓dRetN.eq_1, ↓dIf.eq_1, ↓dSet.eq_1, ↓dFrz.eq_1, ↓dUnp.eq_1, ↓dRetV.eq_1, ↓dAug.eq_1, ↓dSetI.eq_1, ↓dDelI.eq_1, ↓dFldS.eq_1, ↓dFldA.eq_1, ↓setAt.eq_1, ↓delAt.eq_1, ↓fldAt.eq_1, ↓dP.eq_1, ↓dPT.eq_1, ↓dPC.eq_1, ↓dPI.eq_1, ↓dXnil.eq_1, ↓dXcons.eq_1, ↓dxOp.eq_1, ↓dxOpL.eq_1, ↓dxUn.eq_1, ↓dxTst.eq_1, ↓truD.eq_1, ↓dxTru.eq_1, ↓dxAndT.eq_1, ↓dxOrT.eq_1, ↓dxNotT.eq_1, ↓dxAndE.eq_1, ↓dxOrE.eq_1, ↓dxNotE.eq_1, ↓dxIfE.eq_1, ↓dxTup.eq_1, ↓dxLst.eq_1, ↓dxCB.eq_1, ↓dxCall.eq_1, ↓dxMethP.eq_1, ↓dxMethV.eq_1, ↓dxMethN.eq_1, ↓dxAppP.eq_1, ↓dxAppV.eq_1, dxAppP.isL, ↓appAt.eq_1, ↓nmPl.eq_1, nmAt, ↓nmArg.eq_1, isOb, ↓dVar.eq_1, ↓dK.eq_1, ↓dOp.eq_1, ↓dUn.eq_1, ↓dNil.eq_1, ↓dCons.eq_1, ↓dCnil.eq_1, ↓dCcons.eq_1, ↓dCall.eq_1, ↓dTupD.eq_1, ↓dLstD.eq_1, ↓dTst.eq_1, ↓dTru.eq_1, ↓dAndT.eq_1, ↓dOrT.eq_1, ↓dNotT.eq_1, ↓dAndE.eq_1, ↓dOrE.eq_1, ↓dNotE.eq_1, ↓dIfE.eq_1, ↓dNewK.eq_1, ↓dFld.eq_1, ↓dYes.eq_1, ↓dIsi.eq_1, dTy, isiB, ↓dI.eq_1, ↓dIC.eq_1, ↓dAdd.eq_1, ↓dEq.eq_1, ↓dNe.eq_1, dIs, ↓dLtI.eq_1, ↓dLt.eq_1, ↓dLtB.eq_1, ↓dSub.eq_1, ↓dMul.eq_1, ↓dFdiv.eq_1, ↓dMod.eq_1, ↓dPow.eq_1, ↓dLe.eq_1, ↓dGt.eq_1, ↓dGe.eq_1, ↓dAddI.eq_1, ↓dNeg.eq_1, ↓dMulA.eq_1, ↓dInA.eq_1, ↓dInD.eq_1, ↓dIn.eq_1, keyIn, ↓dIxA.eq_1, ↓dGetD.eq_1, ↓dIx.eq_1, ↓dSl.eq_1, ↓dOnone.eq_1, ↓dOsome.eq_1, ↓dL1_ap, ↓dL2_ap, ↓dL1Z_ap, ↓fLen_ap, ↓fAbs_ap, ↓fInt_ap, ↓fStr_ap, ↓fMax_ap, ↓fMin_ap, ↓fList_ap, ↓fTup_ap, ↓fLenZ.eq_1, ↓fListZ.eq_1, ↓fSum_ap, ↓fAny_ap, ↓fAll_ap, ↓dpVar.eq_1, ↓dpFld.eq_1, ↓dpaNil.eq_1, ↓dpaP.eq_1, ↓dpaD.eq_1, ↓dPPA.eq_1, ↓dxaNil.eq_1, ↓dxaV.eq_1, ↓dxaD.eq_1, ↓dxaN.eq_1, ↓dgName.eq_1, ↓dgNil.eq_1, ↓dgCons_ap, ↓dgTup_ap, ↓dItems.eq_1, ↓dXItems.eq_1, ↓itemsD.eq_1, Z.own, Z.data, S.data, Z.dicv, S.dicv, Z.items, S.items, Z.mems, S.mems, Z.ownL, Z.dk, S.dk, Z.keep, Z.fin, kindT, keyD, keyT, keysD, keyA, atP, S.at, S.kids, S.wth, SF.pos, SF.get, SF.set, SF.len, SF.labs, SF.app, S.put, putP, repl, kill, killS, backM, ghM, argT, args, lendR, backR, apartAll, npre, apart, S.noT, S.tru, S.live, wipeS, List.getElem?_cons_zero, List.getElem?_cons_succ, List.getElem?_nil, List.set_cons_zero, List.set_cons_succ, List.cons_append, List.nil_append, List.replicate, List.length_cons, List.length_nil, List.map_cons, List.map_nil, List.drop_succ_cons, List.drop_zero, List.all_cons, List.all_nil, List.tail_cons, List.getD, Option.map_some, Option.map_none, Option.isSome_some, Option.isSome_none, Option.some.injEq, Bool.and_true, Bool.true_and, Bool.not_true, Bool.not_false, Bool.false_eq_true, Bool.and_self, Bool.or_false, Bool.false_or, if_true, if_false, ite_true, ite_false, and_true, true_and, true_or, or_true, decide_eq_true_eq, decide_true, decide_false, Bool.not_eq_true', Bool.not_eq_eq_eq_not, decide_not, not_false_eq_true, not_true_eq_false, ↓reduceIte, natlit, atI_lit, ↓dPre.eq_1, ↓fT_nx, ↓fT_rt, ↓fT_ex, Nat.reduceAdd, Int.reduceNeg, ↓eqD_int, ↓eqD_str, ↓eqD_bool, ↓dRng1.eq_1, ↓dRng2.eq_1, inV_ints, inV_strs, inV_int1, inV_str1, inV_nil, flat_ints, flat_strs, flatD, vOf, lookS, lookI, lookP, dropS, dropI, dropP, Nat.sub_self, List.replicate_zero, Option.getD_some, Option.getD_none, reduceCtorEq, List.append_nil, str_lit, sz_0, sz_1, sz_2, sz_3, sz_4, sz_5, sz_6, sz_7, sz_8, sz_9, sz_10, sz_11, sz_12, sz_13, sz_14, sz_15, sz_16, sz_17, sz_18, sz_19, sz_20, sz_21, sz_22, sz_23, sz_24, Nat.reduceSub, Nat.reduceMul, Nat.reduceDiv, Nat.reduceMod, Nat.reduceLT, Nat.reduceLeDiff, Nat.reduceEqDiff, Nat.reduceGT, Nat.reduceBEq, Int.reduceAdd, Int.reduceSub, Int.reduceMul, Int.reduceDiv, Int.reduceMod, Int.reduceLT, Int.reduceLE, Int.reduceEq, Int.reduceNe, Int.reduceGT, Int.reduceGE, Int.reduceToNat, String.reduceEq, String.reduceNe, and_false, false_and, ↓dCallF_eq, ↓dCallK_eq, ↓dxMake_eq, Option.isSome_map, ↓callA_eq, ↓dForS_eq, ↓dWhileS_eq, ↓dLc_eq, ↓dSeq_ap, ↓dTidy_ap, ↓dTidyN_ap, seqE_nx, seqE_rt, seqE_bk, seqE_ct, seqE_ex, tidyE_nx, tidyE_rt, tidyE_bk, tidyE_ct, tidyE_ex, tidyNE_nx, tidyNE_rt, tidyNE_bk, tidyNE_ct, tidyNE_ex, loopE_nx, loopE_rt, loopE_bk, loopE_ct, loopE_ex, ↓fE_nx, ↓fE_rt, ↓exSome, ↓rdS_ap, ↓fSort_ap, goE_nx, goE_rt, goE_bk, goE_ct, goE_ex, decide_eq_false_iff_not, ite_not, b_law_L110]
  refine callS_of (by repeat' (first | exact True.intro | rfl | (refine ⟨?_, ?_⟩))) (cl_Runs_slots hx ?_)
  simp -dsimp -implicitDefEqProofs only [↓dNext.eq_1, ↓dBreak.eq_1, ↓dCont.eq_1, ↓dNever.eq_1, ↓dDrop.eq_1, ↓dRet.eq_1, ↓dRetN.eq_1, ↓dIf.eq_1, ↓dSet.eq_1, ↓dFrz.eq_1, ↓dUnp.eq_1, ↓dRetV.eq_1, ↓dAug.eq_1, ↓dSetI.eq_1, ↓dDelI.eq_1, ↓dFldS.eq_1, ↓dFldA.eq_1, ↓setAt.eq_1, ↓delAt.eq_1, ↓fldAt.eq_1, ↓dP.eq_1, ↓dPT.eq_1, ↓dPC.eq_1, ↓dPI.eq_1, ↓dXnil.eq_1, ↓dXcons.eq_1, ↓dxOp.eq_1, ↓dxOpL.eq_1, ↓dxUn.eq_1, ↓dxTst.eq_1, ↓truD.eq_1, ↓dxTru.eq_1, ↓dxAndT.eq_1, ↓dxOrT.eq_1, ↓dxNotT.eq_1, ↓dxAndE.eq_1, ↓dxOrE.eq_1, ↓dxNotE.eq_1, ↓dxIfE.eq_1, ↓dxTup.eq_1, ↓dxLst.eq_1, ↓dxCB.eq_1, ↓dxCall.eq_1, ↓dxMethP.eq_1, ↓dxMethV.eq_1, ↓dxMethN.eq_1, ↓dxAppP.eq_1, ↓dxAppV.eq_1, dxAppP.isL, ↓appAt.eq_1, ↓nmPl.eq_1, nmAt, ↓nmArg.eq_1, isOb, ↓dVar.eq_1, ↓dK.eq_1, ↓dOp.eq_1, ↓dUn.eq_1, ↓dNil.eq_1, ↓dCons.eq_1, ↓dCnil.eq_1, ↓dCcons.eq_1, ↓dCall.eq_1, ↓dTupD.eq_1, ↓dLstD.eq_1, ↓dTst.eq_1, ↓dTru.eq_1, ↓dAndT.eq_1, ↓dOrT.eq_1, ↓dNotT.eq_1, ↓dAndE.eq_1, ↓dOrE.eq_1, ↓dNotE.eq_1, ↓dIfE.eq_1, ↓dNewK.eq_1, ↓dFld.eq_1, ↓dYes.eq_1, ↓dIsi.eq_1, dTy, isiB, ↓dI.eq_1, ↓dIC.eq_1, ↓dAdd.eq_1, ↓dEq.eq_1, ↓dNe.eq_1, dIs, ↓dLtI.eq_1, ↓dLt.eq_1, ↓dLtB.eq_1, ↓dSub.eq_1, ↓dMul.eq_1, ↓dFdiv.eq_1, ↓dMod.eq_1, ↓dPow.eq_1, ↓dLe.eq_1, ↓dGt.eq_1, ↓dGe.eq_1, ↓dAddI.eq_1, ↓dNeg.eq_1, ↓dMulA.eq_1, ↓dInA.eq_1, ↓dInD.eq_1, ↓dIn.eq_1, keyIn, ↓dIxA.eq_1, ↓dGetD.eq_1, ↓dIx.eq_1, ↓dSl.eq_1, ↓dOnone.eq_1, ↓dOsome.eq_1, ↓dL1_ap, ↓dL2_ap, ↓dL1Z_ap, ↓fLen_ap, ↓fAbs_ap, ↓fInt_ap, ↓fStr_ap, ↓fMax_ap, ↓fMin_ap, ↓fList_ap, ↓fTup_ap, ↓fLenZ.eq_1, ↓fListZ.eq_1, ↓fSum_ap, ↓fAny_ap, ↓fAll_ap, ↓dpVar.eq_1, ↓dpFld.eq_1, ↓dpaNil.eq_1, ↓dpaP.eq_1, ↓dpaD.eq_1, ↓dPPA.eq_1, ↓dxaNil.eq_1, ↓dxaV.eq_1, ↓dxaD.eq_1, ↓dxaN.eq_1, ↓dgName.eq_1, ↓dgNil.eq_1, ↓dgCons_ap, ↓dgTup_ap, ↓dItems.eq_1, ↓dXItems.eq_1, ↓itemsD.eq_1, Z.own, Z.data, S.data, Z.dicv, S.dicv, Z.items, S.items, Z.mems, S.mems, Z.ownL, Z.dk, S.dk, Z.keep, Z.fin, kindT, keyD, keyT, keysD, keyA, atP, S.at, S.kids, S.wth, SF.pos, SF.get, SF.set, SF.len, SF.labs, SF.app, S.put, putP, repl, kill, killS, backM, ghM, argT, args, lendR, backR, apartAll, npre, apart, S.noT, S.tru, S.live, wipeS, List.getElem?_cons_zero, List.getElem?_cons_succ, List.getElem?_nil, List.set_cons_zero, List.set_cons_succ, List.cons_append, List.nil_append, List.replicate, List.length_cons, List.length_nil, List.map_cons, List.map_nil, List.drop_succ_cons, List.drop_zero, List.all_cons, List.all_nil, List.tail_cons, List.getD, Option.map_some, Option.map_none, Option.isSome_some, Option.isSome_none, Option.some.injEq, Bool.and_true, Bool.true_and, Bool.not_true, Bool.not_false, Bool.false_eq_true, Bool.and_self, Bool.or_false, Bool.false_or, if_true, if_false, ite_true, ite_false, and_true, true_and, true_or, or_true, decide_eq_true_eq, decide_true, decide_false, Bool.not_eq_true', Bool.not_eq_eq_eq_not, decide_not, not_false_eq_true, not_true_eq_false, ↓reduceIte, natlit, atI_lit, ↓dPre.eq_1, ↓fT_nx, ↓fT_rt, ↓fT_ex, Nat.reduceAdd, Int.reduceNeg, ↓eqD_int, ↓eqD_str, ↓eqD_bool, ↓dRng1.eq_1, ↓dRng2.eq_1, inV_ints, inV_strs, inV_int1, inV_str1, inV_nil, flat_ints, flat_strs, flatD, vOf, lookS, lookI, lookP, dropS, dropI, dropP, Nat.sub_self, List.replicate_zero, Option.getD_some, Option.getD_none, reduceCtorEq, List.append_nil, str_lit, sz_0, sz_1, sz_2, sz_3, sz_4, sz_5, sz_6, sz_7, sz_8, sz_9, sz_10, sz_11, sz_12, sz_13, sz_14, sz_15, sz_16, sz_17, sz_18, sz_19, sz_20, sz_21, sz_22, sz_23, sz_24, Nat.reduceSub, Nat.reduceMul, Nat.reduceDiv, Nat.reduceMod, Nat.reduceLT, Nat.reduceLeDiff, Nat.reduceEqDiff, Nat.reduceGT, Nat.reduceBEq, Int.reduceAdd, Int.reduceSub, Int.reduceMul, Int.reduceDiv, Int.reduceMod, Int.reduceLT, Int.reduceLE, Int.reduceEq, Int.reduceNe, Int.reduceGT, Int.reduceGE, Int.reduceToNat, String.reduceEq, String.reduceNe, and_false, false_and, ↓dCallF_eq, ↓dCallK_eq, ↓dxMake_eq, Option.isSome_map, ↓callA_eq, ↓dForS_eq, ↓dWhileS_eq, ↓dLc_eq, ↓dSeq_ap, ↓dTidy_ap, ↓dTidyN_ap, seqE_nx, seqE_rt, seqE_bk, seqE_ct, seqE_ex, tidyE_nx, tidyE_rt, tidyE_bk, tidyE_ct, tidyE_ex, tidyNE_nx, tidyNE_rt, tidyNE_bk, tidyNE_ct, tidyNE_ex, loopE_nx, loopE_rt, loopE_bk, loopE_ct, loopE_ex, ↓fE_nx, ↓fE_rt, ↓exSome, ↓rdS_ap, ↓fSort_ap, goE_nx, goE_rt, goE_bk, goE_ct, goE_ex, decide_eq_false_iff_not, ite_not, b_law_L111]
  refine for_const PyData.str ["w1", "w2", "w10", "w"] (fun node _ N hN => ?_) ?_
  · simp -dsimp -implicitDefEqProofs only [↓dNext.eq_1, ↓dBreak.eq_1, ↓dCont.eq_1, ↓dNever.eq_1, ↓dDrop.eq_1, ↓dRet.eq_1, ↓dRetN.eq_1, ↓dIf.eq_1, ↓dSet.eq_1, ↓dFrz.eq_1, ↓dUnp.eq_1, ↓dRetV.eq_1, ↓dAug.eq_1, ↓dSetI.eq_1, ↓dDelI.eq_1, ↓dFldS.eq_1, ↓dFldA.eq_1, ↓setAt.eq_1, ↓delAt.eq_1, ↓fldAt.eq_1, ↓dP.eq_1, ↓dPT.eq_1, ↓dPC.eq_1, ↓dPI.eq_1, ↓dXnil.eq_1, ↓dXcons.eq_1, ↓dxOp.eq_1, ↓dxOpL.eq_1, ↓dxUn.eq_1, ↓dxTst.eq_1, ↓truD.eq_1, ↓dxTru.eq_1, ↓dxAndT.eq_1, ↓dxOrT.eq_1, ↓dxNotT.eq_1, ↓dxAndE.eq_1, ↓dxOrE.eq_1, ↓dxNotE.eq_1, ↓dxIfE.eq_1, ↓dxTup.eq_1, ↓dxLst.eq_1, ↓dxCB.eq_1, ↓dxCall.eq_1, ↓dxMethP.eq_1, ↓dxMethV.eq_1, ↓dxMethN.eq_1, ↓dxAppP.eq_1, ↓dxAppV.eq_1, dxAppP.isL, ↓appAt.eq_1, ↓nmPl.eq_1, nmAt, ↓nmArg.eq_1, isOb, ↓dVar.eq_1, ↓dK.eq_1, ↓dOp.eq_1, ↓dUn.eq_1, ↓dNil.eq_1, ↓dCons.eq_1, ↓dCnil.eq_1, ↓dCcons.eq_1, ↓dCall.eq_1, ↓dTupD.eq_1, ↓dLstD.eq_1, ↓dTst.eq_1, ↓dTru.eq_1, ↓dAndT.eq_1, ↓dOrT.eq_1, ↓dNotT.eq_1, ↓dAndE.eq_1, ↓dOrE.eq_1, ↓dNotE.eq_1, ↓dIfE.eq_1, ↓dNewK.eq_1, ↓dFld.eq_1, ↓dYes.eq_1, ↓dIsi.eq_1, dTy, isiB, ↓dI.eq_1, ↓dIC.eq_1, ↓dAdd.eq_1, ↓dEq.eq_1, ↓dNe.eq_1, dIs, ↓dLtI.eq_1, ↓dLt.eq_1, ↓dLtB.eq_1, ↓dSub.eq_1, ↓dMul.eq_1, ↓dFdiv.eq_1, ↓dMod.eq_1, ↓dPow.eq_1, ↓dLe.eq_1, ↓dGt.eq_1, ↓dGe.eq_1, ↓dAddI.eq_1, ↓dNeg.eq_1, ↓dMulA.eq_1, ↓dInA.eq_1, ↓dInD.eq_1, ↓dIn.eq_1, keyIn, ↓dIxA.eq_1, ↓dGetD.eq_1, ↓dIx.eq_1, ↓dSl.eq_1, ↓dOnone.eq_1, ↓dOsome.eq_1, ↓dL1_ap, ↓dL2_ap, ↓dL1Z_ap, ↓fLen_ap, ↓fAbs_ap, ↓fInt_ap, ↓fStr_ap, ↓fMax_ap, ↓fMin_ap, ↓fList_ap, ↓fTup_ap, ↓fLenZ.eq_1, ↓fListZ.eq_1, ↓fSum_ap, ↓fAny_ap, ↓fAll_ap, ↓dpVar.eq_1, ↓dpFld.eq_1, ↓dpaNil.eq_1, ↓dpaP.eq_1, ↓dpaD.eq_1, ↓dPPA.eq_1, ↓dxaNil.eq_1, ↓dxaV.eq_1, ↓dxaD.eq_1, ↓dxaN.eq_1, ↓dgName.eq_1, ↓dgNil.eq_1, ↓dgCons_ap, ↓dgTup_ap, ↓dItems.eq_1, ↓dXItems.eq_1, ↓itemsD.eq_1, Z.own, Z.data, S.data, Z.dicv, S.dicv, Z.items, S.items, Z.mems, S.mems, Z.ownL, Z.dk, S.dk, Z.keep, Z.fin, kindT, keyD, keyT, keysD, keyA, atP, S.at, S.kids, S.wth, SF.pos, SF.get, SF.set, SF.len, SF.labs, SF.app, S.put, putP, repl, kill, killS, backM, ghM, argT, args, lendR, backR, apartAll, npre, apart, S.noT, S.tru, S.live, wipeS, List.getElem?_cons_zero, List.getElem?_cons_succ, List.getElem?_nil, List.set_cons_zero, List.set_cons_succ, List.cons_append, List.nil_append, List.replicate, List.length_cons, List.length_nil, List.map_cons, List.map_nil, List.drop_succ_cons, List.drop_zero, List.all_cons, List.all_nil, List.tail_cons, List.getD, Option.map_some, Option.map_none, Option.isSome_some, Option.isSome_none, Option.some.injEq, Bool.and_true, Bool.true_and, Bool.not_true, Bool.not_false, Bool.false_eq_true, Bool.and_self, Bool.or_false, Bool.false_or, if_true, if_false, ite_true, ite_false, and_true, true_and, true_or, or_true, decide_eq_true_eq, decide_true, decide_false, Bool.not_eq_true', Bool.not_eq_eq_eq_not, decide_not, not_false_eq_true, not_true_eq_false, ↓reduceIte, natlit, atI_lit, ↓dPre.eq_1, ↓fT_nx, ↓fT_rt, ↓fT_ex, Nat.reduceAdd, Int.reduceNeg, ↓eqD_int, ↓eqD_str, ↓eqD_bool, ↓dRng1.eq_1, ↓dRng2.eq_1, inV_ints, inV_strs, inV_int1, inV_str1, inV_nil, flat_ints, flat_strs, flatD, vOf, lookS, lookI, lookP, dropS, dropI, dropP, Nat.sub_self, List.replicate_zero, Option.getD_some, Option.getD_none, reduceCtorEq, List.append_nil, str_lit, sz_0, sz_1, sz_2, sz_3, sz_4, sz_5, sz_6, sz_7, sz_8, sz_9, sz_10, sz_11, sz_12, sz_13, sz_14, sz_15, sz_16, sz_17, sz_18, sz_19, sz_20, sz_21, sz_22, sz_23, sz_24, Nat.reduceSub, Nat.reduceMul, Nat.reduceDiv, Nat.reduceMod, Nat.reduceLT, Nat.reduceLeDiff, Nat.reduceEqDiff, Nat.reduceGT, Nat.reduceBEq, Int.reduceAdd, Int.reduceSub, Int.reduceMul, Int.reduceDiv, Int.reduceMod, Int.reduceLT, Int.reduceLE, Int.reduceEq, Int.reduceNe, Int.reduceGT, Int.reduceGE, Int.reduceToNat, String.reduceEq, String.reduceNe, and_false, false_and, ↓dCallF_eq, ↓dCallK_eq, ↓dxMake_eq, Option.isSome_map, ↓callA_eq, ↓dForS_eq, ↓dWhileS_eq, ↓dLc_eq, ↓dSeq_ap, ↓dTidy_ap, ↓dTidyN_ap, seqE_nx, seqE_rt, seqE_bk, seqE_ct, seqE_ex, tidyE_nx, tidyE_rt, tidyE_bk, tidyE_ct, tidyE_ex, tidyNE_nx, tidyNE_rt, tidyNE_bk, tidyNE_ct, tidyNE_ex, loopE_nx, loopE_rt, loopE_bk, loopE_ct, loopE_ex, ↓fE_nx, ↓fE_rt, ↓exSome, ↓rdS_ap, ↓fSort_ap, goE_nx, goE_rt, goE_bk, goE_ct, goE_ex, decide_eq_false_iff_not, ite_not, b_law_B111]
    refine for_const PyData.int [1, 2, 3] (fun life _ M hM => ?_) ?_
    · simp -dsimp -implicitDefEqProofs only [↓dNext.eq_1, ↓dBreak.eq_1, ↓dCont.eq_1, ↓dNever.eq_1, ↓dDrop.eq_1, ↓dRet.eq_1, ↓dRetN.eq_1, ↓dIf.eq_1, ↓dSet.eq_1, ↓dFrz.eq_1, ↓dUnp.eq_1, ↓dRetV.eq_1, ↓dAug.eq_1, ↓dSetI.eq_1, ↓dDelI.eq_1, ↓dFldS.eq_1, ↓dFldA.eq_1, ↓setAt.eq_1, ↓delAt.eq_1, ↓fldAt.eq_1, ↓dP.eq_1, ↓dPT.eq_1, ↓dPC.eq_1, ↓dPI.eq_1, ↓dXnil.eq_1, ↓dXcons.eq_1, ↓dxOp.eq_1, ↓dxOpL.eq_1, ↓dxUn.eq_1, ↓dxTst.eq_1, ↓truD.eq_1, ↓dxTru.eq_1, ↓dxAndT.eq_1, ↓dxOrT.eq_1, ↓dxNotT.eq_1, ↓dxAndE.eq_1, ↓dxOrE.eq_1, ↓dxNotE.eq_1, ↓dxIfE.eq_1, ↓dxTup.eq_1, ↓dxLst.eq_1, ↓dxCB.eq_1, ↓dxCall.eq_1, ↓dxMethP.eq_1, ↓dxMethV.eq_1, ↓dxMethN.eq_1, ↓dxAppP.eq_1, ↓dxAppV.eq_1, dxAppP.isL, ↓appAt.eq_1, ↓nmPl.eq_1, nmAt, ↓nmArg.eq_1, isOb, ↓dVar.eq_1, ↓dK.eq_1, ↓dOp.eq_1, ↓dUn.eq_1, ↓dNil.eq_1, ↓dCons.eq_1, ↓dCnil.eq_1, ↓dCcons.eq_1, ↓dCall.eq_1, ↓dTupD.eq_1, ↓dLstD.eq_1, ↓dTst.eq_1, ↓dTru.eq_1, ↓dAndT.eq_1, ↓dOrT.eq_1, ↓dNotT.eq_1, ↓dAndE.eq_1, ↓dOrE.eq_1, ↓dNotE.eq_1, ↓dIfE.eq_1, ↓dNewK.eq_1, ↓dFld.eq_1, ↓dYes.eq_1, ↓dIsi.eq_1, dTy, isiB, ↓dI.eq_1, ↓dIC.eq_1, ↓dAdd.eq_1, ↓dEq.eq_1, ↓dNe.eq_1, dIs, ↓dLtI.eq_1, ↓dLt.eq_1, ↓dLtB.eq_1, ↓dSub.eq_1, ↓dMul.eq_1, ↓dFdiv.eq_1, ↓dMod.eq_1, ↓dPow.eq_1, ↓dLe.eq_1, ↓dGt.eq_1, ↓dGe.eq_1, ↓dAddI.eq_1, ↓dNeg.eq_1, ↓dMulA.eq_1, ↓dInA.eq_1, ↓dInD.eq_1, ↓dIn.eq_1, keyIn, ↓dIxA.eq_1, ↓dGetD.eq_1, ↓dIx.eq_1, ↓dSl.eq_1, ↓dOnone.eq_1, ↓dOsome.eq_1, ↓dL1_ap, ↓dL2_ap, ↓dL1Z_ap, ↓fLen_ap, ↓fAbs_ap, ↓fInt_ap, ↓fStr_ap, ↓fMax_ap, ↓fMin_ap, ↓fList_ap, ↓fTup_ap, ↓fLenZ.eq_1, ↓fListZ.eq_1, ↓fSum_ap, ↓fAny_ap, ↓fAll_ap, ↓dpVar.eq_1, ↓dpFld.eq_1, ↓dpaNil.eq_1, ↓dpaP.eq_1, ↓dpaD.eq_1, ↓dPPA.eq_1, ↓dxaNil.eq_1, ↓dxaV.eq_1, ↓dxaD.eq_1, ↓dxaN.eq_1, ↓dgName.eq_1, ↓dgNil.eq_1, ↓dgCons_ap, ↓dgTup_ap, ↓dItems.eq_1, ↓dXItems.eq_1, ↓itemsD.eq_1, Z.own, Z.data, S.data, Z.dicv, S.dicv, Z.items, S.items, Z.mems, S.mems, Z.ownL, Z.dk, S.dk, Z.keep, Z.fin, kindT, keyD, keyT, keysD, keyA, atP, S.at, S.kids, S.wth, SF.pos, SF.get, SF.set, SF.len, SF.labs, SF.app, S.put, putP, repl, kill, killS, backM, ghM, argT, args, lendR, backR, apartAll, npre, apart, S.noT, S.tru, S.live, wipeS, List.getElem?_cons_zero, List.getElem?_cons_succ, List.getElem?_nil, List.set_cons_zero, List.set_cons_succ, List.cons_append, List.nil_append, List.replicate, List.length_cons, List.length_nil, List.map_cons, List.map_nil, List.drop_succ_cons, List.drop_zero, List.all_cons, List.all_nil, List.tail_cons, List.getD, Option.map_some, Option.map_none, Option.isSome_some, Option.isSome_none, Option.some.injEq, Bool.and_true, Bool.true_and, Bool.not_true, Bool.not_false, Bool.false_eq_true, Bool.and_self, Bool.or_false, Bool.false_or, if_true, if_false, ite_true, ite_false, and_true, true_and, true_or, or_true, decide_eq_true_eq, decide_true, decide_false, Bool.not_eq_true', Bool.not_eq_eq_eq_not, decide_not, not_false_eq_true, not_true_eq_false, ↓reduceIte, natlit, atI_lit, ↓dPre.eq_1, ↓fT_nx, ↓fT_rt, ↓fT_ex, Nat.reduceAdd, Int.reduceNeg, ↓eqD_int, ↓eqD_str, ↓eqD_bool, ↓dRng1.eq_1, ↓dRng2.eq_1, inV_ints, inV_strs, inV_int1, inV_str1, inV_nil, flat_ints, flat_strs, flatD, vOf, lookS, lookI, lookP, dropS, dropI, dropP, Nat.sub_self, List.replicate_zero, Option.getD_some, Option.getD_none, reduceCtorEq, List.append_nil, str_lit, sz_0, sz_1, sz_2, sz_3, sz_4, sz_5, sz_6, sz_7, sz_8, sz_9, sz_10, sz_11, sz_12, sz_13, sz_14, sz_15, sz_16, sz_17, sz_18, sz_19, sz_20, sz_21, sz_22, sz_23, sz_24, Nat.reduceSub, Nat.reduceMul, Nat.reduceDiv, Nat.reduceMod, Nat.reduceLT, Nat.reduceLeDiff, Nat.reduceEqDiff, Nat.reduceGT, Nat.reduceBEq, Int.reduceAdd, Int.reduceSub, Int.reduceMul, Int.reduceDiv, Int.reduceMod, Int.reduceLT, Int.reduceLE, Int.reduceEq, Int.reduceNe, Int.reduceGT, Int.reduceGE, Int.reduceToNat, String.reduceEq, String.reduceNe, and_false, false_and, ↓dCallF_eq, ↓dCallK_eq, ↓dxMake_eq, Option.isSome_map, ↓callA_eq, ↓dForS_eq, ↓dWhileS_eq, ↓dLc_eq, ↓dSeq_ap, ↓dTidy_ap, ↓dTidyN_ap, seqE_nx, seqE_rt, seqE_bk, seqE_ct, seqE_ex, tidyE_nx, tidyE_rt, tidyE_bk, tidyE_ct, tidyE_ex, tidyNE_nx, tidyNE_rt, tidyNE_bk, tidyNE_ct, tidyNE_ex, loopE_nx, loopE_rt, loopE_bk, loopE_ct, loopE_ex, ↓fE_nx, ↓fE_rt, ↓exSome, ↓rdS_ap, ↓fSort_ap, goE_nx, goE_rt, goE_bk, goE_ct, goE_ex, decide_eq_false_iff_not, ite_not, b_law_B112]
      refine callS_of (by repeat' (first | exact True.intro | rfl | (refine ⟨?_, ?_⟩))) (cl__law_one (by omega) ho hx (fun p hp => (p2 p hp).1) ?_)
      simp -dsimp -implicitDefEqProofs only [↓dNext.eq_1, ↓dBreak.eq_1, ↓dCont.eq_1, ↓dNever.eq_1, ↓dDrop.eq_1, ↓dRet.eq_1, ↓dRetN.eq_1, ↓dIf.eq_1, ↓dSet.eq_1, ↓dFrz.eq_1, ↓dUnp.eq_1, ↓dRetV.eq_1, ↓dAug.eq_1, ↓dSetI.eq_1, ↓dDelI.eq_1, ↓dFldS.eq_1, ↓dFldA.eq_1, ↓setAt.eq_1, ↓delAt.eq_1, ↓fldAt.eq_1, ↓dP.eq_1, ↓dPT.eq_1, ↓dPC.eq_1, ↓dPI.eq_1, ↓dXnil.eq_1, ↓dXcons.eq_1, ↓dxOp.eq_1, ↓dxOpL.eq_1, ↓dxUn.eq_1, ↓dxTst.eq_1, ↓truD.eq_1, ↓dxTru.eq_1, ↓dxAndT.eq_1, ↓dxOrT.eq_1, ↓dxNotT.eq_1, ↓dxAndE.eq_1, ↓dxOrE.eq_1, ↓dxNotE.eq_1, ↓dxIfE.eq_1, ↓dxTup.eq_1, ↓dxLst.eq_1, ↓dxCB.eq_1, ↓dxCall.eq_1, ↓dxMethP.eq_1, ↓dxMethV.eq_1, ↓dxMethN.eq_1, ↓dxAppP.eq_1, ↓dxAppV.eq_1, dxAppP.isL, ↓appAt.eq_1, ↓nmPl.eq_1, nmAt, ↓nmArg.eq_1, isOb, ↓dVar.eq_1, ↓dK.eq_1, ↓dOp.eq_1, ↓dUn.eq_1, ↓dNil.eq_1, ↓dCons.eq_1, ↓dCnil.eq_1, ↓dCcons.eq_1, ↓dCall.eq_1, ↓dTupD.eq_1, ↓dLstD.eq_1, ↓dTst.eq_1, ↓dTru.eq_1, ↓dAndT.eq_1, ↓dOrT.eq_1, ↓dNotT.eq_1, ↓dAndE.eq_1, ↓dOrE.eq_1, ↓dNotE.eq_1, ↓dIfE.eq_1, ↓dNewK.eq_1, ↓dFld.eq_1, ↓dYes.eq_1, ↓dIsi.eq_1, dTy, isiB, ↓dI.eq_1, ↓dIC.eq_1, ↓dAdd.eq_1, ↓dEq.eq_1, ↓dNe.eq_1, dIs, ↓dLtI.eq_1, ↓dLt.eq_1, ↓dLtB.eq_1, ↓dSub.eq_1, ↓dMul.eq_1, ↓dFdiv.eq_1, ↓dMod.eq_1, ↓dPow.eq_1, ↓dLe.eq_1, ↓dGt.eq_1, ↓dGe.eq_1, ↓dAddI.eq_1, ↓dNeg.eq_1, ↓dMulA.eq_1, ↓dInA.eq_1, ↓dInD.eq_1, ↓dIn.eq_1, keyIn, ↓dIxA.eq_1, ↓dGetD.eq_1, ↓dIx.eq_1, ↓dSl.eq_1, ↓dOnone.eq_1, ↓dOsome.eq_1, ↓dL1_ap, ↓dL2_ap, ↓dL1Z_ap, ↓fLen_ap, ↓fAbs_ap, ↓fInt_ap, ↓fStr_ap, ↓fMax_ap, ↓fMin_ap, ↓fList_ap, ↓fTup_ap, ↓fLenZ.eq_1, ↓fListZ.eq_1, ↓fSum_ap, ↓fAny_ap, ↓fAll_ap, ↓dpVar.eq_1, ↓dpFld.eq_1, ↓dpaNil.eq_1, ↓dpaP.eq_1, ↓dpaD.eq_1, ↓dPPA.eq_1, ↓dxaNil.eq_1, ↓dxaV.eq_1, ↓dxaD.eq_1, ↓dxaN.eq_1, ↓dgName.eq_1, ↓dgNil.eq_1, ↓dgCons_ap, ↓dgTup_ap, ↓dItems.eq_1, ↓dXItems.eq_1, ↓itemsD.eq_1, Z.own, Z.data, S.data, Z.dicv, S.dicv, Z.items, S.items, Z.mems, S.mems, Z.ownL, Z.dk, S.dk, Z.keep, Z.fin, kindT, keyD, keyT, keysD, keyA, atP, S.at, S.kids, S.wth, SF.pos, SF.get, SF.set, SF.len, SF.labs, SF.app, S.put, putP, repl, kill, killS, backM, ghM, argT, args, lendR, backR, apartAll, npre, apart, S.noT, S.tru, S.live, wipeS, List.getElem?_cons_zero, List.getElem?_cons_succ, List.getElem?_nil, List.set_cons_zero, List.set_cons_succ, List.cons_append, List.nil_append, List.replicate, List.length_cons, List.length_nil, List.map_cons, List.map_nil, List.drop_succ_cons, List.drop_zero, List.all_cons, List.all_nil, List.tail_cons, List.getD, Option.map_some, Option.map_none, Option.isSome_some, Option.isSome_none, Option.some.injEq, Bool.and_true, Bool.true_and, Bool.not_true, Bool.not_false, Bool.false_eq_true, Bool.and_self, Bool.or_false, Bool.false_or, if_true, if_false, ite_true, ite_false, and_true, true_and, true_or, or_true, decide_eq_true_eq, decide_true, decide_false, Bool.not_eq_true', Bool.not_eq_eq_eq_not, decide_not, not_false_eq_true, not_true_eq_false, ↓reduceIte, natlit, atI_lit, ↓dPre.eq_1, ↓fT_nx, ↓fT_rt, ↓fT_ex, Nat.reduceAdd, Int.reduceNeg, ↓eqD_int, ↓eqD_str, ↓eqD_bool, ↓dRng1.eq_1, ↓dRng2.eq_1, inV_ints, inV_strs, inV_int1, inV_str1, inV_nil, flat_ints, flat_strs, flatD, vOf, lookS, lookI, lookP, dropS, dropI, dropP, Nat.sub_self, List.replicate_zero, Option.getD_some, Option.getD_none, reduceCtorEq, List.append_nil, str_lit, sz_0, sz_1, sz_2, sz_3, sz_4, sz_5, sz_6, sz_7, sz_8, sz_9, sz_10, sz_11, sz_12, sz_13, sz_14, sz_15, sz_16, sz_17, sz_18, sz_19, sz_20, sz_21, sz_22, sz_23, sz_24, Nat.reduceSub, Nat.reduceMul, Nat.reduceDiv, Nat.reduceMod, Nat.reduceLT, Nat.reduceLeDiff, Nat.reduceEqDiff, Nat.reduceGT, Nat.reduceBEq, Int.reduceAdd, Int.reduceSub, Int.reduceMul, Int.reduceDiv, Int.reduceMod, Int.reduceLT, Int.reduceLE, Int.reduceEq, Int.reduceNe, Int.reduceGT, Int.reduceGE, Int.reduceToNat, String.reduceEq, String.reduceNe, and_false, false_and, ↓dCallF_eq, ↓dCallK_eq, ↓dxMake_eq, Option.isSome_map, ↓callA_eq, ↓dForS_eq, ↓dWhileS_eq, ↓dLc_eq, ↓dSeq_ap, ↓dTidy_ap, ↓dTidyN_ap, seqE_nx, seqE_rt, seqE_bk, seqE_ct, seqE_ex, tidyE_nx, tidyE_rt, tidyE_bk, tidyE_ct, tidyE_ex, tidyNE_nx, tidyNE_rt, tidyNE_bk, tidyNE_ct, tidyNE_ex, loopE_nx, loopE_rt, loopE_bk, loopE_ct, loopE_ex, ↓fE_nx, ↓fE_rt, ↓exSome, ↓rdS_ap, ↓fSort_ap, goE_nx, goE_rt, goE_bk, goE_ct, goE_ex, decide_eq_false_iff_not, ite_not]
      exact hM
    · simp -dsimp -implicitDefEqProofs only [↓dNext.eq_1, ↓dBreak.eq_1, ↓dCont.eq_1, ↓dNever.eq_1, ↓dDrop.eq_1, ↓dRet.eq_1, ↓dRetN.eq_1, ↓dIf.eq_1, ↓dSet.eq_1, ↓dFrz.eq_1, ↓dUnp.eq_1, ↓dRetV.eq_1, ↓dAug.eq_1, ↓dSetI.eq_1, ↓dDelI.eq_1, ↓dFldS.eq_1, ↓dFldA.eq_1, ↓setAt.eq_1, ↓delAt.eq_1, ↓fldAt.eq_1, ↓dP.eq_1, ↓dPT.eq_1, ↓dPC.eq_1, ↓dPI.eq_1, ↓dXnil.eq_1, ↓dXcons.eq_1, ↓dxOp.eq_1, ↓dxOpL.eq_1, ↓dxUn.eq_1, ↓dxTst.eq_1, ↓truD.eq_1, ↓dxTru.eq_1, ↓dxAndT.eq_1, ↓dxOrT.eq_1, ↓dxNotT.eq_1, ↓dxAndE.eq_1, ↓dxOrE.eq_1, ↓dxNotE.eq_1, ↓dxIfE.eq_1, ↓dxTup.eq_1, ↓dxLst.eq_1, ↓dxCB.eq_1, ↓dxCall.eq_1, ↓dxMethP.eq_1, ↓dxMethV.eq_1, ↓dxMethN.eq_1, ↓dxAppP.eq_1, ↓dxAppV.eq_1, dxAppP.isL, ↓appAt.eq_1, ↓nmPl.eq_1, nmAt, ↓nmArg.eq_1, isOb, ↓dVar.eq_1, ↓dK.eq_1, ↓dOp.eq_1, ↓dUn.eq_1, ↓dNil.eq_1, ↓dCons.eq_1, ↓dCnil.eq_1, ↓dCcons.eq_1, ↓dCall.eq_1, ↓dTupD.eq_1, ↓dLstD.eq_1, ↓dTst.eq_1, ↓dTru.eq_1, ↓dAndT.eq_1, ↓dOrT.eq_1, ↓dNotT.eq_1, ↓dAndE.eq_1, ↓dOrE.eq_1, ↓dNotE.eq_1, ↓dIfE.eq_1, ↓dNewK.eq_1, ↓dFld.eq_1, ↓dYes.eq_1, ↓dIsi.eq_1, dTy, isiB, ↓dI.eq_1, ↓dIC.eq_1, ↓dAdd.eq_1, ↓dEq.eq_1, ↓dNe.eq_1, dIs, ↓dLtI.eq_1, ↓dLt.eq_1, ↓dLtB.eq_1, ↓dSub.eq_1, ↓dMul.eq_1, ↓dFdiv.eq_1, ↓dMod.eq_1, ↓dPow.eq_1, ↓dLe.eq_1, ↓dGt.eq_1, ↓dGe.eq_1, ↓dAddI.eq_1, ↓dNeg.eq_1, ↓dMulA.eq_1, ↓dInA.eq_1, ↓dInD.eq_1, ↓dIn.eq_1, keyIn, ↓dIxA.eq_1, ↓dGetD.eq_1, ↓dIx.eq_1, ↓dSl.eq_1, ↓dOnone.eq_1, ↓dOsome.eq_1, ↓dL1_ap, ↓dL2_ap, ↓dL1Z_ap, ↓fLen_ap, ↓fAbs_ap, ↓fInt_ap, ↓fStr_ap, ↓fMax_ap, ↓fMin_ap, ↓fList_ap, ↓fTup_ap, ↓fLenZ.eq_1, ↓fListZ.eq_1, ↓fSum_ap, ↓fAny_ap, ↓fAll_ap, ↓dpVar.eq_1, ↓dpFld.eq_1, ↓dpaNil.eq_1, ↓dpaP.eq_1, ↓dpaD.eq_1, ↓dPPA.eq_1, ↓dxaNil.eq_1, ↓dxaV.eq_1, ↓dxaD.eq_1, ↓dxaN.eq_1, ↓dgName.eq_1, ↓dgNil.eq_1, ↓dgCons_ap, ↓dgTup_ap, ↓dItems.eq_1, ↓dXItems.eq_1, ↓itemsD.eq_1, Z.own, Z.data, S.data, Z.dicv, S.dicv, Z.items, S.items, Z.mems, S.mems, Z.ownL, Z.dk, S.dk, Z.keep, Z.fin, kindT, keyD, keyT, keysD, keyA, atP, S.at, S.kids, S.wth, SF.pos, SF.get, SF.set, SF.len, SF.labs, SF.app, S.put, putP, repl, kill, killS, backM, ghM, argT, args, lendR, backR, apartAll, npre, apart, S.noT, S.tru, S.live, wipeS, List.getElem?_cons_zero, List.getElem?_cons_succ, List.getElem?_nil, List.set_cons_zero, List.set_cons_succ, List.cons_append, List.nil_append, List.replicate, List.length_cons, List.length_nil, List.map_cons, List.map_nil, List.drop_succ_cons, List.drop_zero, List.all_cons, List.all_nil, List.tail_cons, List.getD, Option.map_some, Option.map_none, Option.isSome_some, Option.isSome_none, Option.some.injEq, Bool.and_true, Bool.true_and, Bool.not_true, Bool.not_false, Bool.false_eq_true, Bool.and_self, Bool.or_false, Bool.false_or, if_true, if_false, ite_true, ite_false, and_true, true_and, true_or, or_true, decide_eq_true_eq, decide_true, decide_false, Bool.not_eq_true', Bool.not_eq_eq_eq_not, decide_not, not_false_eq_true, not_true_eq_false, ↓reduceIte, natlit, atI_lit, ↓dPre.eq_1, ↓fT_nx, ↓fT_rt, ↓fT_ex, Nat.reduceAdd, Int.reduceNeg, ↓eqD_int, ↓eqD_str, ↓eqD_bool, ↓dRng1.eq_1, ↓dRng2.eq_1, inV_ints, inV_strs, inV_int1, inV_str1, inV_nil, flat_ints, flat_strs, flatD, vOf, lookS, lookI, lookP, dropS, dropI, dropP, Nat.sub_self, List.replicate_zero, Option.getD_some, Option.getD_none, reduceCtorEq, List.append_nil, str_lit, sz_0, sz_1, sz_2, sz_3, sz_4, sz_5, sz_6, sz_7, sz_8, sz_9, sz_10, sz_11, sz_12, sz_13, sz_14, sz_15, sz_16, sz_17, sz_18, sz_19, sz_20, sz_21, sz_22, sz_23, sz_24, Nat.reduceSub, Nat.reduceMul, Nat.reduceDiv, Nat.reduceMod, Nat.reduceLT, Nat.reduceLeDiff, Nat.reduceEqDiff, Nat.reduceGT, Nat.reduceBEq, Int.reduceAdd, Int.reduceSub, Int.reduceMul, Int.reduceDiv, Int.reduceMod, Int.reduceLT, Int.reduceLE, Int.reduceEq, Int.reduceNe, Int.reduceGT, Int.reduceGE, Int.reduceToNat, String.reduceEq, String.reduceNe, and_false, false_and, ↓dCallF_eq, ↓dCallK_eq, ↓dxMake_eq, Option.isSome_map, ↓callA_eq, ↓dForS_eq, ↓dWhileS_eq, ↓dLc_eq, ↓dSeq_ap, ↓dTidy_ap, ↓dTidyN_ap, seqE_nx, seqE_rt, seqE_bk, seqE_ct, seqE_ex, tidyE_nx, tidyE_rt, tidyE_bk, tidyE_ct, tidyE_ex, tidyNE_nx, tidyNE_rt, tidyNE_bk, tidyNE_ct, tidyNE_ex, loopE_nx, loopE_rt, loopE_bk, loopE_ct, loopE_ex, ↓fE_nx, ↓fE_rt, ↓exSome, ↓rdS_ap, ↓fSort_ap, goE_nx, goE_rt, goE_bk, goE_ct, goE_ex, decide_eq_false_iff_not, ite_not]
      exact hN
  simp -dsimp -implicitDefEqProofs only [↓dNext.eq_1, ↓dBreak.eq_1, ↓dCont.eq_1, ↓dNever.eq_1, ↓dDrop.eq_1, ↓dRet.eq_1, ↓dRetN.eq_1, ↓dIf.eq_1, ↓dSet.eq_1, ↓dFrz.eq_1, ↓dUnp.eq_1, ↓dRetV.eq_1, ↓dAug.eq_1, ↓dSetI.eq_1, ↓dDelI.eq_1, ↓dFldS.eq_1, ↓dFldA.eq_1, ↓setAt.eq_1, ↓delAt.eq_1, ↓fldAt.eq_1, ↓dP.eq_1, ↓dPT.eq_1, ↓dPC.eq_1, ↓dPI.eq_1, ↓dXnil.eq_1, ↓dXcons.eq_1, ↓dxOp.eq_1, ↓dxOpL.eq_1, ↓dxUn.eq_1, ↓dxTst.eq_1, ↓truD.eq_1, ↓dxTru.eq_1, ↓dxAndT.eq_1, ↓dxOrT.eq_1, ↓dxNotT.eq_1, ↓dxAndE.eq_1, ↓dxOrE.eq_1, ↓dxNotE.eq_1, ↓dxIfE.eq_1, ↓dxTup.eq_1, ↓dxLst.eq_1, ↓dxCB.eq_1, ↓dxCall.eq_1, ↓dxMethP.eq_1, ↓dxMethV.eq_1, ↓dxMethN.eq_1, ↓dxAppP.eq_1, ↓dxAppV.eq_1, dxAppP.isL, ↓appAt.eq_1, ↓nmPl.eq_1, nmAt, ↓nmArg.eq_1, isOb, ↓dVar.eq_1, ↓dK.eq_1, ↓dOp.eq_1, ↓dUn.eq_1, ↓dNil.eq_1, ↓dCons.eq_1, ↓dCnil.eq_1, ↓dCcons.eq_1, ↓dCall.eq_1, ↓dTupD.eq_1, ↓dLstD.eq_1, ↓dTst.eq_1, ↓dTru.eq_1, ↓dAndT.eq_1, ↓dOrT.eq_1, ↓dNotT.eq_1, ↓dAndE.eq_1, ↓dOrE.eq_1, ↓dNotE.eq_1, ↓dIfE.eq_1, ↓dNewK.eq_1, ↓dFld.eq_1, ↓dYes.eq_1, ↓dIsi.eq_1, dTy, isiB, ↓dI.eq_1, ↓dIC.eq_1, ↓dAdd.eq_1, ↓dEq.eq_1, ↓dNe.eq_1, dIs, ↓dLtI.eq_1, ↓dLt.eq_1, ↓dLtB.eq_1, ↓dSub.eq_1, ↓dMul.eq_1, ↓dFdiv.eq_1, ↓dMod.eq_1, ↓dPow.eq_1, ↓dLe.eq_1, ↓dGt.eq_1, ↓dGe.eq_1, ↓dAddI.eq_1, ↓dNeg.eq_1, ↓dMulA.eq_1, ↓dInA.eq_1, ↓dInD.eq_1, ↓dIn.eq_1, keyIn, ↓dIxA.eq_1, ↓dGetD.eq_1, ↓dIx.eq_1, ↓dSl.eq_1, ↓dOnone.eq_1, ↓dOsome.eq_1, ↓dL1_ap, ↓dL2_ap, ↓dL1Z_ap, ↓fLen_ap, ↓fAbs_ap, ↓fInt_ap, ↓fStr_ap, ↓fMax_ap, ↓fMin_ap, ↓fList_ap, ↓fTup_ap, ↓fLenZ.eq_1, ↓fListZ.eq_1, ↓fSum_ap, ↓fAny_ap, ↓fAll_ap, ↓dpVar.eq_1, ↓dpFld.eq_1, ↓dpaNil.eq_1, ↓dpaP.eq_1, ↓dpaD.eq_1, ↓dPPA.eq_1, ↓dxaNil.eq_1, ↓dxaV.eq_1, ↓dxaD.eq_1, ↓dxaN.eq_1, ↓dgName.eq_1, ↓dgNil.eq_1, ↓dgCons_ap, ↓dgTup_ap, ↓dItems.eq_1, ↓dXItems.eq_1, ↓itemsD.eq_1, Z.own, Z.data, S.data, Z.dicv, S.dicv, Z.items, S.items, Z.mems, S.mems, Z.ownL, Z.dk, S.dk, Z.keep, Z.fin, kindT, keyD, keyT, keysD, keyA, atP, S.at, S.kids, S.wth, SF.pos, SF.get, SF.set, SF.len, SF.labs, SF.app, S.put, putP, repl, kill, killS, backM, ghM, argT, args, lendR, backR, apartAll, npre, apart, S.noT, S.tru, S.live, wipeS, List.getElem?_cons_zero, List.getElem?_cons_succ, List.getElem?_nil, List.set_cons_zero, List.set_cons_succ, List.cons_append, List.nil_append, List.replicate, List.length_cons, List.length_nil, List.map_cons, List.map_nil, List.drop_succ_cons, List.drop_zero, List.all_cons, List.all_nil, List.tail_cons, List.getD, Option.map_some, Option.map_none, Option.isSome_some, Option.isSome_none, Option.some.injEq, Bool.and_true, Bool.true_and, Bool.not_true, Bool.not_false, Bool.false_eq_true, Bool.and_self, Bool.or_false, Bool.false_or, if_true, if_false, ite_true, ite_false, and_true, true_and, true_or, or_true, decide_eq_true_eq, decide_true, decide_false, Bool.not_eq_true', Bool.not_eq_eq_eq_not, decide_not, not_false_eq_true, not_true_eq_false, ↓reduceIte, natlit, atI_lit, ↓dPre.eq_1, ↓fT_nx, ↓fT_rt, ↓fT_ex, Nat.reduceAdd, Int.reduceNeg, ↓eqD_int, ↓eqD_str, ↓eqD_bool, ↓dRng1.eq_1, ↓dRng2.eq_1, inV_ints, inV_strs, inV_int1, inV_str1, inV_nil, flat_ints, flat_strs, flatD, vOf, lookS, lookI, lookP, dropS, dropI, dropP, Nat.sub_self, List.replicate_zero, Option.getD_some, Option.getD_none, reduceCtorEq, List.append_nil, str_lit, sz_0, sz_1, sz_2, sz_3, sz_4, sz_5, sz_6, sz_7, sz_8, sz_9, sz_10, sz_11, sz_12, sz_13, sz_14, sz_15, sz_16, sz_17, sz_18, sz_19, sz_20, sz_21, sz_22, sz_23, sz_24, Nat.reduceSub, Nat.reduceMul, Nat.reduceDiv, Nat.reduceMod, Nat.reduceLT, Nat.reduceLeDiff, Nat.reduceEqDiff, Nat.reduceGT, Nat.reduceBEq, Int.reduceAdd, Int.reduceSub, Int.reduceMul, Int.reduceDiv, Int.reduceMod, Int.reduceLT, Int.reduceLE, Int.reduceEq, Int.reduceNe, Int.reduceGT, Int.reduceGE, Int.reduceToNat, String.reduceEq, String.reduceNe, and_false, false_and, ↓dCallF_eq, ↓dCallK_eq, ↓dxMake_eq, Option.isSome_map, ↓callA_eq, ↓dForS_eq, ↓dWhileS_eq, ↓dLc_eq, ↓dSeq_ap, ↓dTidy_ap, ↓dTidyN_ap, seqE_nx, seqE_rt, seqE_bk, seqE_ct, seqE_ex, tidyE_nx, tidyE_rt, tidyE_bk, tidyE_ct, tidyE_ex, tidyNE_nx, tidyNE_rt, tidyNE_bk, tidyNE_ct, tidyNE_ex, loopE_nx, loopE_rt, loopE_bk, loopE_ct, loopE_ex, ↓fE_nx, ↓fE_rt, ↓exSome, ↓rdS_ap, ↓fSort_ap, goE_nx, goE_rt, goE_bk, goE_ct, goE_ex, decide_eq_false_iff_not, ite_not, b_law_L115]
  have hn : nice 4 (.list (es.map encE)) := nice_list (nice_map fun e h => by
    have := ho e h
    cases e with
    | node n b r l =>
      have : PyData.strOk n = true := this
      unfold encE
      simp only [nice_tuple_iff, nice_list_iff, nice_int_iff, nice_bool_iff, nice_none_iff, nice_str_iff, List.forall_mem_cons, mem_nil_iff', List.forall_mem_map, and_true, true_and, implies_true, this, ok_str]
    | task t =>
      have : t.Ok := this
      unfold encE
      simp only [nice_tuple_iff, nice_list_iff, nice_int_iff, nice_bool_iff, nice_none_iff, nice_str_iff, List.forall_mem_cons, mem_nil_iff', List.forall_mem_map, and_true, true_and, implies_true, valT, this.name, this.txt, this.st, this.node, ok_str])
  refine eqD_refl hn (q := ?_)
  simp -dsimp -implicitDefEqProofs only [↓dNext.eq_1, ↓dBreak.eq_1, ↓dCont.eq_1, ↓dNever.eq_1, ↓dDrop.eq_1, ↓dRet.eq_1, ↓dRetN.eq_1, ↓dIf.eq_1, ↓dSet.eq_1, ↓dFrz.eq_1, ↓dUnp.eq_1, ↓dRetV.eq_1, ↓dAug.eq_1, ↓dSetI.eq_1, ↓dDelI.eq_1, ↓dFldS.eq_1, ↓dFldA.eq_1, ↓setAt.eq_1, ↓delAt.eq_1, ↓fldAt.eq_1, ↓dP.eq_1, ↓dPT.eq_1, ↓dPC.eq_1, ↓dPI.eq_1, ↓dXnil.eq_1, ↓dXcons.eq_1, ↓dxOp.eq_1, ↓dxOpL.eq_1, ↓dxUn.eq_1, ↓dxTst.eq_1, ↓truD.eq_1, ↓dxTru.eq_1, ↓dxAndT.eq_1, ↓dxOrT.eq_1, ↓dxNotT.eq_1, ↓dxAndE.eq_1, ↓dxOrE.eq_1, ↓dxNotE.eq_1, ↓dxIfE.eq_1, ↓dxTup.eq_1, ↓dxLst.eq_1, ↓dxCB.eq_1, ↓dxCall.eq_1, ↓dxMethP.eq_1, ↓dxMethV.eq_1, ↓dxMethN.eq_1, ↓dxAppP.eq_1, ↓dxAppV.eq_1, dxAppP.isL, ↓appAt.eq_1, ↓nmPl.eq_1, nmAt, ↓nmArg.eq_1, isOb, ↓dVar.eq_1, ↓dK.eq_1, ↓dOp.eq_1, ↓dUn.eq_1, ↓dNil.eq_1, ↓dCons.eq_1, ↓dCnil.eq_1, ↓dCcons.eq_1, ↓dCall.eq_1, ↓dTupD.eq_1, ↓dLstD.eq_1, ↓dTst.eq_1, ↓dTru.eq_1, ↓dAndT.eq_1, ↓dOrT.eq_1, ↓dNotT.eq_1, ↓dAndE.eq_1, ↓dOrE.eq_1, ↓dNotE.eq_1, ↓dIfE.eq_1, ↓dNewK.eq_1, ↓dFld.eq_1, ↓dYes.eq_1, ↓dIsi.eq_1, dTy, isiB, ↓dI.eq_1, ↓dIC.eq_1, ↓dAdd.eq_1, ↓dEq.eq_1, ↓dNe.eq_1, dIs, ↓dLtI.eq_1, ↓dLt.eq_1, ↓dLtB.eq_1, ↓dSub.eq_1, ↓dMul.eq_1, ↓dFdiv.eq_1, ↓dMod.eq_1, ↓dPow.eq_1, ↓dLe.eq_1, ↓dGt.eq_1, ↓dGe.eq_1, ↓dAddI.eq_1, ↓dNeg.eq_1, ↓dMulA.eq_1, ↓dInA.eq_1, ↓dInD.eq_1, ↓dIn.eq_1, keyIn, ↓dIxA.eq_1, ↓dGetD.eq_1, ↓dIx.eq_1, ↓dSl.eq_1, ↓dOnone.eq_1, ↓dOsome.eq_1, ↓dL1_ap, ↓dL2_ap, ↓dL1Z_ap, ↓fLen_ap, ↓fAbs_ap, ↓fInt_ap, ↓fStr_ap, ↓fMax_ap, ↓fMin_ap, ↓fList_ap, ↓fTup_ap, ↓fLenZ.eq_1, ↓fListZ.eq_1, ↓fSum_ap, ↓fAny_ap, ↓fAll_ap, ↓dpVar.eq_1, ↓dpFld.eq_1, ↓dpaNil.eq_1, ↓dpaP.eq_1, ↓dpaD.eq_1, ↓dPPA.eq_1, ↓dxaNil.eq_1, ↓dxaV.eq_1, ↓dxaD.eq_1, ↓dxaN.eq_1, ↓dgName.eq_1, ↓dgNil.eq_1, ↓dgCons_ap, ↓dgTup_ap, ↓dItems.eq_1, ↓dXItems.eq_1, ↓itemsD.eq_1, Z.own, Z.data, S.data, Z.dicv, S.dicv, Z.items, S.items, Z.mems, S.mems, Z.ownL, Z.dk, S.dk, Z.keep, Z.fin, kindT, keyD, keyT, keysD, keyA, atP, S.at, S.kids, S.wth, SF.pos, SF.get, SF.set, SF.len, SF.labs, SF.app, S.put, putP, repl, kill, killS, backM, ghM, argT, args, lendR, backR, apartAll, npre, apart, S.noT, S.tru, S.live, wipeS, List.getElem?_cons_zero, List.getElem?_cons_succ, List.getElem?_nil, List.set_cons_zero, List.set_cons_succ, List.cons_append, List.nil_append, List.replicate, List.length_cons, List.length_nil, List.map_cons, List.map_nil, List.drop_succ_cons, List.drop_zero, List.all_cons, List.all_nil, List.tail_cons, List.getD, Option.map_some, Option.map_none, Option.isSome_some, Option.isSome_none, Option.some.injEq, Bool.and_true, Bool.true_and, Bool.not_true, Bool.not_false, Bool.false_eq_true, Bool.and_self, Bool.or_false, Bool.false_or, if_true, if_false, ite_true, ite_false, and_true, true_and, true_or, or_true, decide_eq_true_eq, decide_true, decide_false, Bool.not_eq_true', Bool.not_eq_eq_eq_not, decide_not, not_false_eq_true, not_true_eq_false, ↓reduceIte, natlit, atI_lit, ↓dPre.eq_1, ↓fT_nx, ↓fT_rt, ↓fT_ex, Nat.reduceAdd, Int.reduceNeg, ↓eqD_int, ↓eqD_str, ↓eqD_bool, ↓dRng1.eq_1, ↓dRng2.eq_1, inV_ints, inV_strs, inV_int1, inV_str1, inV_nil, flat_ints, flat_strs, flatD, vOf, lookS, lookI, lookP, dropS, dropI, dropP, Nat.sub_self, List.replicate_zero, Option.getD_some, Option.getD_none, reduceCtorEq, List.append_nil, str_lit, sz_0, sz_1, sz_2, sz_3, sz_4, sz_5, sz_6, sz_7, sz_8, sz_9, sz_10, sz_11, sz_12, sz_13, sz_14, sz_15, sz_16, sz_17, sz_18, sz_19, sz_20, sz_21, sz_22, sz_23, sz_24, Nat.reduceSub, Nat.reduceMul, Nat.reduceDiv, Nat.reduceMod, Nat.reduceLT, Nat.reduceLeDiff, Nat.reduceEqDiff, Nat.reduceGT, Nat.reduceBEq, Int.reduceAdd, Int.reduceSub, Int.reduceMul, Int.reduceDiv, Int.reduceMod, Int.reduceLT, Int.reduceLE, Int.reduceEq, Int.reduceNe, Int.reduceGT, Int.reduceGE, Int.reduceToNat, String.reduceEq, String.reduceNe, and_false, false_and, ↓dCallF_eq, ↓dCallK_eq, ↓dxMake_eq, Option.isSome_map, ↓callA_eq, ↓dForS_eq, ↓dWhileS_eq, ↓dLc_eq, ↓dSeq_ap, ↓dTidy_ap, ↓dTidyN_ap, seqE_nx, seqE_rt, seqE_bk, seqE_ct, seqE_ex, tidyE_nx, tidyE_rt, tidyE_bk, tidyE_ct, tidyE_ex, tidyNE_nx, tidyNE_rt, tidyNE_bk, tidyNE_ct, tidyNE_ex, loopE_nx, loopE_rt, loopE_bk, loopE_ct, loopE_ex, ↓fE_nx, ↓fE_rt, ↓exSome, ↓rdS_ap, ↓fSort_ap, goE_nx, goE_rt, goE_bk, goE_ct, goE_ex, decide_eq_false_iff_not, ite_not]
  refine callS_of (by repeat' (first | exact True.intro | rfl | (refine ⟨?_, ?_⟩))) (cl_Runs_slots hx ?_)
  simp -dsimp -implicitDefEqProofs only [↓dNext.eq_1, ↓dBreak.eq_1, ↓dCont.eq_1, ↓dNever.eq_1, ↓dDrop.eq_1, ↓dRet.eq_1, ↓dRetN.eq_1, ↓dIf.eq_1, ↓dSet.eq_1, ↓dFrz.eq_1, ↓dUnp.eq_1, ↓dRetV.eq_1, ↓dAug.eq_1, ↓dSetI.eq_1, ↓dDelI.eq_1, ↓dFldS.eq_1, ↓dFldA.eq_1, ↓setAt.eq_1, ↓delAt.eq_1, ↓fldAt.eq_1, ↓dP.eq_1, ↓dPT.eq_1, ↓dPC.eq_1, ↓dPI.eq_1, ↓dXnil.eq_1, ↓dXcons.eq_1, ↓dxOp.eq_1, ↓dxOpL.eq_1, ↓dxUn.eq_1, ↓dxTst.eq_1, ↓truD.eq_1, ↓dxTru.eq_1, ↓dxAndT.eq_1, ↓dxOrT.eq_1, ↓dxNotT.eq_1, ↓dxAndE.eq_1, ↓dxOrE.eq_1, ↓dxNotE.eq_1, ↓dxIfE.eq_1, ↓dxTup.eq_1, ↓dxLst.eq_1, ↓dxCB.eq_1, ↓dxCall.eq_1, ↓dxMethP.eq_1, ↓dxMethV.eq_1, ↓dxMethN.eq_1, ↓dxAppP.eq_1, ↓dxAppV.eq_1, dxAppP.isL, ↓appAt.eq_1, ↓nmPl.eq_1, nmAt, ↓nmArg.eq_1, isOb, ↓dVar.eq_1, ↓dK.eq_1, ↓dOp.eq_1, ↓dUn.eq_1, ↓dNil.eq_1, ↓dCons.eq_1, ↓dCnil.eq_1, ↓dCcons.eq_1, ↓dCall.eq_1, ↓dTupD.eq_1, ↓dLstD.eq_1, ↓dTst.eq_1, ↓dTru.eq_1, ↓dAndT.eq_1, ↓dOrT.eq_1, ↓dNotT.eq_1, ↓dAndE.eq_1, ↓dOrE.eq_1, ↓dNotE.eq_1, ↓dIfE.eq_1, ↓dNewK.eq_1, ↓dFld.eq_1, ↓dYes.eq_1, ↓dIsi.eq_1, dTy, isiB, ↓dI.eq_1, ↓dIC.eq_1, ↓dAdd.eq_1, ↓dEq.eq_1, ↓dNe.eq_1, dIs, ↓dLtI.eq_1, ↓dLt.eq_1, ↓dLtB.eq_1, ↓dSub.eq_1, ↓dMul.eq_1, ↓dFdiv.eq_1, ↓dMod.eq_1, ↓dPow.eq_1, ↓dLe.eq_1, ↓dGt.eq_1, ↓dGe.eq_1, ↓dAddI.eq_1, ↓dNeg.eq_1, ↓dMulA.eq_1, ↓dInA.eq_1, ↓dInD.eq_1, ↓dIn.eq_1, keyIn, ↓dIxA.eq_1, ↓dGetD.eq_1, ↓dIx.eq_1, ↓dSl.eq_1, ↓dOnone.eq_1, ↓dOsome.eq_1, ↓dL1_ap, ↓dL2_ap, ↓dL1Z_ap, ↓fLen_ap, ↓fAbs_ap, ↓fInt_ap, ↓fStr_ap, ↓fMax_ap, ↓fMin_ap, ↓fList_ap, ↓fTup_ap, ↓fLenZ.eq_1, ↓fListZ.eq_1, ↓fSum_ap, ↓fAny_ap, ↓fAll_ap, ↓dpVar.eq_1, ↓dpFld.eq_1, ↓dpaNil.eq_1, ↓dpaP.eq_1, ↓dpaD.eq_1, ↓dPPA.eq_1, ↓dxaNil.eq_1, ↓dxaV.eq_1, ↓dxaD.eq_1, ↓dxaN.eq_1, ↓dgName.eq_1, ↓dgNil.eq_1, ↓dgCons_ap, ↓dgTup_ap, ↓dItems.eq_1, ↓dXItems.eq_1, ↓itemsD.eq_1, Z.own, Z.data, S.data, Z.dicv, S.dicv, Z.items, S.items, Z.mems, S.mems, Z.ownL, Z.dk, S.dk, Z.keep, Z.fin, kindT, keyD, keyT, keysD, keyA, atP, S.at, S.kids, S.wth, SF.pos, SF.get, SF.set, SF.len, SF.labs, SF.app, S.put, putP, repl, kill, killS, backM, ghM, argT, args, lendR, backR, apartAll, npre, apart, S.noT, S.tru, S.live, wipeS, List.getElem?_cons_zero, List.getElem?_cons_succ, List.getElem?_nil, List.set_cons_zero, List.set_cons_succ, List.cons_append, List.nil_append, List.replicate, List.length_cons, List.length_nil, List.map_cons, List.map_nil, List.drop_succ_cons, List.drop_zero, List.all_cons, List.all_nil, List.tail_cons, List.getD, Option.map_some, Option.map_none, Option.isSome_some, Option.isSome_none, Option.some.injEq, Bool.and_true, Bool.true_and, Bool.not_true, Bool.not_false, Bool.false_eq_true, Bool.and_self, Bool.or_false, Bool.false_or, if_true, if_false, ite_true, ite_false, and_true, true_and, true_or, or_true, decide_eq_true_eq, decide_true, decide_false, Bool.not_eq_true', Bool.not_eq_eq_eq_not, decide_not, not_false_eq_true, not_true_eq_false, ↓reduceIte, natlit, atI_lit, ↓dPre.eq_1, ↓fT_nx, ↓fT_rt, ↓fT_ex, Nat.reduceAdd, Int.reduceNeg, ↓eqD_int, ↓eqD_str, ↓eqD_bool, ↓dRng1.eq_1, ↓dRng2.eq_1, inV_ints, inV_strs, inV_int1, inV_str1, inV_nil, flat_ints, flat_strs, flatD, vOf, lookS, lookI, lookP, dropS, dropI, dropP, Nat.sub_self, List.replicate_zero, Option.getD_some, Option.getD_none, reduceCtorEq, List.append_nil, str_lit, sz_0, sz_1, sz_2, sz_3, sz_4, sz_5, sz_6, sz_7, sz_8, sz_9, sz_10, sz_11, sz_12, sz_13, sz_14, sz_15, sz_16, sz_17, sz_18, sz_19, sz_20, sz_21, sz_22, sz_23, sz_24, Nat.reduceSub, Nat.reduceMul, Nat.reduceDiv, Nat.reduceMod, Nat.reduceLT, Nat.reduceLeDiff, Nat.reduceEqDiff, Nat.reduceGT, Nat.reduceBEq, Int.reduceAdd, Int.reduceSub, Int.reduceMul, Int.reduceDiv, Int.reduceMod, Int.reduceLT, Int.reduceLE, Int.reduceEq, Int.reduceNe, Int.reduceGT, Int.reduceGE, Int.reduceToNat, String.reduceEq, String.reduceNe, and_false, false_and, ↓dCallF_eq, ↓dCallK_eq, ↓dxMake_eq, Option.isSome_map, ↓callA_eq, ↓dForS_eq, ↓dWhileS_eq, ↓dLc_eq, ↓dSeq_ap, ↓dTidy_ap, ↓dTidyN_ap, seqE_nx, seqE_rt, seqE_bk, seqE_ct, seqE_ex, tidyE_nx, tidyE_rt, tidyE_bk, tidyE_ct, tidyE_ex, tidyNE_nx, tidyNE_rt, tidyNE_bk, tidyNE_ct, tidyNE_ex, loopE_nx, loopE_rt, loopE_bk, loopE_ct, loopE_ex, ↓fE_nx, ↓fE_rt, ↓exSome, ↓rdS_ap, ↓fSort_ap, goE_nx, goE_rt, goE_bk, goE_ct, goE_ex, decide_eq_false_iff_not, ite_not]
  have hs : nice 2 (.list ((sortS (xs.map Prod.fst)).map PyData.str)) := by
    refine nice_list fun d hd => ?_
    obtain ⟨t, ht, rfl⟩ := List.mem_map.mp hd
    obtain ⟨p, hp, rfl⟩ := List.mem_map.mp ((sortS_perm _).mem_iff.mp ht)
    exact nice_str (p2 p hp).2
  exact eqD_refl hs (q := h)

theorem ok_Runs___init__ {P : Program} {w : World} {K : PySem.W.Frag} {mg : Str → Option Value} {base : Heap} {f : Addr} {fd : FuncData} (Fn : Fun K "__init__" "Runs.__init__" s_Runs___init__ f fd) (T : Txt K mg)  : FnOk P w K mg base (L2.CX P w) 1 f fd p_Runs___init__ (spT (kw K mg) F_Runs___init__) := by
  have sc := sc_Runs___init__
  refine fn_tree (A := ax_Runs___init__) (M := m_Runs___init__) (ds := b_Runs___init__) Fn sc rfl (by decide) rfl (hM_of (N := [true]) (fun i h => by match i, h with | 0, h => exact h | _ + 1, h => cases h)) len_detT (fun cdv Ar outer s H E hr X hX tk po => ?_) sem_Runs___init__
  subst hX
  have hu := hr.units
  have hu1 : _ + 1 < cLine := Nat.lt_of_le_of_lt (Nat.add_le_add_left (by decide : 1 ≤ 64) _) hu
  exact css_out (css_one (cs_fld 0 0 (hk_0) T.na_0_0 (pl_var 0) (ex_p (ce_newK))))

theorem ok_Runs_begin {P : Program} {w : World} {K : PySem.W.Frag} {mg : Str → Option Value} {base : Heap} {f : Addr} {fd : FuncData} (Fn : Fun K "begin" "Runs.begin" s_Runs_begin f fd) (T : Txt K mg)  : FnOk P w K mg base (L2.CX P w) 1 f fd p_Runs_begin (spT (kw K mg) F_Runs_begin) := by
  have sc := sc_Runs_begin
  refine fn_tree (A := ax_Runs_begin) (M := m_Runs_begin) (ds := b_Runs_begin) Fn sc rfl (by decide) rfl (hM_of (N := [true, false, false]) (fun i h => by match i, h with | 0, h => exact h | 1, h => cases h | 2, h => cases h | _ + 3, h => cases h)) len_detT (fun cdv Ar outer s H E hr X hX tk po => ?_) sem_Runs_begin
  subst hX
  have hu := hr.units
  have hu1 : _ + 1 < cLine := Nat.lt_of_le_of_lt (Nat.add_le_add_left (by decide : 1 ≤ 64) _) hu
  exact css_out (css_one (cs_setI hu1 (pl_fld 0 (pl_var 0)) (ce_var 1) (ex_p (ce_var 2))))

theorem ok_Runs_born_of {P : Program} {w : World} {K : PySem.W.Frag} {mg : Str → Option Value} {base : Heap} {f : Addr} {fd : FuncData} (Fn : Fun K "born_of" "Runs.born_of" s_Runs_born_of f fd) (T : Txt K mg)  : FnOk P w K mg base (L2.CX P w) 1 f fd p_Runs_born_of (spT (kw K mg) F_Runs_born_of) := by
  have sc := sc_Runs_born_of
  refine fn_tree (A := ax_Runs_born_of) (M := m_Runs_born_of) (ds := b_Runs_born_of) Fn sc rfl (by decide) rfl (hM_of (N := [true, false]) (fun i h => by match i, h with | 0, h => exact h | 1, h => cases h | _ + 2, h => cases h)) len_detT (fun cdv Ar outer s H E hr X hX tk po => ?_) sem_Runs_born_of
  subst hX
  have hu := hr.units
  have hu1 : _ + 1 < cLine := Nat.lt_of_le_of_lt (Nat.add_le_add_left (by decide : 1 ≤ 64) _) hu
  exact css_out (css_cons (cs_if (et_p (ct_inA hu1 (ce_var 1) (ce_fld 0 (ce_var 0)))) (css_one (cs_ret (ex_p (ce_ixA hu1 (ce_fld 0 (ce_var 0)) (ce_var 1))))) css_nil) (css_one (cs_ret (ex_p (ce_int)))))

theorem ok_Runs_slots {P : Program} {w : World} {K : PySem.W.Frag} {mg : Str → Option Value} {base : Heap} {f : Addr} {fd : FuncData} (Fn : Fun K "slots" "Runs.slots" s_Runs_slots f fd) (T : Txt K mg)  : FnOk P w K mg base (L2.CX P w) 1 f fd p_Runs_slots (spT (kw K mg) F_Runs_slots) := by
  have sc := sc_Runs_slots
  refine fn_tree (A := ax_Runs_slots) (M := m_Runs_slots) (ds := b_Runs_slots) Fn sc rfl (by decide) rfl (hM_of (N := [true]) (fun i h => by match i, h with | 0, h => exact h | _ + 1, h => cases h)) len_detT (fun cdv Ar outer s H E hr X hX tk po => ?_) sem_Runs_slots
  subst hX
  have hu := hr.units
  have hu1 : _ + 1 < cLine := Nat.lt_of_le_of_lt (Nat.add_le_add_left (by decide : 1 ≤ 64) _) hu
  exact css_out (css_one (cs_ret (ex_p (ce_cb (cr_sortA hu rfl) sim_sortA bt_sorted T.b_sorted (ca_cons (ce_fld 0 (ce_var 0)) ca_nil)))))

theorem ok_tasks_of {P : Program} {w : World} {K : PySem.W.Frag} {mg : Str → Option Value} {base : Heap} {f : Addr} {fd : FuncData} (Fn : Fun K "tasks_of" "tasks_of" s_tasks_of f fd) (T : Txt K mg)  : FnOk P w K mg base CX0 1 f fd p_tasks_of (spV (kw K mg) F_tasks_of) := by
  have sc := sc_tasks_of
  refine fn_data (K := kw K mg) (A := ax_tasks_of) (ds := b_tasks_of) Fn sc rfl (by decide) (fun cdv Ar outer s H E hr => ?_) len_det sem_tasks_of
  have po := @PassesOwn.never
  have hu := hr.units
  have hu1 : _ + 1 < cLine := Nat.lt_of_le_of_lt (Nat.add_le_add_left (by decide : 1 ≤ 64) _) hu
  exact css_out (css_cons (cs_set 3 sc.nd (ex_p (ce_lst cc_nil))) (css_cons (cs_pre (js := [4, 5, 6, 7, 8]) (by decide) (cs_for PassesOwn.never rfl (ei_p (ci_seq (ce_var 0))) (cg_tup rfl (cgs_cons (cg_name (i := 4) sc.nd rfl (by first | exact .inl rfl | exact .inr rfl)) (cgs_cons (cg_name (i := 5) sc.nd rfl (by first | exact .inl rfl | exact .inr rfl)) (cgs_cons (cg_name (i := 6) sc.nd rfl (by first | exact .inl rfl | exact .inr rfl)) (cgs_cons (cg_name (i := 7) sc.nd rfl (by first | exact .inl rfl | exact .inr rfl)) (cgs_cons (cg_name (i := 8) sc.nd rfl (by first | exact .inl rfl | exact .inr rfl)) cgs_nil)))))) (css_tidy (js := [4, 5, 6, 7, 8]) (by decide) (css_one (cs_if (et_p (ct_of_w (cw_and (ct_eq hu (ce_var 4) (ce_str)) (cw_and (ct_eq hu (ce_ixA hu1 (ce_var 8) (ce_int)) (ce_var 1)) (cw_and1 (ct_eq hu (ce_ixA hu1 (ce_var 8) (ce_int)) (ce_var 2))))))) (css_one (cs_expr (ex_appP (pl_var 3) (ce_tup (cc_cons (ce_var 5) (cc_cons (ce_var 6) (cc_cons (ce_var 7) (cc_cons (ce_var 8) cc_nil)))))))) css_nil))))) (css_one (cs_ret (ex_p (ce_cb (cr_sortA hu rfl) sim_sortA bt_sorted T.b_sorted (ca_cons (ce_var 3) ca_nil)))))))

theorem ok_to_run {P : Program} {w : World} {K : PySem.W.Frag} {mg : Str → Option Value} {base : Heap} {f : Addr} {fd : FuncData} (Fn : Fun K "to_run" "to_run" s_to_run f fd) (T : Txt K mg) (h_Runs_born_of : HasM P w (kw K mg) mg base 1 0 "born_of" p_Runs_born_of F_Runs_born_of [] dd_Runs_born_of) : FnOk P w K mg base (L2.CX P w) 2 f fd p_to_run (spT (kw K mg) F_to_run) := by
  have sc := sc_to_run
  refine fn_tree (A := ax_to_run) (M := m_to_run) (ds := b_to_run) Fn sc rfl (by decide) rfl (hM_of (N := [false, true, false, false, false, false, false, false]) (fun i h => by match i, h with | 0, h => cases h | 1, h => exact h | 2, h => cases h | _ + 3, h => cases h)) len_detT (fun cdv Ar outer s H E hr X hX tk po => ?_) sem_to_run
  subst hX
  have hu := hr.units
  have hu1 : _ + 1 < cLine := Nat.lt_of_le_of_lt (Nat.add_le_add_left (by decide : 1 ≤ 64) _) hu
  exact css_out (css_cons (cs_set 3 sc.nd (ex_p (ce_lst cc_nil))) (css_cons (cs_pre (js := [4, 5, 6, 7]) (by decide) (cs_for po rfl (ei_p (ci_seq (ce_var 0))) (cg_tup rfl (cgs_cons (cg_name (i := 4) sc.nd rfl (by first | exact .inl rfl | exact .inr rfl)) (cgs_cons (cg_name (i := 5) sc.nd rfl (by first | exact .inl rfl | exact .inr rfl)) (cgs_cons (cg_name (i := 6) sc.nd rfl (by first | exact .inl rfl | exact .inr rfl)) (cgs_cons (cg_name (i := 7) sc.nd rfl (by first | exact .inl rfl | exact .inr rfl)) cgs_nil))))) (css_tidy (js := [4, 5, 6, 7]) (by decide) (css_one (cs_if (et_p (ct_of_w (cw_and (ct_eq hu (ce_ixA hu1 (ce_var 7) (ce_int)) (ce_str)) (cw_and1 (ct_eq hu (ce_ixA hu1 (ce_var 7) (ce_int)) (ce_int)))))) (css_one (cs_if (et_of_w (ew_and (et_cmp (op_eqA hu) simR_eq (ex_methP h_Runs_born_of hr (by decide) tk (pl_var 1) (pr_d (ce_var 4) pr_nil)) (ex_p (ce_int)) (nomark _)) (ew_and1 (et_p (ct_notinA hu1 (ce_var 5) (ce_var 2)))))) (css_one (cs_expr (ex_appP (pl_var 3) (ce_tup (cc_cons (ce_var 4) (cc_cons (ce_var 5) (cc_cons (ce_ixA hu1 (ce_var 7) (ce_int)) (cc_cons (ce_ixA hu1 (ce_var 7) (ce_int)) cc_nil)))))))) css_nil)) css_nil))))) (css_one (cs_retV 3))))

theorem ok_next_start {P : Program} {w : World} {K : PySem.W.Frag} {mg : Str → Option Value} {base : Heap} {f : Addr} {fd : FuncData} (Fn : Fun K "next_start" "next_start" s_next_start f fd) (T : Txt K mg)  : FnOk P w K mg base CX0 1 f fd p_next_start (spV (kw K mg) F_next_start) := by
  have sc := sc_next_start
  refine fn_data (K := kw K mg) (A := ax_next_start) (ds := b_next_start) Fn sc rfl (by decide) (fun cdv Ar outer s H E hr => ?_) len_det sem_next_start
  have po := @PassesOwn.never
  have hu := hr.units
  have hu1 : _ + 1 < cLine := Nat.lt_of_le_of_lt (Nat.add_le_add_left (by decide : 1 ≤ 64) _) hu
  exact css_out (css_cons (cs_pre (js := [2]) (by decide) (cs_for PassesOwn.never rfl (ei_p (ci_seq (ce_var 0))) (cg_name (i := 2) sc.nd rfl (by first | exact .inl rfl | exact .inr rfl)) (css_tidy (js := [2]) (by decide) (css_one (cs_if (et_p (ct_of_w (cw_and (ct_eq hu (ce_ixA hu1 (ce_ixA hu1 (ce_var 2) (ce_int)) (ce_int)) (ce_str)) (cw_and (ct_eq hu (ce_ixA hu1 (ce_ixA hu1 (ce_var 2) (ce_int)) (ce_int)) (ce_int)) (cw_and1 (ct_notinA hu1 (ce_ixA hu1 (ce_var 2) (ce_int)) (ce_var 1))))))) (css_one (cs_retV 2)) css_nil))))) (css_one (cs_ret (ex_p (ce_non)))))

theorem ok_next_end {P : Program} {w : World} {K : PySem.W.Frag} {mg : Str → Option Value} {base : Heap} {f : Addr} {fd : FuncData} (Fn : Fun K "next_end" "next_end" s_next_end f fd) (T : Txt K mg)  : FnOk P w K mg base CX0 1 f fd p_next_end (spV (kw K mg) F_next_end) := by
  have sc := sc_next_end
  refine fn_data (K := kw K mg) (A := ax_next_end) (ds := b_next_end) Fn sc rfl (by decide) (fun cdv Ar outer s H E hr => ?_) len_det sem_next_end
  have po := @PassesOwn.never
  have hu := hr.units
  have hu1 : _ + 1 < cLine := Nat.lt_of_le_of_lt (Nat.add_le_add_left (by decide : 1 ≤ 64) _) hu
  exact css_out (css_cons (cs_pre (js := [2]) (by decide) (cs_for PassesOwn.never rfl (ei_p (ci_seq (ce_var 0))) (cg_name (i := 2) sc.nd rfl (by first | exact .inl rfl | exact .inr rfl)) (css_tidy (js := [2]) (by decide) (css_one (cs_if (et_p (ct_of_w (cw_and (ct_inA hu1 (ce_ixA hu1 (ce_ixA hu1 (ce_var 2) (ce_int)) (ce_int)) (ce_tup (cc_cons (ce_str) (cc_cons (ce_str) cc_nil)))) (cw_and (ct_eq hu (ce_ixA hu1 (ce_ixA hu1 (ce_var 2) (ce_int)) (ce_int)) (ce_int)) (cw_and1 (ct_notinA hu1 (ce_ixA hu1 (ce_var 2) (ce_int)) (ce_var 1))))))) (css_one (cs_retV 2)) css_nil))))) (css_one (cs_ret (ex_p (ce_non)))))

theorem ok__law_number {P : Program} {w : World} {K : PySem.W.Frag} {mg : Str → Option Value} {base : Heap} {f : Addr} {fd : FuncData} (Fn : Fun K "_law_number" "_law_number" s__law_number f fd) (T : Txt K mg)  : FnOk P w K mg base CX0 1 f fd p__law_number (spV (kw K mg) F__law_number) := by
  have sc := sc__law_number
  refine fn_data (K := kw K mg) (A := ax__law_number) (ds := b__law_number) Fn sc rfl (by decide) (fun cdv Ar outer s H E hr => ?_) len_det sem__law_number
  have po := @PassesOwn.never
  have hu := hr.units
  have hu1 : _ + 1 < cLine := Nat.lt_of_le_of_lt (Nat.add_le_add_left (by decide : 1 ≤ 64) _) hu
  exact css_out (css_cons (cs_set 2 sc.nd (ex_p (ce_var 1))) (css_cons (cs_if (et_p (ct_ltB hu (ce_var 1) (ce_cb cr_lenA sim_lenA bt_len T.b_len (ca_cons (ce_var 0) ca_nil)))) (css_one (cs_set 2 sc.nd (ex_p (ce_ixA hu1 (ce_var 0) (ce_var 1))))) css_nil) (css_cons (cs_if (et_p (ct_of_w (cw_or (ct_ge (ce_var 2) (ce_pow (ce_int) (ce_int))) (cw_or1 (ct_ltB hu (ce_var 2) (ce_int)))))) (css_one (cs_ret (ex_p (ce_cb call_abs sim_abs bt_abs T.b_abs (ca_cons (ce_var 2) ca_nil))))) css_nil) (css_one (cs_ret (ex_p (ce_mod (ce_ct call_int1 sim_int bt_int T.b_int (ca_cons (ce_mulA (ce_mod (ce_ct call_int1 sim_int bt_int T.b_int (ca_cons (ce_mulA (ce_add (ce_add (ce_var 2) (ce_mulA (ce_int) (ce_var 1))) (ce_int)) (ce_int)) ca_nil)) (ce_int)) (ce_int)) ca_nil)) (ce_int))))))))

theorem ok__law_digits {P : Program} {w : World} {K : PySem.W.Frag} {mg : Str → Option Value} {base : Heap} {f : Addr} {fd : FuncData} (Fn : Fun K "_law_digits" "_law_digits" s__law_digits f fd) (T : Txt K mg) (h__law_number : Has P w (kw K mg) mg base 1 "_law_number" p__law_number F__law_number [] dd__law_number) : FnOk P w K mg base CX0 2 f fd p__law_digits (spV (kw K mg) F__law_digits) := by
  have sc := sc__law_digits
  refine fn_data (K := kw K mg) (A := ax__law_digits) (ds := b__law_digits) Fn sc rfl (by decide) (fun cdv Ar outer s H E hr => ?_) len_det sem__law_digits
  have po := @PassesOwn.never
  have hu := hr.units
  have hu1 : _ + 1 < cLine := Nat.lt_of_le_of_lt (Nat.add_le_add_left (by decide : 1 ≤ 64) _) hu
  exact css_out (css_cons (cs_set 3 sc.nd (ex_p (ce_has h__law_number hr (by decide) (cc_cons (ce_var 0) (cc_cons (ce_var 1) cc_nil))))) (css_cons (cs_set 4 sc.nd (ex_p (ce_lst cc_nil))) (css_cons (cs_pre (js := [5]) (by decide) (cs_for PassesOwn.never rfl (ei_p (ci_seq (ce_var 2))) (cg_name (i := 5) sc.nd rfl (by first | exact .inl rfl | exact .inr rfl)) (css_tidy (js := [5]) (by decide) (css_cons (cs_expr (ex_appP (pl_var 4) (ce_mod (ce_ct call_int1 sim_int bt_int T.b_int (ca_cons (ce_var 3) ca_nil)) (ce_var 5)))) (css_one (cs_set 3 sc.nd (ex_p (ce_fdiv (ce_ct call_int1 sim_int bt_int T.b_int (ca_cons (ce_var 3) ca_nil)) (ce_var 5))))))))) (css_frz 4 (css_one (cs_retV 4))))))

theorem ok__law_entry {P : Program} {w : World} {K : PySem.W.Frag} {mg : Str → Option Value} {base : Heap} {f : Addr} {fd : FuncData} (Fn : Fun K "_law_entry" "_law_entry" s__law_entry f fd) (T : Txt K mg) (h__law_digits : Has P w (kw K mg) mg base 2 "_law_digits" p__law_digits F__law_digits [] dd__law_digits) : FnOk P w K mg base CX0 3 f fd p__law_entry (spV (kw K mg) F__law_entry) := by
  have sc := sc__law_entry
  refine fn_data (K := kw K mg) (A := ax__law_entry) (ds := b__law_entry) Fn sc rfl (by decide) (fun cdv Ar outer s H E hr => ?_) len_det sem__law_entry
  have po := @PassesOwn.never
  have hu := hr.units
  have hu1 : _ + 1 < cLine := Nat.lt_of_le_of_lt (Nat.add_le_add_left (by decide : 1 ≤ 64) _) hu
  exact css_out (css_cons (cs_set 2 sc.nd (ex_p (ce_lst (cc_cons (ce_str) (cc_cons (ce_str) (cc_cons (ce_str) (cc_cons (ce_str) (cc_cons (ce_str) (cc_cons (ce_str) cc_nil))))))))) (css_frz 2 (css_cons (cs_set 3 sc.nd (ex_p (ce_lst (cc_cons (ce_str) (cc_cons (ce_str) (cc_cons (ce_str) cc_nil)))))) (css_frz 3 (css_cons (cs_unp (ex_p (ce_has h__law_digits hr (by decide) (cc_cons (ce_var 0) (cc_cons (ce_var 1) (cc_cons (ce_lst (cc_cons (ce_int) (cc_cons (ce_int) (cc_cons (ce_int) (cc_cons (ce_int) (cc_cons (ce_int) (cc_cons (ce_int) cc_nil))))))) cc_nil))))) (cg_tup rfl (cgs_cons (cg_name (i := 4) sc.nd rfl (by first | exact .inl rfl | exact .inr rfl)) (cgs_cons (cg_name (i := 5) sc.nd rfl (by first | exact .inl rfl | exact .inr rfl)) (cgs_cons (cg_name (i := 6) sc.nd rfl (by first | exact .inl rfl | exact .inr rfl)) (cgs_cons (cg_name (i := 7) sc.nd rfl (by first | exact .inl rfl | exact .inr rfl)) (cgs_cons (cg_name (i := 8) sc.nd rfl (by first | exact .inl rfl | exact .inr rfl)) (cgs_cons (cg_name (i := 9) sc.nd rfl (by first | exact .inl rfl | exact .inr rfl)) cgs_nil)))))))) (css_cons (cs_set 10 sc.nd (ex_p (ce_add (ce_add (ce_str) (ce_ct call_str_int sim_str bt_str T.b_str (ca_cons (ce_mod (ce_ct call_int1 sim_int bt_int T.b_int (ca_cons (ce_mulA (ce_int) (ce_var 1)) ca_nil)) (ce_int)) ca_nil))) (ce_str)))) (css_cons (cs_if (et_p (ct_eq hu (ce_var 8) (ce_int))) (css_one (cs_ret (ex_p (ce_tup (cc_cons (ce_str) (cc_cons (ce_add (ce_str) (ce_ct call_str_int sim_str bt_str T.b_str (ca_cons (ce_var 1) ca_nil))) (cc_cons (ce_add (ce_int) (ce_var 1)) (cc_cons (ce_add (ce_int) (ce_var 1)) (cc_cons (ce_tup (cc_cons (ce_int) (cc_cons (ce_int) (cc_cons (ce_add (ce_int) (ce_var 7)) (cc_cons (ce_int) (cc_cons (ce_str) cc_nil)))))) cc_nil))))))))) css_nil) (css_cons (cs_set 11 sc.nd (ex_p (ce_tup (cc_cons (ce_int) (cc_cons (ce_add (ce_str) (ce_ct call_str_int sim_str bt_str T.b_str (ca_cons (ce_var 9) ca_nil))) (cc_cons (ce_var 9) (cc_cons (ce_ixA hu1 (ce_var 2) (ce_var 4)) (cc_cons (ce_fdiv (ce_var 5) (ce_int)) (cc_cons (ce_ixA hu1 (ce_var 3) (ce_var 6)) (cc_cons (ce_add (ce_int) (ce_var 7)) (cc_cons (ce_str) cc_nil))))))))))) (css_one (cs_ret (ex_p (ce_tup (cc_cons (ce_str) (cc_cons (ce_var 10) (cc_cons (ce_add (ce_int) (ce_var 1)) (cc_cons (ce_add (ce_int) (ce_var 1)) (cc_cons (ce_var 11) cc_nil)))))))))))))))))

theorem ok__law_first {P : Program} {w : World} {K : PySem.W.Frag} {mg : Str → Option Value} {base : Heap} {f : Addr} {fd : FuncData} (Fn : Fun K "_law_first" "_law_first" s__law_first f fd) (T : Txt K mg)  : FnOk P w K mg base CX0 1 f fd p__law_first (spV (kw K mg) F__law_first) := by
  have sc := sc__law_first
  refine fn_data (K := kw K mg) (A := ax__law_first) (ds := b__law_first) Fn sc rfl (by decide) (fun cdv Ar outer s H E hr => ?_) len_det sem__law_first
  have po := @PassesOwn.never
  have hu := hr.units
  have hu1 : _ + 1 < cLine := Nat.lt_of_le_of_lt (Nat.add_le_add_left (by decide : 1 ≤ 64) _) hu
  exact css_out (css_cons (cs_pre (js := [4]) (by decide) (cs_for PassesOwn.never rfl (ei_p (ci_seq (ce_var 0))) (cg_name (i := 4) sc.nd rfl (by first | exact .inl rfl | exact .inr rfl)) (css_tidy (js := [4]) (by decide) (css_one (cs_if (et_p (ct_of_w (cw_and (ct_inA hu1 (ce_ixA hu1 (ce_ixA hu1 (ce_var 4) (ce_int)) (ce_int)) (ce_var 1)) (cw_and (ct_eq hu (ce_ixA hu1 (ce_ixA hu1 (ce_var 4) (ce_int)) (ce_int)) (ce_var 2)) (cw_and1 (ct_notinA hu1 (ce_ixA hu1 (ce_var 4) (ce_int)) (ce_var 3))))))) (css_one (cs_retV 4)) css_nil))))) (css_one (cs_ret (ex_p (ce_non)))))

theorem ok__law_one {P : Program} {w : World} {K : PySem.W.Frag} {mg : Str → Option Value} {base : Heap} {f : Addr} {fd : FuncData} (Fn : Fun K "_law_one" "_law_one" s__law_one f fd) (T : Txt K mg) (h_Runs_slots : HasM P w (kw K mg) mg base 1 0 "slots" p_Runs_slots F_Runs_slots [] dd_Runs_slots) (h__law_first : Has P w (kw K mg) mg base 1 "_law_first" p__law_first F__law_first [] dd__law_first) (h_next_end : Has P w (kw K mg) mg base 1 "next_end" p_next_end F_next_end [] dd_next_end) (h_next_start : Has P w (kw K mg) mg base 1 "next_start" p_next_start F_next_start [] dd_next_start) (h_tasks_of : Has P w (kw K mg) mg base 1 "tasks_of" p_tasks_of F_tasks_of [] dd_tasks_of) (h_to_run : HasT P w (kw K mg) mg base 2 "to_run" p_to_run F_to_run [] dd_to_run) : FnOk P w K mg base (L2.CX P w) 3 f fd p__law_one (spT (kw K mg) F__law_one) := by
  have sc := sc__law_one
  refine fn_tree (A := ax__law_one) (M := m__law_one) (ds := b__law_one) Fn sc rfl (by decide) rfl (hM_of (N := [false, false, false, true, false, false, false, false, false, false, false, false, false]) (fun i h => by match i, h with | 0, h => cases h | 1, h => cases h | 2, h => cases h | 3, h => exact h | 4, h => cases h | 5, h => cases h | _ + 6, h => cases h)) len_detT (fun cdv Ar outer s H E hr X hX tk po => ?_) sem__law_one
  subst hX
  have hu := hr.units
  have hu1 : _ + 1 < cLine := Nat.lt_of_le_of_lt (Nat.add_le_add_left (by decide : 1 ≤ 64) _) hu
  exact css_out (css_cons (cs_set 6 sc.nd (ex_p (ce_lst cc_nil))) (css_cons (cs_pre (js := [7, 8, 9, 10, 11, 12]) (by decide) (cs_for po rfl (ei_p (ci_seq (ce_var 0))) (cg_tup rfl (cgs_cons (cg_name (i := 7) sc.nd rfl (by first | exact .inl rfl | exact .inr rfl)) (cgs_cons (cg_name (i := 8) sc.nd rfl (by first | exact .inl rfl | exact .inr rfl)) (cgs_cons (cg_name (i := 9) sc.nd rfl (by first | exact .inl rfl | exact .inr rfl)) (cgs_cons (cg_name (i := 10) sc.nd rfl (by first | exact .inl rfl | exact .inr rfl)) (cgs_cons (cg_name (i := 11) sc.nd rfl (by first | exact .inl rfl | exact .inr rfl)) cgs_nil)))))) (css_tidy (js := [7, 8, 9, 10, 11]) (by decide) (css_one (cs_if (et_p (ct_of_w (cw_and (ct_eq hu (ce_var 7) (ce_str)) (cw_and (ct_eq hu (ce_ixA hu1 (ce_var 11) (ce_int)) (ce_var 1)) (cw_and1 (ct_eq hu (ce_ixA hu1 (ce_var 11) (ce_int)) (ce_var 2))))))) (css_one (cs_expr (ex_appP (pl_var 6) (ce_tup (cc_cons (ce_var 8) (cc_cons (ce_var 9) (cc_cons (ce_var 10) (cc_cons (ce_var 11) cc_nil)))))))) css_nil))))) (css_cons (cs_set 6 sc.nd (ex_p (ce_cb (cr_sortA hu rfl) sim_sortA bt_sorted T.b_sorted (ca_cons (ce_var 6) ca_nil)))) (css_frz 6 (css_cons (cs_if (et_p (ct_ne hu (ce_has h_tasks_of hr (by decide) (cc_cons (ce_var 0) (cc_cons (ce_var 1) (cc_cons (ce_var 2) cc_nil)))) (ce_var 6))) (css_one (cs_ret (ex_p (ce_bl)))) css_nil) (css_cons (cs_set 12 sc.nd (ex_p (ce_lst cc_nil))) (css_cons (cs_pre (js := [7, 8, 9, 10, 11]) (by decide) (cs_for po rfl (ei_p (ci_seq (ce_var 6))) (cg_tup rfl (cgs_cons (cg_name (i := 8) sc.nd rfl (by first | exact .inl rfl | exact .inr rfl)) (cgs_cons (cg_name (i := 9) sc.nd rfl (by first | exact .inl rfl | exact .inr rfl)) (cgs_cons (cg_name (i := 10) sc.nd rfl (by first | exact .inl rfl | exact .inr rfl)) (cgs_cons (cg_name (i := 11) sc.nd rfl (by first | exact .inl rfl | exact .inr rfl)) cgs_nil))))) (css_tidy (js := [8, 9, 10, 11]) (by decide) (css_one (cs_if (et_of_w (ew_and (et_p (ct_eq hu (ce_ixA hu1 (ce_var 11) (ce_int)) (ce_str))) (ew_and (et_p (ct_eq hu (ce_ixA hu1 (ce_var 11) (ce_int)) (ce_int))) (ew_and (et_cmp (OpR.or op_notIn_seq (op_notinD hu1)) simR_inA (ex_p (ce_var 8)) (ex_methP0 h_Runs_slots hr (by decide) tk (pl_var 3)) rfl) (ew_and1 (et_p (ct_notinA hu1 (ce_var 9) (ce_var 4)))))))) (css_one (cs_expr (ex_appP (pl_var 12) (ce_tup (cc_cons (ce_var 8) (cc_cons (ce_var 9) (cc_cons (ce_ixA hu1 (ce_var 11) (ce_int)) (cc_cons (ce_ixA hu1 (ce_var 11) (ce_int)) cc_nil)))))))) css_nil))))) (css_frz 12 (css_cons (cs_if (et_cmp (op_neA hu) simR_ne (ex_has h_to_run hr (by decide) tk (xr_pr (pr_d (ce_var 6) (pr_p (pl_var 3) (pr_d (ce_var 4) pr_nil))))) (ex_p (ce_var 12)) (nomark _)) (css_one (cs_ret (ex_p (ce_bl)))) css_nil) (css_cons (cs_if (et_p (ct_ne hu (ce_has h_next_start hr (by decide) (cc_cons (ce_var 6) (cc_cons (ce_var 5) cc_nil))) (ce_has h__law_first hr (by decide) (cc_cons (ce_var 6) (cc_cons (ce_lst (cc_cons (ce_str) cc_nil)) (cc_cons (ce_int) (cc_cons (ce_var 5) cc_nil))))))) (css_one (cs_ret (ex_p (ce_bl)))) css_nil) (css_one (cs_ret (ex_p (ce_eq hu (ce_has h_next_end hr (by decide) (cc_cons (ce_var 6) (cc_cons (ce_var 5) cc_nil))) (ce_has h__law_first hr (by decide) (cc_cons (ce_var 6) (cc_cons (ce_lst (cc_cons (ce_str) (cc_cons (ce_str) cc_nil))) (cc_cons (ce_int) (cc_cons (ce_var 5) cc_nil)))))))))))))))))))

theorem ok_law {P : Program} {w : World} {K : PySem.W.Frag} {mg : Str → Option Value} {base : Heap} {f : Addr} {fd : FuncData} (Fn : Fun K "law" "law" s_law f fd) (T : Txt K mg) (h_Runs___init__ : HasI P w (kw K mg) mg base 1 0 "Runs" p_Runs___init__ F_Runs___init__ [] dd_Runs___init__) (h_Runs_begin : HasM P w (kw K mg) mg base 1 0 "begin" p_Runs_begin F_Runs_begin [] dd_Runs_begin) (h_Runs_slots : HasM P w (kw K mg) mg base 1 0 "slots" p_Runs_slots F_Runs_slots [] dd_Runs_slots) (h__law_digits : Has P w (kw K mg) mg base 2 "_law_digits" p__law_digits F__law_digits [] dd__law_digits) (h__law_entry : Has P w (kw K mg) mg base 3 "_law_entry" p__law_entry F__law_entry [] dd__law_entry) (h__law_one : HasT P w (kw K mg) mg base 3 "_law_one" p__law_one F__law_one [] dd__law_one) : FnOk P w K mg base (L2.CX P w) 4 f fd p_law (spT (kw K mg) F_lawT) := by
  have sc := sc_law
  refine fn_tree (A := ax_law) (M := m_law) (ds := b_law) Fn sc rfl (by decide) rfl (hM_of (N := [false, false, false, false, false, false, false, false, false, false, false, false, false]) (fun i h => by match i, h with | 0, h => cases h | _ + 1, h => cases h)) len_lawT (fun cdv Ar outer s H E hr X hX tk po => ?_) sem_law
  subst hX
  have hu := hr.units
  have hu1 : _ + 1 < cLine := Nat.lt_of_le_of_lt (Nat.add_le_add_left (by decide : 1 ≤ 64) _) hu
  exact css_out (css_cons (cs_set 1 sc.nd (ex_p (ce_ixA hu1 (ce_has h__law_digits hr (by decide) (cc_cons (ce_var 0) (cc_cons (ce_int) (cc_cons (ce_lst (cc_cons (ce_int) cc_nil)) cc_nil)))) (ce_int)))) (css_cons (cs_setLcX 2 (own := [("_law_k", 3)]) rfl sc.nd (ci_rng1 T.b_range (ca_cons (ce_var 1) ca_nil)) (blkOk_by (own := [("_law_k", 3)]) (N := n_law) (sc := defScope s_law) (by decide +kernel)) (fun _ _ _ _ _ => ⟨_, (cg_name (i := 3) sc.nd rfl (by first | exact .inl rfl | exact .inr rfl)), by (try dsimp only [Cx.blk, kx]) <;> exact rfl⟩) (fun _ _ _ _ _ => ⟨_, pts0, by (try dsimp only [Cx.blk, kx]) <;> exact rfl⟩) (fun _ _ _ _ _ => ⟨_, (ce_has h__law_entry hr (by decide) (cc_cons (ce_var 0) (cc_cons (ce_add (ce_int) (ce_var 3)) cc_nil))), by (try dsimp only [Cx.blk, kx]) <;> exact rfl⟩) (sw_true rfl rfl rfl (by decide +kernel))) (css_frz 2 (css_cons (cs_setLcX 4 (own := [("_law_entry_here", 5)]) rfl sc.nd (ci_seq (ce_var 2)) (blkOk_by (own := [("_law_entry_here", 5)]) (N := n_law) (sc := defScope s_law) (by decide +kernel)) (fun _ _ _ _ _ => ⟨_, (cg_name (i := 5) sc.nd rfl (by first | exact .inl rfl | exact .inr rfl)), by (try dsimp only [Cx.blk, kx]) <;> exact rfl⟩) (fun _ _ _ _ _ => ⟨_, pts0, by (try dsimp only [Cx.blk, kx]) <;> exact rfl⟩) (fun _ _ _ _ _ => ⟨_, (ce_var 5), by (try dsimp only [Cx.blk, kx]) <;> exact rfl⟩) (sw_true rfl rfl rfl (by decide +kernel))) (css_frz 4 (css_cons (cs_set 6 sc.nd (ex_make0 h_Runs___init__ hr (by decide) tk)) (css_cons (cs_set 7 sc.nd (ex_p (ce_lst cc_nil))) (css_cons (cs_set 8 sc.nd (ex_p (ce_lst cc_nil))) (css_cons (cs_pre (js := [3, 5, 9, 10, 11, 12]) (by decide) (cs_for po rfl (ei_p (ci_rng1 T.b_range (ca_cons (ce_var 1) ca_nil))) (cg_name (i := 3) sc.nd rfl (by first | exact .inl rfl | exact .inr rfl)) (css_tidy (js := [3, 9]) (by decide) (css_cons (cs_set 9 sc.nd (ex_p (ce_has h__law_digits hr (by decide) (cc_cons (ce_var 0) (cc_cons (ce_add (ce_int) (ce_var 3)) (cc_cons (ce_lst (cc_cons (ce_int) (cc_cons (ce_int) (cc_cons (ce_int) cc_nil)))) cc_nil)))))) (css_frz 9 (css_cons (cs_if (et_p (ct_of_w (cw_and (ct_eq hu (ce_ixA hu1 (ce_var 9) (ce_int)) (ce_int)) (cw_and1 (ct_eq hu (ce_ixA hu1 (ce_ixA hu1 (ce_var 2) (ce_var 3)) (ce_int)) (ce_str)))))) (css_one (cs_expr (ex_methP h_Runs_begin hr (by decide) tk (pl_var 6) (pr_d (ce_ixA hu1 (ce_ixA hu1 (ce_var 2) (ce_var 3)) (ce_int)) (pr_d (ce_int) pr_nil))))) css_nil) (css_cons (cs_if (et_p (ct_eq hu (ce_ixA hu1 (ce_var 9) (ce_int)) (ce_int))) (css_one (cs_expr (ex_appP (pl_var 7) (ce_ixA hu1 (ce_ixA hu1 (ce_var 2) (ce_var 3)) (ce_int))))) css_nil) (css_one (cs_if (et_p (ct_eq hu (ce_ixA hu1 (ce_var 9) (ce_int)) (ce_int))) (css_one (cs_expr (ex_appP (pl_var 8) (ce_ixA hu1 (ce_ixA hu1 (ce_var 2) (ce_var 3)) (ce_int))))) css_nil))))))))) (css_frz 8 (css_frz 7 (css_cons (cs_set 10 sc.nd (ex_methP0 h_Runs_slots hr (by decide) tk (pl_var 6))) (css_frz 10 (css_cons (cs_pre (js := [1, 3, 5, 9, 11, 12]) (by decide) (cs_for po rfl (ei_p (ci_seq (ce_lst (cc_cons (ce_str) (cc_cons (ce_str) (cc_cons (ce_str) (cc_cons (ce_str) cc_nil))))))) (cg_name (i := 11) sc.nd rfl (by first | exact .inl rfl | exact .inr rfl)) (css_tidy (js := [11, 12]) (by decide) (css_one (cs_pre (js := [1, 3, 5, 9, 12]) (by decide) (cs_for po rfl (ei_p (ci_seq (ce_lst (cc_cons (ce_int) (cc_cons (ce_int) (cc_cons (ce_int) cc_nil)))))) (cg_name (i := 12) sc.nd rfl (by first | exact .inl rfl | exact .inr rfl)) (css_tidy (js := [12]) (by decide) (css_one (cs_if (et_not (et_tru (ex_has h__law_one hr (by decide) tk (xr_pr (pr_d (ce_var 2) (pr_d (ce_var 11) (pr_d (ce_var 12) (pr_p (pl_var 6) (pr_d (ce_var 7) (pr_d (ce_var 8) pr_nil)))))))))) (css_one (cs_ret (ex_p (ce_bl)))) css_nil))))))))) (css_one (cs_ret (ex_and (ex_p (ce_eq hu (ce_var 2) (ce_var 4))) (ex_one (ex_cmp (op_eqA hu) simR_eq (ex_methP0 h_Runs_slots hr (by decide) tk (pl_var 6)) (ex_p (ce_var 10)) (nomark _))))))))))))))))))))

theorem all_mk {l : PySem.W.OpenLaw} {w : World} {K : PySem.W.Frag} {h : Heap} {mg : Str → Option Value} {fa : Addr} (X : K.In h) (G : h.Ns mainGlobals mg) (hfa : mg "law" = some (.ref fa))
    {C0 : Addr}
    {f0 : Addr} {od0 an0 : Option Addr} {sl0 : Array (Option Value)} {oc0 kV0 dc0 pm0 cd0 ct0 : Value}
    {f1 : Addr} {od1 an1 : Option Addr} {sl1 : Array (Option Value)} {oc1 kV1 dc1 pm1 cd1 ct1 : Value}
    {f2 : Addr} {od2 an2 : Option Addr} {sl2 : Array (Option Value)} {oc2 kV2 dc2 pm2 cd2 ct2 : Value}
    {f3 : Addr} {od3 an3 : Option Addr} {sl3 : Array (Option Value)} {oc3 kV3 dc3 pm3 cd3 ct3 : Value}
    {f4 : Addr} {od4 an4 : Option Addr} {sl4 : Array (Option Value)} {oc4 kV4 dc4 pm4 cd4 ct4 : Value}
    {f5 : Addr} {od5 an5 : Option Addr} {sl5 : Array (Option Value)} {oc5 kV5 dc5 pm5 cd5 ct5 : Value}
    {f6 : Addr} {od6 an6 : Option Addr} {sl6 : Array (Option Value)} {oc6 kV6 dc6 pm6 cd6 ct6 : Value}
    {f7 : Addr} {od7 an7 : Option Addr} {sl7 : Array (Option Value)} {oc7 kV7 dc7 pm7 cd7 ct7 : Value}
    {f8 : Addr} {od8 an8 : Option Addr} {sl8 : Array (Option Value)} {oc8 kV8 dc8 pm8 cd8 ct8 : Value}
    {f9 : Addr} {od9 an9 : Option Addr} {sl9 : Array (Option Value)} {oc9 kV9 dc9 pm9 cd9 ct9 : Value}
    {f10 : Addr} {od10 an10 : Option Addr} {sl10 : Array (Option Value)} {oc10 kV10 dc10 pm10 cd10 ct10 : Value}
    {f11 : Addr} {od11 an11 : Option Addr} {sl11 : Array (Option Value)} {oc11 kV11 dc11 pm11 cd11 ct11 : Value}
    {f12 : Addr} {od12 an12 : Option Addr} {sl12 : Array (Option Value)} {oc12 kV12 dc12 pm12 cd12 ct12 : Value}
    {f13 : Addr} {od13 an13 : Option Addr} {sl13 : Array (Option Value)} {oc13 kV13 dc13 pm13 cd13 ct13 : Value}
    (aC0 : PySem.W.nsIn K mainGlobals "Runs" = some (some (.ref C0)))
    (pg0 : PySem.W.plainGet K C0 Str.empty = true)
    (hd0 : PySem.W.hasDictIn K C0 = true)
    (po0 : PySem.W.plainOver K C0 = true)
    (sa0 : PySem.W.findIn K (.ref C0) "__setattr__" = some (some (.builtin "object.__setattr__")))
    (mk0 : PySem.W.makesIn K C0 = true)
    (kc0 : PySem.W.keepIn K (.ref C0) = true)
    (na_0_0 : PySem.W.findIn K (.ref C0) "rows" = some none)
    (a0 : PySem.W.findIn K (.ref C0) "__init__" = some (some (.ref f0)))
    (i0 : PySem.W.isFn K (.ref f0) = true)
    (l0 : K.lookup f0 = some ⟨oc0, od0, .func (PySem.W.fnOf "__init__" "Runs.__init__" (defArgs s_Runs___init__) (defBody s_Runs___init__) (defScope s_Runs___init__) .none kV0 dc0 pm0 an0 cd0 ct0), sl0⟩)
    (c0 : PySem.W.codeIn K cd0 "Runs.__init__" = true)
    (k0 : PySem.W.keepIn K (.ref f0) = true)
    (a1 : PySem.W.findIn K (.ref C0) "begin" = some (some (.ref f1)))
    (i1 : PySem.W.isFn K (.ref f1) = true)
    (l1 : K.lookup f1 = some ⟨oc1, od1, .func (PySem.W.fnOf "begin" "Runs.begin" (defArgs s_Runs_begin) (defBody s_Runs_begin) (defScope s_Runs_begin) .none kV1 dc1 pm1 an1 cd1 ct1), sl1⟩)
    (c1 : PySem.W.codeIn K cd1 "Runs.begin" = true)
    (k1 : PySem.W.keepIn K (.ref f1) = true)
    (a2 : PySem.W.findIn K (.ref C0) "born_of" = some (some (.ref f2)))
    (i2 : PySem.W.isFn K (.ref f2) = true)
    (l2 : K.lookup f2 = some ⟨oc2, od2, .func (PySem.W.fnOf "born_of" "Runs.born_of" (defArgs s_Runs_born_of) (defBody s_Runs_born_of) (defScope s_Runs_born_of) .none kV2 dc2 pm2 an2 cd2 ct2), sl2⟩)
    (c2 : PySem.W.codeIn K cd2 "Runs.born_of" = true)
    (k2 : PySem.W.keepIn K (.ref f2) = true)
    (a3 : PySem.W.findIn K (.ref C0) "slots" = some (some (.ref f3)))
    (i3 : PySem.W.isFn K (.ref f3) = true)
    (l3 : K.lookup f3 = some ⟨oc3, od3, .func (PySem.W.fnOf "slots" "Runs.slots" (defArgs s_Runs_slots) (defBody s_Runs_slots) (defScope s_Runs_slots) .none kV3 dc3 pm3 an3 cd3 ct3), sl3⟩)
    (c3 : PySem.W.codeIn K cd3 "Runs.slots" = true)
    (k3 : PySem.W.keepIn K (.ref f3) = true)
    (a4 : PySem.W.nsIn K mainGlobals "tasks_of" = some (some (.ref f4)))
    (l4 : K.lookup f4 = some ⟨oc4, od4, .func (PySem.W.fnOf "tasks_of" "tasks_of" (defArgs s_tasks_of) (defBody s_tasks_of) (defScope s_tasks_of) .none kV4 dc4 pm4 an4 cd4 ct4), sl4⟩)
    (c4 : PySem.W.codeIn K cd4 "tasks_of" = true)
    (k4 : PySem.W.keepIn K (.ref f4) = true)
    (a5 : PySem.W.nsIn K mainGlobals "to_run" = some (some (.ref f5)))
    (l5 : K.lookup f5 = some ⟨oc5, od5, .func (PySem.W.fnOf "to_run" "to_run" (defArgs s_to_run) (defBody s_to_run) (defScope s_to_run) .none kV5 dc5 pm5 an5 cd5 ct5), sl5⟩)
    (c5 : PySem.W.codeIn K cd5 "to_run" = true)
    (k5 : PySem.W.keepIn K (.ref f5) = true)
    (a6 : PySem.W.nsIn K mainGlobals "next_start" = some (some (.ref f6)))
    (l6 : K.lookup f6 = some ⟨oc6, od6, .func (PySem.W.fnOf "next_start" "next_start" (defArgs s_next_start) (defBody s_next_start) (defScope s_next_start) .none kV6 dc6 pm6 an6 cd6 ct6), sl6⟩)
    (c6 : PySem.W.codeIn K cd6 "next_start" = true)
    (k6 : PySem.W.keepIn K (.ref f6) = true)
    (a7 : PySem.W.nsIn K mainGlobals "next_end" = some (some (.ref f7)))
    (l7 : K.lookup f7 = some ⟨oc7, od7, .func (PySem.W.fnOf "next_end" "next_end" (defArgs s_next_end) (defBody s_next_end) (defScope s_next_end) .none kV7 dc7 pm7 an7 cd7 ct7), sl7⟩)
    (c7 : PySem.W.codeIn K cd7 "next_end" = true)
    (k7 : PySem.W.keepIn K (.ref f7) = true)
    (a8 : PySem.W.nsIn K mainGlobals "_law_number" = some (some (.ref f8)))
    (l8 : K.lookup f8 = some ⟨oc8, od8, .func (PySem.W.fnOf "_law_number" "_law_number" (defArgs s__law_number) (defBody s__law_number) (defScope s__law_number) .none kV8 dc8 pm8 an8 cd8 ct8), sl8⟩)
    (c8 : PySem.W.codeIn K cd8 "_law_number" = true)
    (k8 : PySem.W.keepIn K (.ref f8) = true)
    (a9 : PySem.W.nsIn K mainGlobals "_law_digits" = some (some (.ref f9)))
    (l9 : K.lookup f9 = some ⟨oc9, od9, .func (PySem.W.fnOf "_law_digits" "_law_digits" (defArgs s__law_digits) (defBody s__law_digits) (defScope s__law_digits) .none kV9 dc9 pm9 an9 cd9 ct9), sl9⟩)
    (c9 : PySem.W.codeIn K cd9 "_law_digits" = true)
    (k9 : PySem.W.keepIn K (.ref f9) = true)
    (a10 : PySem.W.nsIn K mainGlobals "_law_entry" = some (some (.ref f10)))
    (l10 : K.lookup f10 = some ⟨oc10, od10, .func (PySem.W.fnOf "_law_entry" "_law_entry" (defArgs s__law_entry) (defBody s__law_entry) (defScope s__law_entry) .none kV10 dc10 pm10 an10 cd10 ct10), sl10⟩)
    (c10 : PySem.W.codeIn K cd10 "_law_entry" = true)
    (k10 : PySem.W.keepIn K (.ref f10) = true)
    (a11 : PySem.W.nsIn K mainGlobals "_law_first" = some (some (.ref f11)))
    (l11 : K.lookup f11 = some ⟨oc11, od11, .func (PySem.W.fnOf "_law_first" "_law_first" (defArgs s__law_first) (defBody s__law_first) (defScope s__law_first) .none kV11 dc11 pm11 an11 cd11 ct11), sl11⟩)
    (c11 : PySem.W.codeIn K cd11 "_law_first" = true)
    (k11 : PySem.W.keepIn K (.ref f11) = true)
    (a12 : PySem.W.nsIn K mainGlobals "_law_one" = some (some (.ref f12)))
    (l12 : K.lookup f12 = some ⟨oc12, od12, .func (PySem.W.fnOf "_law_one" "_law_one" (defArgs s__law_one) (defBody s__law_one) (defScope s__law_one) .none kV12 dc12 pm12 an12 cd12 ct12), sl12⟩)
    (c12 : PySem.W.codeIn K cd12 "_law_one" = true)
    (k12 : PySem.W.keepIn K (.ref f12) = true)
    (a13 : PySem.W.nsIn K mainGlobals "law" = some (some (.ref f13)))
    (l13 : K.lookup f13 = some ⟨oc13, od13, .func (PySem.W.fnOf "law" "law" (defArgs s_law) (defBody s_law) (defScope s_law) .none kV13 dc13 pm13 an13 cd13 ct13), sl13⟩)
    (c13 : PySem.W.codeIn K cd13 "law" = true)
    (k13 : PySem.W.keepIn K (.ref f13) = true)
    (z_abs : PySem.W.nsIn K mainGlobals "abs" = some none)
    (z_int : PySem.W.nsIn K mainGlobals "int" = some none)
    (z_len : PySem.W.nsIn K mainGlobals "len" = some none)
    (z_range : PySem.W.nsIn K mainGlobals "range" = some none)
    (z_sorted : PySem.W.nsIn K mainGlobals "sorted" = some none)
    (z_str : PySem.W.nsIn K mainGlobals "str" = some none)
    : ∃ fd : FuncData, (∀ (s : Shared) (v : Value), BindsTo s fd ⟨[v], []⟩ [("_law_script", v)]) ∧ ∀ base : Heap, K.In base → base.Ns mainGlobals mg → FnOk l.prog w K mg base (L2.CX l.prog w) 4 fa fd ["_law_script"] (spL K) := by
  have e := hfa.symm.trans (PySem.W.mg_of X G a13)
  cases e
  have eC0 : clOf mg "Runs" = C0 := by unfold clOf; rw [PySem.W.mg_of X G aC0]
  have T : Txt K mg := { b_abs := PySem.W.mg_none_of X G z_abs, b_int := PySem.W.mg_none_of X G z_int, b_len := PySem.W.mg_none_of X G z_len, b_range := PySem.W.mg_none_of X G z_range, b_sorted := PySem.W.mg_none_of X G z_sorted, b_str := PySem.W.mg_none_of X G z_str, na_0_0 := by rw [eC0]; exact na_0_0, t := True.intro }
  have cl0 : Cls K ((kw K mg).cl 0) := by show Cls K (clOf mg "Runs"); rw [eC0]; exact ⟨pg0, hd0, po0, sa0⟩
  have F0 := fun_mk (st := s_Runs___init__) l0 c0 k0
  have F1 := fun_mk (st := s_Runs_begin) l1 c1 k1
  have F2 := fun_mk (st := s_Runs_born_of) l2 c2 k2
  have F3 := fun_mk (st := s_Runs_slots) l3 c3 k3
  have F4 := fun_mk (st := s_tasks_of) l4 c4 k4
  have F5 := fun_mk (st := s_to_run) l5 c5 k5
  have F6 := fun_mk (st := s_next_start) l6 c6 k6
  have F7 := fun_mk (st := s_next_end) l7 c7 k7
  have F8 := fun_mk (st := s__law_number) l8 c8 k8
  have F9 := fun_mk (st := s__law_digits) l9 c9 k9
  have F10 := fun_mk (st := s__law_entry) l10 c10 k10
  have F11 := fun_mk (st := s__law_first) l11 c11 k11
  have F12 := fun_mk (st := s__law_one) l12 c12 k12
  have F13 := fun_mk (st := s_law) l13 c13 k13
  refine ⟨PySem.W.fnOf "law" "law" (defArgs s_law) (defBody s_law) (defScope s_law) .none kV13 dc13 pm13 an13 cd13 ct13, fun s v => .of_eq rfl, fun base _ _ => ?_⟩
  have h_Runs___init__ : HasI l.prog w (kw K mg) mg base 1 0 "Runs" p_Runs___init__ F_Runs___init__ [] dd_Runs___init__ := ⟨⟨f0, _, [], ok_Runs___init__ F0 T , (by show Mk K (clOf mg "Runs") _; rw [eC0]; exact ⟨mk0, a0, i0, kc0⟩), (by show _ = some (Value.ref (clOf mg "Runs")); rw [eC0]; exact PySem.W.mg_of X G aC0), F0.binds (ps := p_Runs___init__) fun _ _ _ _ _ _ us hl => match us, hl with | [_], _ => rfl, .nil⟩, cl0, fun _ => .nil, mon_detT⟩
  have h_Runs_begin : HasM l.prog w (kw K mg) mg base 1 0 "begin" p_Runs_begin F_Runs_begin [] dd_Runs_begin := ⟨⟨f1, _, [], ok_Runs_begin F1 T , (by show Meth K (clOf mg "Runs") _ _; rw [eC0]; exact ⟨a1, i1, k1⟩), F1.binds (ps := p_Runs_begin) fun _ _ _ _ _ _ us hl => match us, hl with | [_, _, _], _ => rfl, .nil⟩, cl0, fun _ => .nil, mon_detT⟩
  have h_Runs_born_of : HasM l.prog w (kw K mg) mg base 1 0 "born_of" p_Runs_born_of F_Runs_born_of [] dd_Runs_born_of := ⟨⟨f2, _, [], ok_Runs_born_of F2 T , (by show Meth K (clOf mg "Runs") _ _; rw [eC0]; exact ⟨a2, i2, k2⟩), F2.binds (ps := p_Runs_born_of) fun _ _ _ _ _ _ us hl => match us, hl with | [_, _], _ => rfl, .nil⟩, cl0, fun _ => .nil, mon_detT⟩
  have h_Runs_slots : HasM l.prog w (kw K mg) mg base 1 0 "slots" p_Runs_slots F_Runs_slots [] dd_Runs_slots := ⟨⟨f3, _, [], ok_Runs_slots F3 T , (by show Meth K (clOf mg "Runs") _ _; rw [eC0]; exact ⟨a3, i3, k3⟩), F3.binds (ps := p_Runs_slots) fun _ _ _ _ _ _ us hl => match us, hl with | [_], _ => rfl, .nil⟩, cl0, fun _ => .nil, mon_detT⟩
  have h_tasks_of : Has l.prog w (kw K mg) mg base 1 "tasks_of" p_tasks_of F_tasks_of [] dd_tasks_of := ⟨⟨f4, _, [], ok_tasks_of F4 T , PySem.W.mg_of X G a4, F4.kp, F4.binds (ps := p_tasks_of) fun _ _ _ _ _ _ us hl => match us, hl with | [_, _, _], _ => rfl, .nil⟩, fun _ => .nil, mon_det⟩
  have h_to_run : HasT l.prog w (kw K mg) mg base 2 "to_run" p_to_run F_to_run [] dd_to_run := ⟨⟨f5, _, [], ok_to_run F5 T h_Runs_born_of, PySem.W.mg_of X G a5, F5.kp, F5.binds (ps := p_to_run) fun _ _ _ _ _ _ us hl => match us, hl with | [_, _, _], _ => rfl, .nil⟩, fun _ => .nil, mon_detT⟩
  have h_next_start : Has l.prog w (kw K mg) mg base 1 "next_start" p_next_start F_next_start [] dd_next_start := ⟨⟨f6, _, [], ok_next_start F6 T , PySem.W.mg_of X G a6, F6.kp, F6.binds (ps := p_next_start) fun _ _ _ _ _ _ us hl => match us, hl with | [_, _], _ => rfl, .nil⟩, fun _ => .nil, mon_det⟩
  have h_next_end : Has l.prog w (kw K mg) mg base 1 "next_end" p_next_end F_next_end [] dd_next_end := ⟨⟨f7, _, [], ok_next_end F7 T , PySem.W.mg_of X G a7, F7.kp, F7.binds (ps := p_next_end) fun _ _ _ _ _ _ us hl => match us, hl with | [_, _], _ => rfl, .nil⟩, fun _ => .nil, mon_det⟩
  have h__law_number : Has l.prog w (kw K mg) mg base 1 "_law_number" p__law_number F__law_number [] dd__law_number := ⟨⟨f8, _, [], ok__law_number F8 T , PySem.W.mg_of X G a8, F8.kp, F8.binds (ps := p__law_number) fun _ _ _ _ _ _ us hl => match us, hl with | [_, _], _ => rfl, .nil⟩, fun _ => .nil, mon_det⟩
  have h__law_digits : Has l.prog w (kw K mg) mg base 2 "_law_digits" p__law_digits F__law_digits [] dd__law_digits := ⟨⟨f9, _, [], ok__law_digits F9 T h__law_number, PySem.W.mg_of X G a9, F9.kp, F9.binds (ps := p__law_digits) fun _ _ _ _ _ _ us hl => match us, hl with | [_, _, _], _ => rfl, .nil⟩, fun _ => .nil, mon_det⟩
  have h__law_entry : Has l.prog w (kw K mg) mg base 3 "_law_entry" p__law_entry F__law_entry [] dd__law_entry := ⟨⟨f10, _, [], ok__law_entry F10 T h__law_digits, PySem.W.mg_of X G a10, F10.kp, F10.binds (ps := p__law_entry) fun _ _ _ _ _ _ us hl => match us, hl with | [_, _], _ => rfl, .nil⟩, fun _ => .nil, mon_det⟩
  have h__law_first : Has l.prog w (kw K mg) mg base 1 "_law_first" p__law_first F__law_first [] dd__law_first := ⟨⟨f11, _, [], ok__law_first F11 T , PySem.W.mg_of X G a11, F11.kp, F11.binds (ps := p__law_first) fun _ _ _ _ _ _ us hl => match us, hl with | [_, _, _, _], _ => rfl, .nil⟩, fun _ => .nil, mon_det⟩
  have h__law_one : HasT l.prog w (kw K mg) mg base 3 "_law_one" p__law_one F__law_one [] dd__law_one := ⟨⟨f12, _, [], ok__law_one F12 T h_Runs_slots h__law_first h_next_end h_next_start h_tasks_of h_to_run, PySem.W.mg_of X G a12, F12.kp, F12.binds (ps := p__law_one) fun _ _ _ _ _ _ us hl => match us, hl with | [_, _, _, _, _, _], _ => rfl, .nil⟩, fun _ => .nil, mon_detT⟩
  exact law_t (A := ax_law) (ok_law F13 T h_Runs___init__ h_Runs_begin h_Runs_slots h__law_digits h__law_entry h__law_one)

end My
open PySem PySem.W PyProof.Rows
set_option maxRecDepth 100000 in
set_option maxHeartbeats 0 in
theorem PySem.Challenge.cw_majordomo_k77_what_a_worker_should_do_holds : PySem.Challenge.rw_majordomo_k77_what_a_worker_should_do.Holds := by
  w_on; o_law; k_head; (case hw => w_witness2)
  k_fill
  refine Dl.walkT (l := PySem.Challenge.rw_majordomo_k77_what_a_worker_should_do) (k := 4) (x := "_law_script") rfl rfl ⟨rfl, by decide, by decide⟩ (fun w h Y => PySem.W.kIn_of Y) ?F
  case F =>
    intro w mg fa h KX G hmg
    refine' My.all_mk KX G hmg ?aC0 ?pg0 ?hd0 ?po0 ?sa0 ?mk0 ?kc0 ?na_0_0 ?a0 ?i0 ?l0 ?c0 ?k0 ?a1 ?i1 ?l1 ?c1 ?k1 ?a2 ?i2 ?l2 ?c2 ?k2 ?a3 ?i3 ?l3 ?c3 ?k3 ?a4 ?l4 ?c4 ?k4 ?a5 ?l5 ?c5 ?k5 ?a6 ?l6 ?c6 ?k6 ?a7 ?l7 ?c7 ?k7 ?a8 ?l8 ?c8 ?k8 ?a9 ?l9 ?c9 ?k9 ?a10 ?l10 ?c10 ?k10 ?a11 ?l11 ?c11 ?k11 ?a12 ?l12 ?c12 ?k12 ?a13 ?l13 ?c13 ?k13 ?z_abs ?z_int ?z_len ?z_range ?z_sorted ?z_str
    (case aC0 => k_is)
    (case pg0 => k_is)
    (case hd0 => k_is)
    (case po0 => k_is)
    (case sa0 => k_is)
    (case mk0 => k_is)
    (case kc0 => k_is)
    (case na_0_0 => k_is)
    (case a0 => k_is)
    (case i0 => k_is)
    (case l0 => k_is)
    (case c0 => k_is)
    (case k0 => k_is)
    (case a1 => k_is)
    (case i1 => k_is)
    (case l1 => k_is)
    (case c1 => k_is)
    (case k1 => k_is)
    (case a2 => k_is)
    (case i2 => k_is)
    (case l2 => k_is)
    (case c2 => k_is)
    (case k2 => k_is)
    (case a3 => k_is)
    (case i3 => k_is)
    (case l3 => k_is)
    (case c3 => k_is)
    (case k3 => k_is)
    (case a4 => k_is)
    (case l4 => k_is)
    (case c4 => k_is)
    (case k4 => k_is)
    (case a5 => k_is)
    (case l5 => k_is)
    (case c5 => k_is)
    (case k5 => k_is)
    (case a6 => k_is)
    (case l6 => k_is)
    (case c6 => k_is)
    (case k6 => k_is)
    (case a7 => k_is)
    (case l7 => k_is)
    (case c7 => k_is)
    (case k7 => k_is)
    (case a8 => k_is)
    (case l8 => k_is)
    (case c8 => k_is)
    (case k8 => k_is)
    (case a9 => k_is)
    (case l9 => k_is)
    (case c9 => k_is)
    (case k9 => k_is)
    (case a10 => k_is)
    (case l10 => k_is)
    (case c10 => k_is)
    (case k10 => k_is)
    (case a11 => k_is)
    (case l11 => k_is)
    (case c11 => k_is)
    (case k11 => k_is)
    (case a12 => k_is)
    (case l12 => k_is)
    (case c12 => k_is)
    (case k12 => k_is)
    (case a13 => k_is)
    (case l13 => k_is)
    (case c13 => k_is)
    (case k13 => k_is)
    (case z_abs => k_is)
    (case z_int => k_is)
    (case z_len => k_is)
    (case z_range => k_is)
    (case z_sorted => k_is)
    (case z_str => k_is)


